import PyProof.Rows.All
import Wide.All
import OpenK.AllK
import Wide.FinOn
import KE.KStateDown
import KE.KIndexOf
import KE.SortData
import HandS.ForMost
import HandS.ForExc
import HandS.Wide
import HandS.Defaults
import HandS.IsInst
import HandS.More
import HandS.HeadEnd
import HandS.Conv
import HandS.TupAny
import HandS.Lambda
import HandS.Style
import HandS.Deep
import HandS.SetFor
import HandS.RaiseMore
import KE.SortKeyHeap
import HandS.AnyAll
import HandS.Nested
import HandS.EndTab
import HandS.HeadHook2
import Lean
import HandS.Base
import HandS.Call
import HandS.Ends
import HandS.Words
import HandS.WordsExc
import HandS.Head0
import HandS.Head1
import HandS.Head2
import HandS.HeadHook1
import PySem.Challenge.RW_handsaway_k24_whole_two_factors_past_one
set_option Elab.async false
set_option linter.all false
set_option maxRecDepth 100000
set_option maxRecDepth 90000
set_option maxHeartbeats 0
/-! H3t: tuples whose objects have no dict, so that their methods can be called; rules of the hand layer that make tuples, with that told. -/
namespace H3
open PySem PySem.Spec L2
open PyProof.Rows hiding St

structure NoD (o : Obj) : Prop where
  cls : o.cls = .type "tuple"
  dict : o.dict = none
/-- a tuple without a dict -/
def TupN (K : PySem.W.Frag) (F : Hp) (a : Addr) (xs : List V) : Prop :=
  (∃ o, F a = some (.frz o (.tup xs)) ∧ NoD o) ∨ ∃ (o : Obj) (its : Array Value) (n : Nat), K.lookup a = some o ∧ NoD o ∧ o.data = .seq its n ∧ its.size ≤ sizeLine ∧ Vals xs its.toList
theorem TupN.sqt {K : PySem.W.Frag} {F : Hp} {a : Addr} {xs : List V} : TupN K F a xs → SqT K F a xs
  | .inl ⟨o, h, _⟩ => .inl (.inr ⟨o, h⟩)
  | .inr ⟨o, its, n, h1, h2, h3, h4, h5⟩ => .inr ⟨o, its, n, h1, h2.cls, h3, h4, h5⟩
theorem TupN.mono {K : PySem.W.Frag} {F F' : Hp} {a : Addr} {xs : List V} (e : Same F F') : TupN K F a xs → TupN K F' a xs
  | .inl ⟨o, h, n⟩ => .inl ⟨o, e _ _ h, n⟩
  | .inr h => .inr h
theorem TupN.ty {X : Cx} {pins : List (Addr × Obj)} {σ : L2.St} {H : Hp} {s : Shared} {a : Addr} {xs : List V} (I : Inv X pins σ H s) (h : TupN X.K H a xs) : s.TypeIs (.ref a) "tuple" ∧ ∃ ob, s.heap.get? a = some ob ∧ ob.dict = none := by
  rcases h with ⟨o, h, n⟩ | ⟨o, its, n, h1, h2, _⟩
  · have e : s.heap.get? a = some o := (I.hok a _ h).1
    exact ⟨⟨o, e, n.cls⟩, o, e, n.dict⟩
  · have e := I.kIn a o h1
    exact ⟨⟨o, e, h2.cls⟩, o, e, h2.dict⟩
mutual
/-- data, its tuples without dicts -/
inductive Dp (K : PySem.W.Frag) (F : Hp) : V → PyData → Prop
  | non : Dp K F .non .none
  | bl (b : Bool) : Dp K F (.bl b) (.bool b)
  | int (i : Int) : Dp K F (.int i) (.int i)
  | str (x : Str) : Dp K F (.str x) (.str x)
  | lst {a : Addr} {xs : List V} {ds : List PyData} (h : SqL K F a xs) (t : DpAll K F xs ds) : Dp K F (.ref a) (.list ds)
  | tup {a : Addr} {xs : List V} {ds : List PyData} (h : TupN K F a xs) (t : DpAll K F xs ds) : Dp K F (.ref a) (.tuple ds)
inductive DpAll (K : PySem.W.Frag) (F : Hp) : List V → List PyData → Prop
  | nil : DpAll K F [] []
  | cons {v : V} {vs : List V} {d : PyData} {ds : List PyData} (h : Dp K F v d) (t : DpAll K F vs ds) : DpAll K F (v :: vs) (d :: ds)
end
mutual
theorem Dp.q {K : PySem.W.Frag} {F : Hp} : ∀ {v : V} {x : PyData}, Dp K F v x → L2.Dp K F v x
  | _, _, .non => .non
  | _, _, .bl b => .bl b
  | _, _, .int i => .int i
  | _, _, .str x => .str x
  | _, _, .lst h t => .lst h (DpAll.q t)
  | _, _, .tup h t => .tup h.sqt (DpAll.q t)
theorem DpAll.q {K : PySem.W.Frag} {F : Hp} : ∀ {vs : List V} {xs : List PyData}, DpAll K F vs xs → L2.DpAll K F vs xs
  | _, _, .nil => .nil
  | _, _, .cons h t => .cons (Dp.q h) (DpAll.q t)
end
/-- the object of a new tuple -/
abbrev tobj (its : Array Value) : Obj := { cls := .type "tuple", data := .seq its }
theorem tobj_no {its : Array Value} : NoD (tobj its) := ⟨rfl, rfl⟩
section
variable {X : Cx} {s : Shared} {H : Hp} {σ : L2.St} {pins : List (Addr × Obj)}
/-- a new tuple is laid -/
theorem laidT {xs : List V} {its : Array Value} {h' : Heap} {t' : Nat} (I : Inv X pins σ H { s with heap := h' }) (r : Vals xs its.toList) (hz : xs.length ≤ sizeLine) :
    Inv X pins σ (upd H h'.objs.size (.frz (tobj its) (.tup xs))) { s with heap := h'.push (tobj its), toks := t' } :=
  I.laid (fun b o e => Heap.get?_push_of_some _ e) (Nat.le_refl _) ⟨Heap.get?_push_size _ rfl, hz, its.toList, r, tobj its, Heap.get?_push_size _ rfl, rfl, 0, by rw [Array.toArray_toList]⟩
/-- what follows a new tuple -/
def NewT (Q : VK) (xs : List V) (H : Hp) : Prop := ∀ p o, H p = none → NoD o → Q (.ref p) (upd H p (.frz o (.tup xs)))
variable {es : List Expr} {t : TA} {pos : Pos}
theorem pe_tupN {x1} (h : PA X es t) : PE X (.Tuple es x1 pos) (fun σ H Q => t σ H fun xs H1 => xs.length ≤ sizeLine ∧ NewT Q xs H1) := by
  constructor
  intro pins s σ H Q I hq
  refine wpAny_Tuple_spliced (thn (h.run pos pins s σ H _ I hq) fun us s1 ⟨xs, H1, I1, r, z, q⟩ => ⟨r.length ▸ z, ?_⟩)
  exact ⟨.ref _, _, laidT (its := us.toArray) (s := s1) (t' := s1.toks) I1 (by simpa using r) z, rfl, q _ _ I1.fresh tobj_no⟩
/-- a tuple's values in the state -/
theorem tupAt {a : Addr} {xs : List V} (I : Inv X pins σ H s) (h : SqT X.K H a xs) : ∃ its : List Value, Vals xs its ∧ IsTup s.heap a its.toArray ∧ its.toArray.size = xs.length ∧ xs.length ≤ sizeLine :=
  let ⟨its, rv, pt, hz⟩ := I.tuple h
  ⟨its, rv, pt, by rw [List.size_toArray]; exact rv.length.symm, hz⟩
theorem call_tuple_ofN : CallR X (.type "tuple") (fun xs H Q => ∃ p ys, xs = [.ref p] ∧ ((SqL X.K H p ys ∧ NewT Q ys H) ∨ (SqT X.K H p ys ∧ Q (.ref p) H))) := by
  rintro pins st σ H xs us Q I rr ⟨p, ys, rfl, hq⟩
  rw [Vals.ref1 rr]
  rcases hq with ⟨hl, q⟩ | ⟨ht, q⟩
  · obtain ⟨its, rv, pl, hz⟩ := I.list hl
    refine call_tuple_list pl.isList (fun hp kp => ?_) (by rw [List.size_toArray, ← rv.length]; exact hz)
    have J : Inv X pins σ H { st with heap := hp } := I.kept (t' := st.toks) kp
    exact ⟨.ref _, _, laidT (its := its.toArray) (s := st) (t' := st.toks) J (by simpa using rv) hz, rfl, q _ _ J.fresh tobj_no⟩
  · obtain ⟨_, _, pt, _⟩ := tupAt I ht
    exact call_tuple_same pt ⟨.ref p, H, I, rfl, q⟩
theorem pe_tupRgN {e : Expr} {te : L2.St → Hp → (Int → Int → Hp → Prop) → Prop} {p : Pos} (hc : X.calm = true) (hg : Gl X "tuple") (hm : X.mg "tuple" = none) (he : PRg X e te) (na : starEach [e] X.env = (false, eval e X.env) :: starEach [] X.env := by rfl) :
    PE X (.Call (.Name "tuple" p) [e] [] pos) (fun σ H Q => te σ H fun a b H1 => RgOk a b ∧ NewT Q (rgV a b) H1) := by
  constructor
  intro pins st σ H Q I h
  have arg := he pins st σ H _ I h
  refine Call_ (ld_blt I hg hm boot_tuple ?_)
  refine PyProof.Rows.callWith_type1 (args_cons (thn arg ?_) na) na
  rintro _ s1 ⟨rg, a, b, t1, t2, t3, H1, rfl, hr, I1, ⟨a1, a2, b1, b2, hn⟩, q⟩
  refine args_nil (call_tuple_range (n := (b - a).toNat) (I1.ok.hd hc) hr (small_one a1 a2 b1 b2) (rangeSize_nat a b) hn fun hp tk acc hk hi => ?_)
  have J : Inv X pins σ H1 { s1 with heap := hp, toks := tk } := I1.kept hk
  have hz : (rgV a b).length ≤ sizeLine := by rw [rgV_length, sizeLine_eq]; omega
  exact ⟨.ref _, _, laidT (its := acc) (s := { s1 with toks := tk }) (t' := tk) J (vals_rg hi) hz, rfl, q _ _ J.fresh tobj_no⟩
/-- all of a tuple is cut -/
def Whole (n : Nat) (lo hi : Option Int) : Prop := HT.sIx n 0 lo = 0 ∧ HT.sIx n n hi = n
/-- t[lo:hi] -/
def rSlN (K : PySem.W.Frag) : V → Option Int → Option Int → Hp → VK → Prop := fun x lo hi H Q => ∃ a xs, x = .ref a ∧ SqT K H a xs ∧ (Whole xs.length lo hi → Q (.ref a) H) ∧ (¬ Whole xs.length lo hi → NewT Q (cutV xs lo hi) H)
theorem sl_tupN : SlR X (rSlN X.K) := by
  rintro pins st σ H _ v vl vu lo hi sl Q I rx hs pl pu ⟨a, xs, rfl, hx, qw, qc⟩
  rcases Classical.em (Whole xs.length lo hi) with yes | no
  · exact sl_tupA pins st σ H _ v vl vu lo hi sl Q I rx hs pl pu ⟨a, xs, rfl, hx, qw, fun n => absurd yes n⟩
  · cases rx
    obtain ⟨its, rv, pt, sz, hz⟩ := tupAt I hx
    refine ⟨"tuple", _, PyProof.Rows.slot_tuple_getitem.lookup, pt.typeIs, HT.getItem_tuple_cut pt hs pl pu (by rw [sz]; exact no) ?_ (by rw [sz]; exact hz)⟩
    rw [sz]
    have rc : Vals (cutV xs lo hi) _ := (rv.drop (HT.sIx xs.length 0 lo)).take (HT.sIx xs.length xs.length hi - HT.sIx xs.length 0 lo)
    exact ⟨.ref _, _, laidT (s := st) (t' := st.toks) I (by simpa using rc) (Nat.le_trans (cutV_length xs lo hi) hz), rfl, qc no _ _ I.fresh tobj_no⟩
/-- t + u -/
def rCatN (K : PySem.W.Frag) : R2 := fun x y H Q => ∃ a b xs ys, x = .ref a ∧ y = .ref b ∧ SqT K H a xs ∧ SqT K H b ys ∧ xs.length + ys.length ≤ sizeLine ∧
  (xs = [] → Q (.ref b) H) ∧ (xs ≠ [] → ys = [] → Q (.ref a) H) ∧ (xs ≠ [] → ys ≠ [] → NewT Q (xs ++ ys) H)
theorem op_catN : OpR X (binaryOp .Add) (rCatN X.K) := by
  rintro pins st σ H _ _ v u Q I rx ry ⟨a, b, xs, ys, rfl, rfl, ha, hb, hz, qe, ql, qn⟩
  rcases Classical.em (xs = []) with e | ne
  · exact op_catA pins st σ H _ _ v u Q I rx ry ⟨a, b, xs, ys, rfl, rfl, ha, hb, hz, qe, ql, fun n => absurd e n⟩
  · cases rx
    cases ry
    obtain ⟨ia, va, pa, na, _⟩ := tupAt I ha
    obtain ⟨ib, vb, pb, nb, _⟩ := tupAt I hb
    refine HT.cat_tup pa pb (fun z => ne (va.nil_iff.mp z)) (fun z => ⟨.ref a, H, I, rfl, ql ne (vb.nil_iff.mp z)⟩) (fun z => ?_) (by rw [← va.length, ← vb.length]; exact hz)
    exact ⟨.ref _, _, laidT (s := st) (t' := st.toks) I (by simpa using va.append vb) (by rw [List.length_append]; exact hz), rfl, qn ne (fun y0 => z (vb.nil_iff.mpr y0)) _ _ I.fresh tobj_no⟩
/-! ### methods of tuples -/
/-- a call o.name(e, ..) of the plain kind: five facts of its text -/
structure MCall (X : Cx) (o : Expr) (name : Str) (apos cpos : Pos) (e : Expr) (es : List Expr) : Prop where
  base : attributeBase o name X.env (eval o X.env) = eval o X.env
  few : ((backTo cpos (starEach (e :: es) X.env)).all (fun z => !z.1) && (backToKw cpos (keywordEach [] X.env)).all (fun z => z.1.isSome) && decide ((e :: es).length + ([] : List Keyword).length + (if ([] : List Keyword).isEmpty then 0 else 1) < 30)) = true
  sameRow : (apos.endLine == cpos.line) = true
  star : starEach (e :: es) X.env = (false, eval e X.env) :: starEach es X.env
  plain : (backTo cpos (starEach es X.env)).any (·.1) = false
variable {o e : Expr} {to : TE} {name : Str} {apos cpos : Pos} {id : String} {r : V → List V → Hp → VK → Prop}
theorem pe_tm (slot : Slot "tuple" name id) (hty : typeOf (.builtin id) = pure (.type "method_descriptor")) (hm : MtR X id r) (ho : PE X o to) (ha : PA X (e :: es) t) (mc : MCall X o name apos cpos e es) :
    PE X (.Call (.Attribute o name apos) (e :: es) [] cpos) (fun σ H Q => to σ H fun x H1 => (∃ a xs, x = .ref a ∧ TupN X.K H1 a xs) ∧ t σ H1 fun xs H2 => r x xs H2 Q) := by
  constructor
  intro pins s σ H Q I h
  refine wpAny_Call_method_late mc.base mc.few mc.sameRow rfl (thn (ho.run pins s σ H _ I h) ?_)
  rintro v s1 ⟨x, H1, I1, r1, ⟨a, xs, e1, ty⟩, q1⟩
  subst e1
  cases (show v = .ref a from r1)
  have tt := ty.ty I1
  refine ⟨"tuple", id, PySem.F.plainAttrs_tuple, slot, hty, tt.1, fun b eb => by cases eb; exact tt.2, ?_⟩
  have args := ha.run cpos pins s1 σ H1 _ I1 q1
  rw [mc.star] at args ⊢
  have noStar : (((false, eval e X.env) :: backTo cpos (starEach es X.env)).any (·.1)) = false := by rw [List.any_cons, mc.plain]; rfl
  exact Calls.callWith_builtin noStar (Calls.evalArgs_plain (thn args fun us s2 ⟨vs, H2, I2, r2, q2⟩ => hm pins s2 σ H2 (.ref a) vs (.ref a) us Q I2 (show RelV (V.ref a) (Value.ref a) from rfl) r2 q2))
theorem mt_tupIndexI : MtR X "tuple.index" (fun x xs H Q => ∃ (p : Addr) (ns : List Int) (k : Int), x = .ref p ∧ xs = [.int k] ∧ SqT X.K H p (ns.map V.int) ∧ k ∈ ns ∧ Q (.int (ns.idxOf k : Nat)) H) := by
  rintro pins st σ H x xs v us Q I rx rxs ⟨p, ns, k, rfl, rfl, hq, hk, q⟩
  cases (show v = .ref p from rx)
  obtain ⟨y, rfl, tk, rfl⟩ := vals1 rxs
  obtain ⟨its, rv, pl, hz⟩ := I.tuple hq
  exact SeqAt.tuple_index_ints (vs := its) (show st.heap.IsTuple p its.toArray from pl) (intsAre_of rv) hk ⟨.int (ns.idxOf k : Nat), H, I.tok _, ⟨_, rfl⟩, q⟩
end
end H3

/-! H3: data as values. Tuples, ints, texts and lists that nobody changes any more are plain data (PyData); lists that are changed, and instances, lie in a small store. -/
namespace H3
open PySem PySem.Spec L2

/-! ### worlds of values -/
inductive W where
  | d (x : PyData)
  | r (a : Addr)
  | ty (n : String)
abbrev W.int (i : Int) : W := .d (.int i)
abbrev W.bl (b : Bool) : W := .d (.bool b)
abbrev W.str (s : Str) : W := .d (.str s)
abbrev W.non : W := .d .none
abbrev W.tup (xs : List PyData) : W := .d (.tuple xs)
abbrev W.lst (xs : List PyData) : W := .d (.list xs)
/-- what may change -/
inductive SO where
  | lst (ws : List W)
  | ins (C : Addr) (fs : List (Str × W))
  /-- a table of code objects; told: the one name that they bear -/
  | tb (q : Option Str)
abbrev Sto := Addr → Option SO
def put (S : Sto) (a : Addr) (o : SO) : Sto := fun b => if b = a then some o else S b
def drp (S : Sto) (a : Addr) : Sto := fun b => if b = a then none else S b
theorem put_same {S : Sto} {a : Addr} {o : SO} : put S a o a = some o := if_pos rfl
theorem put_ne {S : Sto} {a b : Addr} {o : SO} (h : b ≠ a) : put S a o b = S b := if_neg h
theorem put_put {S : Sto} {a : Addr} {o u : SO} : put (put S a o) a u = put S a u := by
  funext b
  unfold put
  by_cases h : b = a
  · rw [if_pos h, if_pos h]
  · rw [if_neg h, if_neg h, if_neg h]
theorem drp_ne {S : Sto} {a b : Addr} (h : b ≠ a) : drp S a b = S b := if_neg h
theorem drp_same {S : Sto} {a : Addr} : drp S a a = none := if_pos rfl

mutual
theorem dp_mono {K : PySem.W.Frag} {F F' : Hp} (e : Same F F') : ∀ {v : V} {x : PyData}, Dp K F v x → Dp K F' v x
  | _, _, .non => .non
  | _, _, .bl b => .bl b
  | _, _, .int i => .int i
  | _, _, .str x => .str x
  | _, _, .lst h t => .lst (e.seq h) (dpAll_mono e t)
  | _, _, .tup h t => .tup (h.mono e) (dpAll_mono e t)
theorem dpAll_mono {K : PySem.W.Frag} {F F' : Hp} (e : Same F F') : ∀ {vs : List V} {xs : List PyData}, DpAll K F vs xs → DpAll K F' vs xs
  | _, _, .nil => .nil
  | _, _, .cons h t => .cons (dp_mono e h) (dpAll_mono e t)
end
theorem sqt_mono {K : PySem.W.Frag} {F F' : Hp} (e : Same F F') {a : Addr} {xs : List V} : SqT K F a xs → SqT K F' a xs
  | .inl (.inl q) => .inl (.inl (e _ _ q))
  | .inl (.inr ⟨o, q⟩) => .inl (.inr ⟨o, e _ _ q⟩)
  | .inr q => .inr q

/-- what stays for good (f), and what is hidden: nobody reads or writes it meanwhile (g) -/
structure Fz where
  g : Hp
  f : Hp
def Fz.new (F : Fz) (p : Addr) (o : HO) : Fz := ⟨F.g, upd F.f p o⟩
structure Sm (F F' : Fz) : Prop where
  g : F'.g = F.g
  f : Same F.f F'.f
theorem Sm.refl (F : Fz) : Sm F F := ⟨rfl, fun _ _ h => h⟩
theorem Sm.trans {F F' F2 : Fz} (a : Sm F F') (b : Sm F' F2) : Sm F F2 := ⟨b.g.trans a.g, a.f.trans b.f⟩

def RepW (K : PySem.W.Frag) (F : Fz) : W → V → Prop
  | .d x, v => Dp K F.f v x
  | .r a, v => v = .ref a
  | .ty n, v => v = .ty n
theorem RepW.mono {K : PySem.W.Frag} {F F' : Fz} (e : Sm F F') {w : W} {v : V} (h : RepW K F w v) : RepW K F' w v := by
  cases w with
  | d x => exact dp_mono e.f h
  | r a => exact h
  | ty n => exact h
abbrev RepWs (K : PySem.W.Frag) (F : Fz) : List W → List V → Prop := Paired (RepW K F)
theorem RepWs.mono {K : PySem.W.Frag} {F F' : Fz} (e : Sm F F') {ws : List W} {vs : List V} (h : RepWs K F ws vs) : RepWs K F' ws vs := Paired.mapP h fun _ _ r => RepW.mono e r
theorem repWs_of_all {K : PySem.W.Frag} {F : Fz} : ∀ {vs : List V} {ds : List PyData}, DpAll K F.f vs ds → RepWs K F (ds.map W.d) vs
  | _, _, .nil => .nil
  | _, _, .cons h t => .cons h (repWs_of_all t)
theorem all_of_repWs {K : PySem.W.Frag} {F : Fz} : ∀ {ds : List PyData} {vs : List V}, RepWs K F (ds.map W.d) vs → DpAll K F.f vs ds
  | [], _, h => by cases h; exact .nil
  | _ :: _, _, h => by
    cases h with
    | cons a t => exact .cons a (all_of_repWs t)
/-- fields of an instance -/
def RepFs (K : PySem.W.Frag) (F : Fz) : List (Str × W) → List (Str × V) → Prop := Paired fun p q => p.1 = q.1 ∧ RepW K F p.2 q.2
theorem RepFs.mono {K : PySem.W.Frag} {F F' : Fz} (e : Sm F F') {fs : List (Str × W)} {gs : List (Str × V)} (h : RepFs K F fs gs) : RepFs K F' fs gs := Paired.mapP h fun _ _ r => ⟨r.1, RepW.mono e r.2⟩
def RepO (K : PySem.W.Frag) (F : Fz) : SO → HO → Prop
  | .lst ws, o => ∃ vs, o = .lst vs ∧ RepWs K F ws vs
  | .ins C fs, o => ∃ dx gs, o = .ins C dx gs ∧ RepFs K F fs gs
  | .tb q, o => ∃ ps, o = .tbl ps ∧ TriplesOk ps.toList ∧ ∀ x, q = some x → ∀ pos cv, codeAmong pos ps.toList = some cv → ∃ c, cv = .ref c ∧ F.f c = some (LamX.CodeO c x)
theorem RepO.mono {K : PySem.W.Frag} {F F' : Fz} (e : Sm F F') {p : SO} {o : HO} (h : RepO K F p o) : RepO K F' p o := by
  cases p with
  | lst ws => obtain ⟨vs, rfl, r⟩ := h; exact ⟨vs, rfl, RepWs.mono e r⟩
  | ins C fs => obtain ⟨dx, gs, rfl, r⟩ := h; exact ⟨dx, gs, rfl, RepFs.mono e r⟩
  | tb q => obtain ⟨ps, e1, e2, e3⟩ := h; exact ⟨ps, e1, e2, fun x hx pos cv hc => let ⟨c, a, b⟩ := e3 x hx pos cv hc; ⟨c, a, e.f c _ b⟩⟩

/-- the heap H: F the part that stays for good (and what is hidden), S what may change -/
structure Rel (K : PySem.W.Frag) (F : Fz) (S : Sto) (H : Hp) : Prop where
  fz : ∀ a o, F.f a = some o → H a = some o ∧ S a = none ∧ F.g a = none
  st : ∀ a p, S a = some p → F.g a = none ∧ ∃ o, H a = some o ∧ RepO K F p o
  hd : ∀ a o, F.g a = some o → H a = some o
section
variable {K : PySem.W.Frag} {F : Fz} {S : Sto} {H : Hp}
theorem Rel.same (R : Rel K F S H) : Same F.f H := fun a o h => (R.fz a o h).1
theorem Rel.freeF (R : Rel K F S H) {p : Addr} (h : H p = none) : F.f p = none := by
  cases e : F.f p with
  | none => rfl
  | some o => rw [(R.fz p o e).1] at h; cases h
theorem Rel.freeG (R : Rel K F S H) {p : Addr} (h : H p = none) : F.g p = none := by
  cases e : F.g p with
  | none => rfl
  | some o => rw [R.hd p o e] at h; cases h
theorem Rel.freeS (R : Rel K F S H) {p : Addr} (h : H p = none) : S p = none := by
  cases e : S p with
  | none => rfl
  | some o =>
    obtain ⟨_, u, hu, _⟩ := R.st p o e
    rw [hu] at h; cases h
theorem same_upd {G : Hp} {p : Addr} {o : HO} (h : G p = none) : Same G (upd G p o) := fun b u e => by
  rw [upd_ne (ne_of_none e h)]; exact e
theorem sm_new {p : Addr} {o : HO} (h : F.f p = none) : Sm F (F.new p o) := ⟨rfl, same_upd h⟩
/-- a new thing that stays -/
theorem Rel.newF (R : Rel K F S H) {p : Addr} {o : HO} (h : H p = none) : Rel K (F.new p o) S (upd H p o) := by
  have hF := R.freeF h
  have hS := R.freeS h
  have hG := R.freeG h
  refine ⟨fun a u e => ?_, fun a u e => ?_, fun a u e => ?_⟩
  · have e : upd F.f p o a = some u := e
    by_cases ha : a = p
    · subst ha
      rw [upd_same] at e ⊢
      exact ⟨e, hS, hG⟩
    · rw [upd_ne ha] at e ⊢
      exact R.fz a u e
  · obtain ⟨g, v, hv, r⟩ := R.st a u e
    have ha : a ≠ p := ne_of_none hv h
    exact ⟨g, v, by rw [upd_ne ha]; exact hv, r.mono (sm_new hF)⟩
  · have e : F.g a = some u := e
    rw [upd_ne (ne_of_none e hG)]
    exact R.hd a u e
/-- a new thing that may change -/
theorem Rel.newS (R : Rel K F S H) {p : Addr} {o : HO} {q : SO} (h : H p = none) (r : RepO K F q o) : Rel K F (put S p q) (upd H p o) := by
  have hF := R.freeF h
  have hG := R.freeG h
  refine ⟨fun a u e => ?_, fun a u e => ?_, fun a u e => ?_⟩
  · have ha : a ≠ p := ne_of_none e hF
    rw [upd_ne ha, put_ne ha]
    exact R.fz a u e
  · by_cases ha : a = p
    · subst ha
      rw [put_same] at e
      cases e
      exact ⟨hG, o, upd_same, r⟩
    · rw [put_ne ha] at e
      obtain ⟨g, v, hv, r'⟩ := R.st a u e
      exact ⟨g, v, by rw [upd_ne ha]; exact hv, r'⟩
  · rw [upd_ne (ne_of_none e hG)]
    exact R.hd a u e
/-- a change -/
theorem Rel.write (R : Rel K F S H) {p : Addr} {o : HO} {q0 q : SO} (h : S p = some q0) (r : RepO K F q o) : Rel K F (put S p q) (upd H p o) := by
  have hG := (R.st p q0 h).1
  refine ⟨fun a u e => ?_, fun a u e => ?_, fun a u e => ?_⟩
  · have ha : a ≠ p := by
      rintro rfl
      rw [(R.fz a u e).2.1] at h; cases h
    rw [upd_ne ha, put_ne ha]
    exact R.fz a u e
  · by_cases ha : a = p
    · subst ha
      rw [put_same] at e
      cases e
      exact ⟨hG, o, upd_same, r⟩
    · rw [put_ne ha] at e
      obtain ⟨g, v, hv, r'⟩ := R.st a u e
      exact ⟨g, v, by rw [upd_ne ha]; exact hv, r'⟩
  · rw [upd_ne (ne_of_none e hG)]
    exact R.hd a u e
/-- a list that is not changed any more -/
theorem Rel.freeze (R : Rel K F S H) {a : Addr} {ds : List PyData} (h : S a = some (.lst (ds.map W.d))) : ∃ F', Sm F F' ∧ Rel K F' (drp S a) H ∧ RepW K F' (.d (.list ds)) (.ref a) := by
  obtain ⟨hG, o, ho, vs, rfl, rv⟩ := R.st a _ h
  have hF : F.f a = none := by
    cases e : F.f a with
    | none => rfl
    | some u => rw [(R.fz a u e).2.1] at h; cases h
  have s := sm_new (p := a) (o := HO.lst vs) hF
  refine ⟨F.new a (.lst vs), s, ⟨fun b u e => ?_, fun b u e => ?_, R.hd⟩, Dp.lst (.inl (.inl (show upd F.f a (HO.lst vs) a = _ from upd_same))) (dpAll_mono s.f (all_of_repWs rv))⟩
  · have e : upd F.f a (.lst vs) b = some u := e
    by_cases hb : b = a
    · subst hb
      rw [upd_same] at e
      cases e
      exact ⟨ho, drp_same, hG⟩
    · rw [upd_ne hb] at e
      rw [drp_ne hb]
      exact R.fz b u e
  · by_cases hb : b = a
    · subst hb
      rw [drp_same] at e; cases e
    · rw [drp_ne hb] at e
      obtain ⟨g, v, hv, r⟩ := R.st b u e
      exact ⟨g, v, hv, r.mono s⟩
/-- less is known -/
def Sub (S S' : Sto) : Prop := ∀ a p, S a = some p → S' a = some p
theorem Sub.refl (S : Sto) : Sub S S := fun _ _ h => h
theorem Sub.trans {S1 S2 S3 : Sto} (a : Sub S1 S2) (b : Sub S2 S3) : Sub S1 S3 := fun c p h => b c p (a c p h)
theorem Sub.new {S : Sto} {p : Addr} {o : SO} (h : S p = none) : Sub S (put S p o) := fun a q e => by
  have ha : a ≠ p := by rintro rfl; rw [h] at e; cases e
  rw [put_ne ha]; exact e
theorem Rel.less {S' : Sto} (R : Rel K F S' H) (h : Sub S S') : Rel K F S H := by
  refine ⟨fun a o e => ⟨(R.fz a o e).1, ?_, (R.fz a o e).2.2⟩, fun a p e => R.st a p (h a p e), R.hd⟩
  cases q : S a with
  | none => rfl
  | some u =>
    have := h a u q
    rw [(R.fz a o e).2.1] at this; cases this
/-- something new is hidden; what was hidden comes forth -/
theorem Rel.hide (R : Rel K F S H) {p : Addr} {o : HO} (h : H p = none) : Rel K ⟨upd F.g p o, F.f⟩ S (upd H p o) := by
  have hF := R.freeF h
  have hS := R.freeS h
  have rm : ∀ {q : SO} {u : HO}, RepO K F q u → RepO K ⟨upd F.g p o, F.f⟩ q u := fun {q u} r => by
    cases q with
    | lst ws => obtain ⟨vs, e, r⟩ := r; exact ⟨vs, e, Paired.mapP r fun w v z => by cases w <;> exact z⟩
    | ins C fs => obtain ⟨dx, gs, e, r⟩ := r; exact ⟨dx, gs, e, Paired.mapP r fun w v z => ⟨z.1, by cases w; rename_i a b; cases b <;> exact z.2⟩⟩
    | tb => exact r
  refine ⟨fun a u e => ?_, fun a u e => ?_, fun a u e => ?_⟩
  · have ha : a ≠ p := ne_of_none e hF
    refine ⟨by rw [upd_ne ha]; exact (R.fz a u e).1, (R.fz a u e).2.1, ?_⟩
    show upd F.g p o a = none
    rw [upd_ne ha]
    exact (R.fz a u e).2.2
  · obtain ⟨g, v, hv, r⟩ := R.st a u e
    have ha : a ≠ p := ne_of_none hv h
    refine ⟨?_, v, by rw [upd_ne ha]; exact hv, rm r⟩
    show upd F.g p o a = none
    rw [upd_ne ha]; exact g
  · have e : upd F.g p o a = some u := e
    by_cases ha : a = p
    · subst ha; rw [upd_same] at e ⊢; exact e
    · rw [upd_ne ha] at e ⊢; exact R.hd a u e
end

/-! ### the slots -/
abbrev Sl := List (Option W)
/-- what is wanted of an exception: its class, its attributes, the slots and the store -/
abbrev XS := Addr → List (Str × W) → Sl → Sto → Prop
structure S3 where
  sl : Sl
  ex : XS
abbrev S3.set (τ : S3) (i : Nat) (w : Option W) : S3 := ⟨τ.sl.set i w, τ.ex⟩
def SlE (K : PySem.W.Frag) (F : Fz) (τ : Sl) (σ : St) : Prop := τ.length = σ.length ∧ ∀ (i : Nat) (w : W), τ[i]? = some (some w) → ∃ v, σ[i]? = some (some v) ∧ RepW K F w v
section
variable {K : PySem.W.Frag} {F F' : Fz} {τ : Sl} {σ : St}
theorem SlE.mono (e : Sm F F') (h : SlE K F τ σ) : SlE K F' τ σ := ⟨h.1, fun i w q => let ⟨v, a, b⟩ := h.2 i w q; ⟨v, a, RepW.mono e b⟩⟩
theorem SlE.set {i : Nat} {w : W} {v : V} (h : SlE K F τ σ) (r : RepW K F w v) : SlE K F (τ.set i (some w)) (σ.set i (some v)) := by
  refine ⟨by simpa using h.1, fun j u q => ?_⟩
  by_cases hj : i = j
  · subst hj
    have hi : i < τ.length := by
      have := (List.getElem?_eq_some_iff.mp q).1
      simpa using this
    rw [List.getElem?_set_self hi] at q
    cases q
    exact ⟨v, List.getElem?_set_self (by rw [← h.1]; exact hi), r⟩
  · rw [List.getElem?_set_ne hj] at q ⊢
    exact h.2 j u q
theorem SlE.unset {i : Nat} (h : SlE K F τ σ) : SlE K F (τ.set i none) (σ.set i none) := by
  refine ⟨by simpa using h.1, fun j u q => ?_⟩
  by_cases hj : i = j
  · subst hj
    have hi : i < τ.length := by
      have := (List.getElem?_eq_some_iff.mp q).1
      simpa using this
    rw [List.getElem?_set_self hi] at q
    cases q
  · rw [List.getElem?_set_ne hj] at q ⊢
    exact h.2 j u q
end
/-- an exception's wish -/
def KXS (K : PySem.W.Frag) (F : Fz) (ex : XS) (E : WX) : Prop := ∀ F' S' H' C dd fs gs sl σ, Sm F F' → Rel K F' S' H' → F'.f dd = some (.xd gs) → RepFs K F' fs gs → SlE K F' sl σ → ex C fs sl S' → E (.ref C) (some dd) σ H'
structure EnvR (K : PySem.W.Frag) (F : Fz) (E : WX) (τ : S3) (σ : St) : Prop where
  sl : SlE K F τ.sl σ
  ex : KXS K F τ.ex E
section
variable {K : PySem.W.Frag} {F F' : Fz} {E : WX} {τ : S3} {σ : St}
theorem KXS.mono {ex : XS} (k : KXS K F ex E) (e : Sm F F') : KXS K F' ex E := fun F2 S' H' C dd fs gs sl σ s => k F2 S' H' C dd fs gs sl σ (e.trans s)
theorem EnvR.mono (e : Sm F F') (h : EnvR K F E τ σ) : EnvR K F' E τ σ := ⟨h.sl.mono e, h.ex.mono e⟩
theorem EnvR.set {i : Nat} {w : W} {v : V} (h : EnvR K F E τ σ) (r : RepW K F w v) : EnvR K F E (τ.set i (some w)) (σ.set i (some v)) := ⟨h.sl.set r, h.ex⟩
theorem EnvR.unset {i : Nat} (h : EnvR K F E τ σ) : EnvR K F E (τ.set i none) (σ.set i none) := ⟨h.sl.unset, h.ex⟩
end
def wipe3 (τ : Sl) : List Nat → Sl
  | [] => τ
  | i :: l => (wipe3 τ l).set i none

/-! ### readings -/
abbrev K3 := W → Sto → Prop
abbrev TE3 := S3 → Sto → K3 → Prop
abbrev TT3 := S3 → Sto → (Bool → Sto → Prop) → Prop
abbrev TA3 := S3 → Sto → (List W → Sto → Prop) → Prop
structure Ends3 where
  nx : S3 → Sto → Prop
  rt : K3
  bk : S3 → Sto → Prop := fun _ _ => False
  ct : S3 → Sto → Prop := fun _ _ => False
abbrev TS3 := Ends3 → S3 → Sto → Prop

/-- what follows -/
def KE (K : PySem.W.Frag) (F : Fz) (Q3 : K3) (Q : VK) : Prop := ∀ F' S' H' w v, Sm F F' → Rel K F' S' H' → RepW K F' w v → Q3 w S' → Q v H'
def KT (K : PySem.W.Frag) (F : Fz) (Q3 : Bool → Sto → Prop) (Q : Bool → Hp → Prop) : Prop := ∀ F' S' H' b, Sm F F' → Rel K F' S' H' → Q3 b S' → Q b H'
def KA (K : PySem.W.Frag) (F : Fz) (Q3 : List W → Sto → Prop) (Q : List V → Hp → Prop) : Prop := ∀ F' S' H' ws vs, Sm F F' → Rel K F' S' H' → RepWs K F' ws vs → Q3 ws S' → Q vs H'
def KS (K : PySem.W.Frag) (F : Fz) (E : WX) (Q3 : S3 → Sto → Prop) (Q : St → Hp → Prop) : Prop := ∀ F' S' H' τ σ, Sm F F' → Rel K F' S' H' → EnvR K F' E τ σ → Q3 τ S' → Q σ H'
section
variable {K : PySem.W.Frag} {F F' : Fz} {E : WX}
theorem KE.mono {Q3 : K3} {Q : VK} (k : KE K F Q3 Q) (e : Sm F F') : KE K F' Q3 Q := fun F2 S' H' w v s => k F2 S' H' w v (e.trans s)
theorem KT.mono {Q3 : Bool → Sto → Prop} {Q : Bool → Hp → Prop} (k : KT K F Q3 Q) (e : Sm F F') : KT K F' Q3 Q := fun F2 S' H' b s => k F2 S' H' b (e.trans s)
theorem KA.mono {Q3 : List W → Sto → Prop} {Q : List V → Hp → Prop} (k : KA K F Q3 Q) (e : Sm F F') : KA K F' Q3 Q := fun F2 S' H' w v s => k F2 S' H' w v (e.trans s)
theorem KS.mono {Q3 : S3 → Sto → Prop} {Q : St → Hp → Prop} (k : KS K F E Q3 Q) (e : Sm F F') : KS K F' E Q3 Q := fun F2 S' H' w v s => k F2 S' H' w v (e.trans s)
end
structure KD (K : PySem.W.Frag) (F : Fz) (E : WX) (D3 : Ends3) (D : Ends) : Prop where
  nx : KS K F E D3.nx D.nx
  rt : KE K F D3.rt D.rt
  bk : KS K F E D3.bk D.bk
  ct : KS K F E D3.ct D.ct
theorem KD.mono {K : PySem.W.Frag} {F F' : Fz} {E : WX} {Q3 : Ends3} {Q : Ends} (k : KD K F E Q3 Q) (e : Sm F F') : KD K F' E Q3 Q := ⟨k.nx.mono e, k.rt.mono e, k.bk.mono e, k.ct.mono e⟩

def LE (K : PySem.W.Frag) (E : WX) (t : TE3) : TE := fun σ H Q => ∃ F S τ Q3, Rel K F S H ∧ EnvR K F E τ σ ∧ t τ S Q3 ∧ KE K F Q3 Q
def LT (K : PySem.W.Frag) (E : WX) (t : TT3) : TT := fun σ H Q => ∃ F S τ Q3, Rel K F S H ∧ EnvR K F E τ σ ∧ t τ S Q3 ∧ KT K F Q3 Q
def LA (K : PySem.W.Frag) (E : WX) (t : TA3) : TA := fun σ H Q => ∃ F S τ Q3, Rel K F S H ∧ EnvR K F E τ σ ∧ t τ S Q3 ∧ KA K F Q3 Q
def LS (K : PySem.W.Frag) (E : WX) (t : TS3) : TS := fun D σ H => ∃ F S τ D3, Rel K F S H ∧ EnvR K F E τ σ ∧ t D3 τ S ∧ KD K F E D3 D

/-! ### weaker readings -/
section
variable {X : Cx}
theorem pe_imp {e : Expr} {t u : TE} (h : PE X e t) (i : ∀ σ H Q, u σ H Q → t σ H Q) : PE X e u := ⟨fun pins s σ H Q I q => h.run pins s σ H Q I (i _ _ _ q)⟩
theorem pt_imp {e : Expr} {t u : TT} (h : PT X e t) (i : ∀ σ H Q, u σ H Q → t σ H Q) : PT X e u := ⟨fun pins s σ H Q I q => h.run pins s σ H Q I (i _ _ _ q)⟩
theorem pw_imp {e : Expr} {t u : TT} (h : PW X e t) (i : ∀ σ H Q, u σ H Q → t σ H Q) : PW X e u := ⟨fun whole pins s σ H Q I q => h.run whole pins s σ H Q I (i _ _ _ q)⟩
theorem pa_imp {e : List Expr} {t u : TA} (h : PA X e t) (i : ∀ σ H Q, u σ H Q → t σ H Q) : PA X e u := ⟨fun pos pins s σ H Q I q => h.run pos pins s σ H Q I (i _ _ _ q)⟩
theorem pk_imp {e : List Keyword} {t u : TA} (h : PK X e t) (i : ∀ σ H Q, u σ H Q → t σ H Q) : PK X e u := ⟨fun pos pins s σ H Q I q => h.run pos pins s σ H Q I (i _ _ _ q)⟩
theorem ps_imp {e : Stmt} {t u : TS} (h : PS X e t) (i : ∀ D σ H, u D σ H → t D σ H) : PS X e u := ⟨fun pins s σ H D I q => h.run pins s σ H D I (i _ _ _ q)⟩
theorem pss_imp {e : List Stmt} {t u : TS} (h : PSs X e t) (i : ∀ D σ H, u D σ H → t D σ H) : PSs X e u := ⟨fun pins s σ H D I q => h.run pins s σ H D I (i _ _ _ q)⟩
end

/-! ### names, constants -/
section
variable {X : Cx} {E : WX}
def tVar3 (i : Nat) : TE3 := fun τ S Q => ∃ w, τ.sl[i]? = some (some w) ∧ Q w S
def tC3 (w : W) : TE3 := fun _ S Q => Q w S
theorem pv3 (i : Nat) {x : Str} {pos : Pos} (hN : X.N[i]? = some x := by rfl) (hv : Vis X.env.scope x := by first | exact Or.inl rfl | exact Or.inr (Or.inl rfl) | exact Or.inr (Or.inr rfl)) (hd : (x == ("__debug__" : Str)) = false := by decide)
    (hcd : (x == ("__classdict__" : Str)) = false := by decide) : PE X (.Name x pos) (LE X.K E (tVar3 i)) :=
  pe_imp (pv i hN hv hd hcd) fun σ H Q ⟨F, S, τ, Q3, R, Ev, ⟨w, e, h⟩, k⟩ => by
    obtain ⟨v, ev, r⟩ := Ev.sl.2 i w e
    exact ⟨v, ev, k F S H w v (Sm.refl F) R r h⟩
theorem le_const {t : TE} {e : Expr} {v : V} {w : W} (h : PE X e (tC v)) (r : ∀ F, RepW X.K F w v) : PE X e (LE X.K E (tC3 w)) :=
  pe_imp h fun σ H Q ⟨F, S, τ, Q3, R, Ev, h, k⟩ => k F S H w v (Sm.refl F) R (r F) h
theorem pi3 {i : Int} {j pos} : PE X (.Constant (.int i) j pos) (LE X.K E (tC3 (.int i))) := le_const (t := tC (.int i)) pe_int fun _ => Dp.int i
theorem pb3 {b j pos} : PE X (.Constant (.bool b) j pos) (LE X.K E (tC3 (.bl b))) := le_const (t := tC (.bl b)) pe_bl fun _ => Dp.bl b
theorem pn3 {j pos} : PE X (.Constant .none j pos) (LE X.K E (tC3 .non)) := le_const (t := tC .non) pe_non fun _ => Dp.non
theorem pstr3 {x j pos} : PE X (.Constant (.str x) j pos) (LE X.K E (tC3 (.str x))) := le_const (t := tC (.str x)) pe_str fun _ => Dp.str x
/-- the name of a built-in class -/
theorem pty3 {x : Str} {n : String} {pos : Pos} (hg : Gl X x) (hm : X.mg x = none) (hv : bootBuiltins x = some (.type n)) (hn : x ≠ "__name__" := by decide) (hd : (x == ("__debug__" : Str)) = false := by decide) : PE X (.Name x pos) (LE X.K E (tC3 (.ty n))) :=
  le_const (t := tC (.ty n)) (pe_bltn (v := V.ty n) hg hm hv rfl hn hd) fun _ => rfl
/-- a module's own def or class -/
theorem pref3 {x : Str} {a : Addr} {pos : Pos} (hg : Gl X x) (hm : X.mg x = some (.ref a)) (hd : (x == ("__debug__" : Str)) = false := by decide) : PE X (.Name x pos) (LE X.K E (tC3 (.r a))) :=
  le_const (t := tC (.ref a)) (pe_glob (v := V.ref a) hg hm rfl hd) fun _ => rfl
/-- a module's constant text -/
theorem pgstr3 {x z : Str} {t : Tok} {pos : Pos} (hg : Gl X x) (hm : X.mg x = some (.str z t)) (hd : (x == ("__debug__" : Str)) = false := by decide) : PE X (.Name x pos) (LE X.K E (tC3 (.str z))) :=
  le_const (t := tC (.str z)) (pe_glob (v := V.str z) hg hm ⟨_, rfl⟩ hd) fun _ => Dp.str z
end

/-! ### argument lists -/
def tNil3 : TA3 := fun _ S Q => Q [] S
def tCons3 (t : TE3) (u : TA3) : TA3 := fun τ S Q => t τ S fun w S1 => u τ S1 fun ws S2 => Q (w :: ws) S2
section
variable {X : Cx} {K : PySem.W.Frag} {E : WX}
theorem la_nil : ∀ σ H Q, LA K E tNil3 σ H Q → tNil σ H Q := fun σ H Q ⟨F, S, τ, Q3, R, Ev, h, k⟩ => k F S H [] [] (Sm.refl F) R .nil h
theorem la_cons {t : TE3} {u : TA3} : ∀ σ H Q, LA K E (tCons3 t u) σ H Q → tCons (LE K E t) (LA K E u) σ H Q := fun σ H Q ⟨F, S, τ, Q3, R, Ev, h, k⟩ =>
  ⟨F, S, τ, _, R, Ev, h, fun F1 S1 H1 w v s1 R1 r1 h1 => ⟨F1, S1, τ, _, R1, Ev.mono s1, h1, fun F2 S2 H2 ws vs s2 R2 r2 h2 => k F2 S2 H2 _ _ (s1.trans s2) R2 (.cons (r1.mono s2) r2) h2⟩⟩
theorem pa3_nil : PA X [] (LA X.K E tNil3) := pa_imp pa_nil la_nil
theorem pa3_cons {e : Expr} {es : List Expr} {t : TE3} {u : TA3} (h : PE X e (LE X.K E t)) (hr : PA X es (LA X.K E u)) (hs : starEach (e :: es) X.env = (false, eval e X.env) :: starEach es X.env := by rfl) : PA X (e :: es) (LA X.K E (tCons3 t u)) :=
  pa_imp (pa_cons h hr hs) la_cons
theorem pk3_nil : PK X [] (LA X.K E tNil3) := pk_imp pk_nil la_nil
theorem pk3_cons {e : Expr} {es : List Keyword} {nm : Option Str} {kpos : Pos} {t : TE3} {u : TA3} (h : PE X e (LE X.K E t)) (hr : PK X es (LA X.K E u)) : PK X (⟨nm, e, kpos⟩ :: es) (LA X.K E (tCons3 t u)) :=
  pk_imp (pk_cons h hr) la_cons
end
end H3

namespace H3
open PySem PySem.Spec L2
open PyProof.Rows hiding St

/-! ### defs, where no text is being shown around (repr asks that) -/
structure FnG (P : Program) (w : World) (K : PySem.W.Frag) (mg : Str → Option Value) (base : Heap) (CX : CXT) (k : Nat) (f : Addr) (fd : FuncData) (ps : List Str) (sp : Sp) : Prop where
  len : ∀ (vs : List V) (H : Hp) (Q : VK) (E : XK), sp vs H Q E → vs.length = ps.length
  run : ∀ (A : Around) (outer : List Env) (s : Shared) (H : Hp) (args : Args) (us : List Value) (vs : List V) (Q : VK) (E : XK), A.guards = some [] → Room k A → Env0 P w K mg base A outer s H →
    BindsTo s fd args (ps.zip us) → Vals vs us → sp vs H Q E → codeAny (model P w) A (.call (.ref f) args) (CR CX outer P w H s Q E) s

section
variable {P : Program} {w : World} {K : PySem.W.Frag} {mg : Str → Option Value} {base : Heap} {CX : CXT} {f : Addr} {fd : FuncData} {ps : List Str} {sp : Sp}
theorem FnG.up {j k : Nat} (F : FnG P w K mg base CX j f fd ps sp) (h : j ≤ k) : FnG P w K mg base CX k f fd ps sp :=
  { len := F.len, run := fun A outer s H args us vs Q E hg hr => F.run A outer s H args us vs Q E hg (Room.mono hr h) }

theorem guards_deep {A : Around} {env : Env} (h : A.guards = some []) : (A.deeper env).guards = some [] := h

/-- a def by its body -/
theorem fng_of {x qual : Str} {params : Arguments} {body : List Stmt} {scope : Scope} {dV kV doc pm cdv ct oc : Value} {an od : Option Addr} {osl : Array (Option Value)} {N : List Str} {k : Nat}
    (lk : K.lookup f = some ⟨oc, od, .func (PySem.W.fnOf x qual params body scope dV kV doc pm an cdv ct), osl⟩) (hcd : PySem.W.codeIn K cdv qual = true) (S : FnScope N ps scope)
    (len : ∀ (vs : List V) (H : Hp) (Q : VK) (E : XK), sp vs H Q E → vs.length = ps.length) (hbody : ∀ (A : Around) (outer : List Env) (s : Shared) (H : Hp) (vs : List V) (Q : VK) (E : XK), A.guards = some [] → Room k (A.deeper (envOfC qual scope s.heap.objs.size f cdv)) → sp vs H Q E →
      ∃ t : TS, PSs (cxOf CX P w K mg base N qual scope f cdv A outer s H E) body t ∧ t ⟨fun _ H' => Q .non H', Q, fun _ _ => False, fun _ _ => False⟩ (start N vs) H) :
    FnG P w K mg base CX (k + 1) f (PySem.W.fnOf x qual params body scope dV kV doc pm an cdv ct) ps sp := by
  constructor
  · exact len
  intro A outer s H args us vs Q E hg hr e0 hb r hsp
  have lenE := len vs H Q E hsp
  have KX : K.In s.heap := PySem.W.Frag.In.keeps e0.mod.kin (fun b o e => (e0.bs b o e).1)
  have lim := Heap.NoLimit.keeps e0.mod.nolimit (fun b o e => (e0.bs b o e).1)
  apply codeAny_call_function hr.depth (KX f _ lk) rfl S.co S.gen rfl (PySem.W.codeRec_of KX hcd)
  apply hb
  apply wpAny_newFunctionEnv_cells S.kind
  · rintro ⟨n, v⟩ hy
    have hn := (List.of_mem_zip hy).1
    cases S.par n hn with
    | inl q => exact Or.inl q
    | inr q => exact Or.inr ⟨q, PySem.W.cellsFrom_some scope.names _ [] (Or.inl q)⟩
  · rintro env rfl s1 x
    refine ⟨Heap.NoLimit.keeps lim x.toInCall.keep, codeAny_func ?_⟩
    obtain ⟨t, ht, hq⟩ := hbody A outer s H vs Q E hg (hr.deeper _) hsp
    have I := inv_start (CX := CX) (E := E) S hr.hd e0 lenE r x
    apply wpAny_mono (ht.run [] s1 (start N vs) H _ I hq)
    · intro fl s' hs
      cases fl
      case ret u =>
        obtain ⟨y, _, G, J, ry, q⟩ := hs
        exact ⟨y, G, J.os, J.bare, J.base, J.hok, ry, q⟩
      case next =>
        obtain ⟨σ', H', J, q⟩ := hs
        exact ⟨.non, H', J.os, J.bare, J.base, J.hok, rfl, q⟩
      case brk => exact hs.elim fun _ z => z.elim fun _ z => z.2.elim
      case cont => exact hs.elim fun _ z => z.elim fun _ z => z.2.elim
    · intro e s' hs
      exact hs
end

/-- a top-level definition, told by its statement -/
abbrev FnP (K : PySem.W.Frag) (nm : Str) (st : Stmt) (fa : Addr) (fd : FuncData) : Prop := FunD K nm nm (defArgs st) (defBody st) (defScope st) [] [] fa fd
abbrev MtP (K : PySem.W.Frag) (x q : Str) (st : Stmt) (f : Addr) (fd : FuncData) : Prop := FunD K x q (defArgs st) (defBody st) (defScope st) [] [] f fd
section
variable {K : PySem.W.Frag} {P : Program} {w : World} {base : Heap} {mg : Str → Option Value}
theorem fng_mk {CX : CXT} {x q : Str} {st : Stmt} {f : Addr} {fd : FuncData} {N ps : List Str} {k : Nat} {sp : Sp} (F : MtP K x q st f fd) (S : FnScope N ps (defScope st)) (len : ∀ vs H Q E, sp vs H Q E → vs.length = ps.length)
    (hbody : ∀ (cdv : Value) (A : Around) (outer : List Env) (s : Shared) (H : Hp) (vs : List V) (Q : VK) (E : XK), fd.code = cdv → A.guards = some [] → Room k (A.deeper (envOfC q (defScope st) s.heap.objs.size f cdv)) → sp vs H Q E →
      ∃ t, PSs (cxOf CX P w K mg base N q (defScope st) f cdv A outer s H E) (defBody st) t ∧ t { nx := fun _ H' => Q .non H', rt := Q } (start N vs) H) : FnG P w K mg base CX (k + 1) f fd ps sp := by
  obtain ⟨oc, od, dV, kV, doc, pm, an, cdv, ct, osl, rfl, lk, hcd, _⟩ := F.ex
  exact fng_of lk hcd S len fun A outer s H vs Q E => hbody cdv A outer s H vs Q E rfl
end

/-! ### calls of such -/
section
variable {X : Cx} {CX : CXT} {k : Nat} {f C : Addr} {fd : FuncData} {ps : List Str} {sp : Sp} {E : XK} {x m : Str} {p pos apos : Pos} {e o : Expr} {es : List Expr} {ta : TE} {t : TA}
theorem cr_end {pins : List (Addr × Obj)} {σ : St} {H : Hp} {s : Shared} {Q : VK} {r : Result} {s' : Shared} (hx : Passes CX X E) (I : Inv X pins σ H s) (h : CR CX X.stack X.prog X.w H s Q E r s') :
    match r with
    | .ok (.ret u) => EP X pins σ Q u s'
    | .ok _ => False
    | .error e => X.xe e s' := by
  cases r with
  | error e => exact hx pins σ H s e s' I h
  | ok fl => cases fl <;> first | exact I.after h | exact h
theorem run_fng {pins : List (Addr × Obj)} {σ : St} {H : Hp} {s : Shared} {Q : VK} {us : List Value} {vs : List V} (F : FnG X.prog X.w X.K X.mg X.base CX k f fd ps sp) (hg : X.A.guards = some []) (hr : Room k X.A) (hb : Binds X.K fd ps [])
    (hx : Passes CX X E) (I : Inv X pins σ H s) (r : Vals vs us) (h : sp vs H Q E) : wpAny (model X.prog X.w) X.A (call (.ref f) us) (EP X pins σ Q) X.xe s := by
  have hl : us.length = ps.length := r.length ▸ F.len vs H Q E h
  have hb' : BindsTo s fd ⟨us, []⟩ (ps.zip us) := by simpa using hb s us I.kIn (by simpa using hl)
  apply wpAny_call
  apply codeAny_mono (F.run X.A X.stack s H _ us vs Q E hg hr I.env0 hb' r h)
  intro q s' hq
  have z := cr_end hx I hq
  cases q with
  | error e => exact z
  | ok fl => cases fl <;> exact z
/-- a call by keywords alone: where each value goes -/
structure KwTo (fd : FuncData) (ps ks : List Str) (g : {α : Type} → List α → List α) : Prop where
  to : ∀ (s : Shared) (ws : List Value), ws.length = ks.length → BindsTo s fd ⟨[], ks.zip ws⟩ (ps.zip (g ws))
  rel : ∀ {zs : List V} {ws : List Value}, zs.length = ks.length → Vals zs ws → Vals (g zs) (g ws)
theorem run_fngk {ks : List Str} {E : XK} {g : {α : Type} → List α → List α} {pins : List (Addr × Obj)} {σ : St} {H : Hp} {s : Shared} {Q : VK} {ws : List Value} {zs : List V} (F : FnG X.prog X.w X.K X.mg X.base CX k f fd ps sp) (gd : X.A.guards = some []) (hr : Room k X.A)
    (hb : KwTo fd ps ks g) (hx : Passes CX X E) (I : Inv X pins σ H s) (rz : Vals zs ws) (hz : zs.length = ks.length) (h : sp (g zs) H Q E) : wpAny (model X.prog X.w) X.A (call (.ref f) [] (ks.zip ws)) (EP X pins σ Q) X.xe s := by
  apply wpAny_call
  apply codeAny_mono (F.run X.A X.stack s H ⟨[], ks.zip ws⟩ (g ws) (g zs) Q E gd hr I.env0 (hb.to s ws (rz.length ▸ hz)) (hb.rel hz rz) h)
  intro q s' hq
  have z := cr_end hx I hq
  cases q with
  | error e => exact z
  | ok fl => cases fl <;> exact z
end

/-! ### promises over values -/
/-- an exception of the class at C, with these attributes -/
abbrev X3 := Addr → List (Str × W) → Sto → Prop
abbrev Sp3 := List W → Sto → K3 → X3 → Prop
abbrev X0 : X3 := fun _ _ _ => False
def KX (K : PySem.W.Frag) (F : Fz) (E3 : X3) (E : XK) : Prop := ∀ F' S' H' C dd fs gs, Sm F F' → Rel K F' S' H' → F'.f dd = some (.xd gs) → RepFs K F' fs gs → E3 C fs S' → E (.ref C) (some dd) H'
theorem KX.mono {K : PySem.W.Frag} {F F' : Fz} {E3 : X3} {E : XK} (k : KX K F E3 E) (e : Sm F F') : KX K F' E3 E := fun F2 S' H' C dd fs gs s => k F2 S' H' C dd fs gs (e.trans s)
theorem KX.no {K : PySem.W.Frag} {F : Fz} {E : XK} : KX K F X0 E := fun _ _ _ _ _ _ _ _ _ _ _ h => h.elim
def LSp (K : PySem.W.Frag) (sp : Sp3) : Sp := fun vs H Q E => ∃ F S ws Q3 E3, Rel K F S H ∧ RepWs K F ws vs ∧ sp ws S Q3 E3 ∧ KE K F Q3 Q ∧ KX K F E3 E
/-- what a def leaves; what it made may be forgotten -/
def DQ (Q3 : K3) : Ends3 where
  nx := fun _ S' => ∃ S2, Sub S2 S' ∧ Q3 .non S2
  rt := fun w S' => ∃ S2, Sub S2 S' ∧ Q3 w S2
/-- a start's slots -/
def start3 (N : Nat) (ws : List W) (E3 : X3) : S3 := ⟨ws.map some ++ List.replicate (N - ws.length) none, fun C fs _ S' => ∃ S2, Sub S2 S' ∧ E3 C fs S2⟩
theorem slR_start {K : PySem.W.Frag} {F : Fz} {N : List Str} {ws : List W} {vs : List V} (r : RepWs K F ws vs) : SlE K F (ws.map some ++ List.replicate (N.length - ws.length) none) (L2.start N vs) := by
  have hl := Paired.length r
  refine ⟨by simp [L2.start, hl], fun i w h => ?_⟩
  by_cases hi : i < ws.length
  · rw [List.getElem?_append_left (by simpa using hi), List.getElem?_map] at h
    obtain ⟨u, hu, e⟩ : ∃ u, ws[i]? = some u ∧ some u = some w := by
      cases q : ws[i]? with
      | none => rw [q] at h; cases h
      | some u => rw [q] at h; exact ⟨u, rfl, Option.some.inj h⟩
    cases e
    obtain ⟨v, hv, rv⟩ : ∃ v, vs[i]? = some v ∧ RepW K F w v := by
      clear h hi hl
      induction r generalizing i with
      | nil => cases hu
      | cons a t ih =>
        cases i with
        | zero => cases hu; exact ⟨_, rfl, a⟩
        | succ j => exact ih j hu
    refine ⟨v, ?_, rv⟩
    unfold L2.start
    rw [List.getElem?_append_left (by rw [← hl] at *; simpa using (List.getElem?_eq_some_iff.mp hv).1), List.getElem?_map, hv]
    rfl
  · rw [List.getElem?_append_right (by simpa using hi), List.getElem?_replicate] at h
    split at h <;> cases h

/-- THE RULE for a def: its reading t, and that the promise gives it; its code object is told -/
theorem fn3c {P : Program} {w : World} {K : PySem.W.Frag} {mg : Str → Option Value} {base : Heap} {x q : Str} {st : Stmt} {f : Addr} {fd : FuncData} {N ps : List Str} {k : Nat} {sp : Sp3} (F : MtP K x q st f fd) (S : FnScope N ps (defScope st)) (t : TS3)
    (len : ∀ ws S Q E, sp ws S Q E → ws.length = ps.length) (sem : ∀ ws S Q E, sp ws S Q E → t (DQ Q) (start3 N.length ws E) S)
    (body : ∀ (X : Cx) (cdv : Value) (A : Around) (outer : List Env) (s : Shared) (H : Hp) (E : XK), X = cxOf (L2.CX P w) P w K mg base N q (defScope st) f cdv A outer s H E → fd.code = cdv → A.guards = some [] → Room k X.A → Takes X (fun cls d _ H => E cls d H) → PassesOwn (model X.prog X.w) X.A X.env X.xe →
      PSs X (defBody st) (LS X.K (fun cls d _ H => E cls d H) t)) :
    FnG P w K mg base (L2.CX P w) (k + 1) f fd ps (LSp K sp) := by
  refine fng_mk F S (fun vs H Q E h => ?_) (fun cdv A outer s H vs Q E hc hg hr h => ?_)
  · obtain ⟨F, S, ws, Q3, E3, _, r, h, _⟩ := h
    rw [← Paired.length r]
    exact len _ _ _ _ h
  · obtain ⟨F, S0, ws, Q3, E3, R, r, h, kq, kx⟩ := h
    refine ⟨_, body _ cdv A outer s H E rfl hc hg hr (takes_of rfl rfl rfl rfl) (passes_of rfl), F, S0, start3 N.length ws E3, DQ Q3, R, ⟨slR_start r, ?_⟩, sem _ _ _ _ h, ⟨?_, ?_, ?_, ?_⟩⟩
    · intro F' S' H' C dd fs gs sl σ s1 R1 e1 r1 _ ⟨S2, sb, q⟩
      exact kx F' S2 H' C dd fs gs s1 (R1.less sb) e1 r1 q
    · intro F' S' H' τ σ s1 R1 _ ⟨S2, sb, q⟩
      exact kq F' S2 H' _ _ s1 (R1.less sb) (show RepW K F' .non .non from Dp.non) q
    · intro F' S' H' w v s1 R1 r1 ⟨S2, sb, q⟩
      exact kq F' S2 H' _ _ s1 (R1.less sb) r1 q
    · intro _ _ _ _ _ _ _ _ q; exact q.elim
    · intro _ _ _ _ _ _ _ _ q; exact q.elim

/-- THE RULE for a def: its reading t, and that the promise gives it -/
theorem fn3 {P : Program} {w : World} {K : PySem.W.Frag} {mg : Str → Option Value} {base : Heap} {x q : Str} {st : Stmt} {f : Addr} {fd : FuncData} {N ps : List Str} {k : Nat} {sp : Sp3} (F : MtP K x q st f fd) (S : FnScope N ps (defScope st)) (t : TS3)
    (len : ∀ ws S Q E, sp ws S Q E → ws.length = ps.length) (sem : ∀ ws S Q E, sp ws S Q E → t (DQ Q) (start3 N.length ws E) S)
    (body : ∀ (X : Cx) (cdv : Value) (A : Around) (outer : List Env) (s : Shared) (H : Hp) (E : XK), X = cxOf (L2.CX P w) P w K mg base N q (defScope st) f cdv A outer s H E → A.guards = some [] → Room k X.A → Takes X (fun cls d _ H => E cls d H) → PassesOwn (model X.prog X.w) X.A X.env X.xe →
      PSs X (defBody st) (LS X.K (fun cls d _ H => E cls d H) t)) :
    FnG P w K mg base (L2.CX P w) (k + 1) f fd ps (LSp K sp) := by
  exact fn3c F S t len sem fun X cdv A outer s H E e _ => body X cdv A outer s H E e

/-! ### calls over values -/
def tCall3 (sp : Sp3) (t : TA3) : TE3 := fun τ S Q => t τ S fun ws S1 => sp ws S1 Q fun C fs S2 => τ.ex C fs τ.sl S2
def tCallK3 (sp : Sp3) (g : List W → List W) (n : Nat) (t : TA3) : TE3 := fun τ S Q => t τ S fun ws S1 => ws.length = n ∧ sp (g ws) S1 Q fun C fs S2 => τ.ex C fs τ.sl S2
section
variable {X : Cx} {Ex : WX} {k : Nat} {f : Addr} {fd : FuncData} {ps : List Str} {x : Str} {p pos : Pos} {e : Expr} {es : List Expr}
/-- a call f(k = e, ..) by keywords alone: facts of its text -/
structure KwCall (X : Cx) (pos : Pos) (kws : List Keyword) (ks : List Str) : Prop where
  all : (backToKw pos (keywordEach kws X.env)).all (fun z => z.1.isSome) = true
  names : (backToKw pos (keywordEach kws X.env)).filterMap (fun z => z.1) = ks
  plain : ((backTo pos (starEach [] X.env)).any (fun z => z.1) || (backToKw pos (keywordEach kws X.env)).any fun z => z.1.isNone) = false
/-- calls from a state with slots -/
theorem pe_callGs {sp : Sp} {t : TA} {E : St → XK} (F : FnG X.prog X.w X.K X.mg X.base (L2.CX X.prog X.w) k f fd ps sp) (gd : X.A.guards = some []) (hr : Room k X.A) (hg : Gl X x) (hm : X.mg x = some (.ref f)) (hk : PySem.W.keepIn X.K (.ref f) = true) (hb : Binds X.K fd ps [])
    (hx : ∀ σ, PassesAt (L2.CX X.prog X.w) X σ (E σ)) (ha : PA X (e :: es) t) (hdb : (x == ("__debug__" : Str)) = false := by decide) (he : starEach (e :: es) X.env = (false, eval e X.env) :: starEach es X.env := by rfl) (hpl : (backTo pos (starEach es X.env)).any (·.1) = false := by rfl) :
    PE X (.Call (.Name x p) (e :: es) [] pos) (fun σ H Q => t σ H fun vs H1 => sp vs H1 Q (E σ)) := by
  constructor
  intro pins s σ H Q I h
  apply wpAny_Call_Name_kw
  apply ld_glob I hg hm _ hdb
  apply PySem.W.callWith_K (h₀ := X.base) I.ok.mod.kin hk _ he hpl
  refine thn (ha.run pos pins s σ H _ I h) (fun us s1 ⟨vs, H1, I1, r, q⟩ => ⟨I1.kIn, ?_⟩)
  have hl : us.length = ps.length := r.length ▸ F.len vs H1 Q _ q
  have hb' : BindsTo s1 fd ⟨us, []⟩ (ps.zip us) := by simpa using hb s1 us I1.kIn (by simpa using hl)
  apply wpAny_call
  apply codeAny_mono (F.run X.A X.stack s1 H1 _ us vs Q _ gd hr I1.env0 hb' r q)
  intro o s' ho
  cases o with
  | error e => exact hx σ pins H1 s1 e s' I1 ho
  | ok fl => cases fl <;> first | exact I1.after ho | exact ho.elim
theorem pe_callGs0 {sp : Sp} {E : St → XK} (F : FnG X.prog X.w X.K X.mg X.base (L2.CX X.prog X.w) k f fd ps sp) (gd : X.A.guards = some []) (hr : Room k X.A) (hg : Gl X x) (hm : X.mg x = some (.ref f)) (hk : PySem.W.keepIn X.K (.ref f) = true) (hb : Binds X.K fd ps [])
    (hx : ∀ σ, PassesAt (L2.CX X.prog X.w) X σ (E σ)) (hdb : (x == ("__debug__" : Str)) = false := by decide) :
    PE X (.Call (.Name x p) [] [] pos) (fun σ H Q => sp [] H Q (E σ)) := by
  constructor
  intro pins s σ H Q I q
  apply wpAny_Call_Name_kw
  apply ld_glob I hg hm _ hdb
  apply PySem.W.callWith_K0 I.kIn hk
  have hl : ([] : List Value).length = ps.length := F.len [] H Q _ q
  have hb' : BindsTo s fd ⟨[], []⟩ (ps.zip []) := by simpa using hb s [] I.kIn (by simpa using hl)
  apply wpAny_call
  apply codeAny_mono (F.run X.A X.stack s H _ [] [] Q _ gd hr I.env0 hb' .nil q)
  intro o s' ho
  cases o with
  | error e => exact hx σ pins H s e s' I ho
  | ok fl => cases fl <;> first | exact I.after ho | exact ho.elim
theorem pe_callGk {sp : Sp} {t : TA} {E : St → XK} {ks : List Str} {g : {α : Type} → List α → List α} {kws : List Keyword} (F : FnG X.prog X.w X.K X.mg X.base (L2.CX X.prog X.w) k f fd ps sp) (gd : X.A.guards = some []) (hr : Room k X.A) (hg : Gl X x) (hm : X.mg x = some (.ref f))
    (hk : PySem.W.keepIn X.K (.ref f) = true) (hb : KwTo fd ps ks g) (hx : ∀ σ, PassesAt (L2.CX X.prog X.w) X σ (E σ)) (hkw : PK X kws t) (kc : KwCall X pos kws ks := by exact ⟨rfl, rfl, rfl⟩) (hdb : (x == ("__debug__" : Str)) = false := by decide) :
    PE X (.Call (.Name x p) [] kws pos) (fun σ H Q => t σ H fun zs H1 => zs.length = ks.length ∧ sp (g zs) H1 Q (E σ)) := by
  constructor
  intro pins s σ H Q I h
  apply wpAny_Call_Name_kw
  apply ld_glob I hg hm _ hdb
  apply PySem.W.callWith_KW0 (h₀ := X.base) I.ok.mod.kin hk kc.all _ kc.plain
  refine thn (hkw.run pos pins s σ H _ I h) (fun ws s2 ⟨zs, H2, I2, rz, hz, q2⟩ => ⟨I2.kIn, ?_⟩)
  rw [kc.names]
  apply wpAny_call
  apply codeAny_mono (F.run X.A X.stack s2 H2 ⟨[], ks.zip ws⟩ (g ws) (g zs) Q _ gd hr I2.env0 (hb.to s2 ws (rz.length ▸ hz)) (hb.rel hz rz) q2)
  intro o s' ho
  cases o with
  | error e => exact hx σ pins H2 s2 e s' I2 ho
  | ok fl => cases fl <;> first | exact I2.after ho | exact ho.elim
variable {sp : Sp3} {t : TA3}
theorem kx_of {K : PySem.W.Frag} {F F1 : Fz} {τ : S3} {σ : St} (Ev : EnvR K F Ex τ σ) (s1 : Sm F F1) : KX K F1 (fun C fs S2 => τ.ex C fs τ.sl S2) (WE Ex σ) := fun F' S' H' C dd fs gs s R e r q =>
  Ev.ex F' S' H' C dd fs gs τ.sl σ (s1.trans s) R e r (Ev.sl.mono (s1.trans s)) q
theorem pe3_call (F : FnG X.prog X.w X.K X.mg X.base (L2.CX X.prog X.w) k f fd ps (LSp X.K sp)) (gd : X.A.guards = some []) (hr : Room k X.A) (tk : Takes X Ex) (hg : Gl X x) (hm : X.mg x = some (.ref f)) (hk : PySem.W.keepIn X.K (.ref f) = true) (hb : Binds X.K fd ps [])
    (ha : PA X (e :: es) (LA X.K Ex t)) (hdb : (x == ("__debug__" : Str)) = false := by decide) (he : starEach (e :: es) X.env = (false, eval e X.env) :: starEach es X.env := by rfl) (hpl : (backTo pos (starEach es X.env)).any (·.1) = false := by rfl) :
    PE X (.Call (.Name x p) (e :: es) [] pos) (LE X.K Ex (tCall3 sp t)) :=
  pe_imp (pe_callGs F gd hr hg hm hk hb (fun σ => passAt tk σ) ha hdb he hpl) fun σ H Q ⟨F, S, τ, Q3, R, Ev, h, k⟩ =>
    ⟨F, S, τ, _, R, Ev, h, fun F1 S1 H1 ws vs s1 R1 r1 h1 => ⟨F1, S1, ws, Q3, _, R1, r1, h1, k.mono s1, kx_of Ev s1⟩⟩
theorem pe3_call0 (F : FnG X.prog X.w X.K X.mg X.base (L2.CX X.prog X.w) k f fd ps (LSp X.K sp)) (gd : X.A.guards = some []) (hr : Room k X.A) (tk : Takes X Ex) (hg : Gl X x) (hm : X.mg x = some (.ref f)) (hk : PySem.W.keepIn X.K (.ref f) = true) (hb : Binds X.K fd ps [])
    (hdb : (x == ("__debug__" : Str)) = false := by decide) : PE X (.Call (.Name x p) [] [] pos) (LE X.K Ex (tCall3 sp tNil3)) :=
  pe_imp (pe_callGs0 F gd hr hg hm hk hb (fun σ => passAt tk σ) hdb) fun σ H Q ⟨F, S, τ, Q3, R, Ev, h, k⟩ => ⟨F, S, [], Q3, _, R, .nil, h, k, kx_of Ev (Sm.refl F)⟩
theorem pe3_callK {ks : List Str} {g : {α : Type} → List α → List α} {gW : List W → List W} {kws : List Keyword} (F : FnG X.prog X.w X.K X.mg X.base (L2.CX X.prog X.w) k f fd ps (LSp X.K sp)) (gd : X.A.guards = some []) (hr : Room k X.A) (tk : Takes X Ex) (hg : Gl X x) (hm : X.mg x = some (.ref f))
    (hk : PySem.W.keepIn X.K (.ref f) = true) (hb : KwTo fd ps ks g) (hgW : ∀ (F : Fz) (ws : List W) (vs : List V), ws.length = ks.length → RepWs X.K F ws vs → RepWs X.K F (gW ws) (g vs)) (hkw : PK X kws (LA X.K Ex t)) (kc : KwCall X pos kws ks := by exact ⟨rfl, rfl, rfl⟩) (hdb : (x == ("__debug__" : Str)) = false := by decide) :
    PE X (.Call (.Name x p) [] kws pos) (LE X.K Ex (tCallK3 sp gW ks.length t)) :=
  pe_imp (pe_callGk F gd hr hg hm hk hb (fun σ => passAt tk σ) hkw kc hdb) fun σ H Q ⟨F, S, τ, Q3, R, Ev, h, k⟩ =>
    ⟨F, S, τ, _, R, Ev, h, fun F1 S1 H1 ws vs s1 R1 r1 ⟨hl, h1⟩ => ⟨(Paired.length r1).symm.trans hl, F1, S1, gW ws, Q3, _, R1, hgW F1 ws vs hl r1, h1, k.mono s1, kx_of Ev s1⟩⟩
end
end H3

namespace H3
open PySem PySem.Spec L2

/-! ### what a value is -/
section
variable {K : PySem.W.Frag} {F : Fz} {v : V}
theorem rep_int {i : Int} (h : RepW K F (.int i) v) : v = .int i := by cases (show Dp K F.f v (.int i) from h); rfl
theorem rep_bl {b : Bool} (h : RepW K F (.bl b) v) : v = .bl b := by cases (show Dp K F.f v (.bool b) from h); rfl
theorem rep_str {x : Str} (h : RepW K F (.str x) v) : v = .str x := by cases (show Dp K F.f v (.str x) from h); rfl
theorem rep_non (h : RepW K F .non v) : v = .non := by cases (show Dp K F.f v .none from h); rfl
theorem rep_r {a : Addr} (h : RepW K F (.r a) v) : v = .ref a := h
theorem rep_ty {n : String} (h : RepW K F (.ty n) v) : v = .ty n := h
theorem mk_int {i : Int} : RepW K F (.int i) (.int i) := Dp.int i
theorem mk_bl {b : Bool} : RepW K F (.bl b) (.bl b) := Dp.bl b
theorem mk_str {x : Str} : RepW K F (.str x) (.str x) := Dp.str x
theorem mk_non : RepW K F .non .non := Dp.non
end
/-- the items of a list or tuple -/
def seqW (S : Sto) : W → Option (List W)
  | .d (.list ds) => some (ds.map W.d)
  | .d (.tuple ds) => some (ds.map W.d)
  | .r a => match S a with
    | some (.lst ws) => some ws
    | _ => none
  | _ => none
/-- a value as data, now -/
def viewW (S : Sto) : W → Option PyData
  | .d x => some x
  | .r a => match S a with
    | some (.lst ws) => (ws.mapM fun | W.d x => some x | _ => none).map .list
    | _ => none
  | .ty _ => none
section
variable {K : PySem.W.Frag} {F : Fz} {S : Sto} {H : Hp} {v : V} {w : W}
theorem seq_rep {ws : List W} (R : Rel K F S H) (r : RepW K F w v) (h : seqW S w = some ws) : ∃ a vs, v = .ref a ∧ (SqL K H a vs ∨ SqT K H a vs) ∧ RepWs K F ws vs := by
  cases w with
  | d x =>
    cases (show Dp K F.f v x from r) with
    | lst hs ha => cases h; exact ⟨_, _, rfl, .inl (R.same.seq hs), repWs_of_all ha⟩
    | tup hs ha => cases h; exact ⟨_, _, rfl, .inr (sqt_mono R.same hs.sqt), repWs_of_all ha⟩
    | non => cases h
    | bl => cases h
    | int => cases h
    | str => cases h
  | r a =>
    have h' : (match S a with | some (.lst ws) => some ws | _ => none) = some ws := h
    cases e : S a with
    | none => rw [e] at h'; exact nomatch h'
    | some p =>
      rw [e] at h'
      cases p with
      | ins C fs => cases h'
      | tb q => cases h'
      | lst us =>
        cases h'
        obtain ⟨_, o, ho, vs, rfl, rv⟩ := R.st a _ e
        exact ⟨a, vs, r, .inl (.inl (.inl ho)), rv⟩
  | ty n => cases h
theorem mapM_d : ∀ {ws : List W} {ds : List PyData}, (ws.mapM fun | W.d x => some x | _ => none) = some ds → ws = ds.map W.d
  | [], ds, h => by cases h; rfl
  | w :: ws, ds, h => by
    rw [List.mapM_cons] at h
    cases w with
    | d x =>
      cases e : (ws.mapM fun | W.d x => some x | _ => none) with
      | none => rw [e] at h; exact nomatch h
      | some es =>
        rw [e] at h
        cases h
        rw [mapM_d e]; rfl
    | r a => cases h
    | ty n => cases h
theorem mapM_of : ∀ (ds : List PyData), ((ds.map W.d).mapM fun | W.d x => some x | _ => none) = some ds
  | [] => rfl
  | d :: ds => by
    rw [List.map_cons, List.mapM_cons, mapM_of ds]; rfl
theorem view_lst {a : Addr} {ds : List PyData} (h : S a = some (.lst (ds.map W.d))) : viewW S (.r a) = some (.list ds) := by
  show (match S a with | some (.lst ws) => (ws.mapM fun | W.d x => some x | _ => none).map PyData.list | _ => none) = _
  rw [h]
  show ((ds.map W.d).mapM fun | W.d x => some x | _ => none).map PyData.list = _
  rw [mapM_of]; rfl
theorem view_rep {x : PyData} (R : Rel K F S H) (r : RepW K F w v) (h : viewW S w = some x) : L2.Dp K H v x := by
  cases w with
  | d y => cases h; exact (dp_mono R.same r).q
  | r a =>
    have h' : (match S a with | some (.lst ws) => (ws.mapM fun | W.d x => some x | _ => none).map PyData.list | _ => none) = some x := h
    cases e : S a with
    | none => rw [e] at h'; exact nomatch h'
    | some p =>
      rw [e] at h'
      cases p with
      | ins C fs => cases h'
      | tb q => cases h'
      | lst us =>
        cases e2 : (us.mapM fun | W.d x => some x | _ => none) with
        | none =>
          have h2 : (us.mapM fun | W.d x => some x | _ => none).map PyData.list = some x := h'
          rw [e2] at h2; cases h2
        | some ds =>
          have h2 : (us.mapM fun | W.d x => some x | _ => none).map PyData.list = some x := h'
          rw [e2] at h2; cases h2
          have e3 := mapM_d e2
          subst e3
          obtain ⟨_, o, ho, vs, rfl, rv⟩ := R.st a _ e
          cases (show v = .ref a from r)
          exact L2.Dp.lst (.inl (.inl ho)) (dpAll_mono R.same (all_of_repWs rv)).q
  | ty n => cases h
end

/-! ### operators -/
abbrev R3 := W → W → Sto → K3 → Prop
def OpL (K : PySem.W.Frag) (r3 : R3) (r : R2) : Prop := ∀ F S H w u x y Q3 Q, Rel K F S H → RepW K F w x → RepW K F u y → r3 w u S Q3 → KE K F Q3 Q → r x y H Q
def tOp3 (r : R3) (ta tb : TE3) : TE3 := fun τ S Q => ta τ S fun w S1 => tb τ S1 fun u S2 => r w u S2 Q
section
variable {K : PySem.W.Frag} {Ex : WX} {ta tb tc : TE3} {r3 r3' : R3} {r r' : R2}
theorem le_op (l : OpL K r3 r) : ∀ σ H Q, LE K Ex (tOp3 r3 ta tb) σ H Q → tOp r (LE K Ex ta) (LE K Ex tb) σ H Q := fun σ H Q ⟨F, S, τ, Q3, R, Ev, h, k⟩ =>
  ⟨F, S, τ, _, R, Ev, h, fun F1 S1 H1 w x s1 R1 r1 h1 => ⟨F1, S1, τ, _, R1, Ev.mono s1, h1, fun F2 S2 H2 u y s2 R2 r2 h2 => l F2 S2 H2 w u x y Q3 Q R2 (r1.mono s2) r2 h2 (k.mono (s1.trans s2))⟩⟩
end
section
variable {X : Cx} {Ex : WX} {a b c : Expr} {ta tb tc : TE3} {r3 r3' : R3} {r r' : R2} {pos : Pos}
theorem pe3_op {op : Operator} (ho : OpR X (binaryOp op) r) (l : OpL X.K r3 r) (ha : PE X a (LE X.K Ex ta)) (hb : PE X b (LE X.K Ex tb)) : PE X (.BinOp a op b pos) (LE X.K Ex (tOp3 r3 ta tb)) := pe_imp (pe_op ho ha hb) (le_op l)
theorem pe3_cmp {op : CmpOp} (ho : OpR X (compareOp op) r) (l : OpL X.K r3 r) (ha : PE X a (LE X.K Ex ta)) (hb : PE X b (LE X.K Ex tb)) (hm : behindInMarks op b = false) : PE X (.Compare a [op] [b] pos) (LE X.K Ex (tOp3 r3 ta tb)) := pe_imp (pe_cmpR ho ha hb hm) (le_op l)
/-- a value as a test -/
def tB3 (t : TE3) : TT3 := fun τ S Q => t τ S fun w S1 => ∃ c, w = .bl c ∧ Q c S1
theorem lt_val {K : PySem.W.Frag} {t : TE3} : ∀ σ H Q, LT K Ex (tB3 t) σ H Q → tB (LE K Ex t) σ H Q := fun σ H Q ⟨F, S, τ, Q3, R, Ev, h, k⟩ =>
  ⟨F, S, τ, _, R, Ev, h, fun F1 S1 H1 w x s1 R1 r1 ⟨c, e, h1⟩ => by subst e; exact ⟨c, rep_bl r1, k F1 S1 H1 c s1 R1 h1⟩⟩
theorem pt3_cmp {op : CmpOp} (ho : OpR X (compareOp op) r) (l : OpL X.K r3 r) (ha : PE X a (LE X.K Ex ta)) (hb : PE X b (LE X.K Ex tb)) (hm : behindInMarks op b = false) : PT X (.Compare a [op] [b] pos) (LT X.K Ex (tB3 (tOp3 r3 ta tb))) :=
  pt_imp (pt_cmpR ho ha hb hm) fun σ H Q h => lt_val σ H Q h |> fun q => show tTest (tOp r (LE X.K Ex ta) (LE X.K Ex tb)) σ H Q from le_op l σ H _ q
theorem pt3_val {e : Expr} {t : TE3} (h : PE X e (LE X.K Ex t)) (he : ∀ whole, isTrue e X.env whole = (do let v ← whole; standAt e.pos; holding [v] (truthy v)) := by intro _; rfl) : PT X e (LT X.K Ex (tB3 t)) := pt_imp (pt_val h he) lt_val
/-- a < b < c -/
def tChain3 (r r' : R3) (ta tb tc : TE3) : TE3 := fun τ S Q => ta τ S fun w S1 => tb τ S1 fun u S2 => r w u S2 fun z S3 => ∃ k, z = .bl k ∧ (k = true → tc τ S3 fun x S4 => r' u x S4 Q) ∧ (k = false → Q (.bl false) S3)
theorem le_chain {K : PySem.W.Frag} (l : OpL K r3 r) (l' : OpL K r3' r') : ∀ σ H Q, LE K Ex (tChain3 r3 r3' ta tb tc) σ H Q → tChain r r' (LE K Ex ta) (LE K Ex tb) (LE K Ex tc) σ H Q := fun σ H Q ⟨F, S, τ, Q3, R, Ev, h, k⟩ =>
  ⟨F, S, τ, _, R, Ev, h, fun F1 S1 H1 w x s1 R1 r1 h1 => ⟨F1, S1, τ, _, R1, Ev.mono s1, h1, fun F2 S2 H2 u y s2 R2 r2 h2 =>
    l F2 S2 H2 w u x y _ _ R2 (r1.mono s2) r2 h2 fun F3 S3 H3 z v s3 R3 r3 ⟨b, e, h3, h4⟩ => by
      subst e
      refine ⟨b, rep_bl r3, ?_⟩
      cases b with
      | true => exact iteT ⟨F3, S3, τ, _, R3, Ev.mono (s1.trans (s2.trans s3)), h3 rfl, fun F4 S4 H4 w' x' s4 R4 r4 h5 => l' F4 S4 H4 u w' y x' Q3 Q R4 (r2.mono (s3.trans s4)) r4 h5 (k.mono (s1.trans (s2.trans (s3.trans s4))))⟩
      | false => exact iteF (k F3 S3 H3 _ _ (s1.trans (s2.trans s3)) R3 mk_bl (h4 rfl))⟩⟩
theorem pe3_chain {op op' : CmpOp} (ho : OpR X (compareOp op) r) (ho' : OpR X (compareOp op') r') (l : OpL X.K r3 r) (l' : OpL X.K r3' r') (ha : PE X a (LE X.K Ex ta)) (hb : PE X b (LE X.K Ex tb)) (hc : PE X c (LE X.K Ex tc))
    (hm : lastMarks [op, op'] [b, c] = false := by with_unfolding_all rfl) : PE X (.Compare a [op, op'] [b, c] pos) (LE X.K Ex (tChain3 r3 r3' ta tb tc)) := pe_imp (pe_chain ho ho' ha hb hc hm) (le_chain l l')
theorem pt3_chain {op op' : CmpOp} (ho : OpR X (compareOp op) r) (ho' : OpR X (compareOp op') r') (l : OpL X.K r3 r) (l' : OpL X.K r3' r') (ha : PE X a (LE X.K Ex ta)) (hb : PE X b (LE X.K Ex tb)) (hc : PE X c (LE X.K Ex tc))
    (hm : lastMarks [op, op'] [b, c] = false := by with_unfolding_all rfl) : PT X (.Compare a [op, op'] [b, c] pos) (LT X.K Ex (tB3 (tChain3 r3 r3' ta tb tc))) :=
  pt_imp (pt_chain ho ho' ha hb hc hm) fun σ H Q h => lt_val σ H Q h |> fun q => show tTest (tChain r r' (LE X.K Ex ta) (LE X.K Ex tb) (LE X.K Ex tc)) σ H Q from le_chain l l' σ H _ q

/-! ### and, or, not; conditional expressions -/
variable {t u v : TT3} {rest : List Expr}
def tAnd3 (t u : TT3) : TT3 := fun τ S Q => t τ S fun b S1 => (b = true → u τ S1 Q) ∧ (b = false → Q false S1)
def tOr3 (t u : TT3) : TT3 := fun τ S Q => t τ S fun b S1 => (b = true → Q true S1) ∧ (b = false → u τ S1 Q)
def tNot3 (t : TT3) : TT3 := fun τ S Q => t τ S fun b S1 => Q (!b) S1
theorem pw3_and1 (ha : PT X a (LT X.K Ex t)) : PW X (.BoolOp .And [a] pos) (LT X.K Ex t) := pw_and1 ha
theorem pw3_or1 (ha : PT X a (LT X.K Ex t)) : PW X (.BoolOp .Or [a] pos) (LT X.K Ex t) := pw_or1 ha
theorem pw3_and (ha : PT X a (LT X.K Ex t)) (hb : PW X (.BoolOp .And (b :: rest) pos) (LT X.K Ex u)) : PW X (.BoolOp .And (a :: b :: rest) pos) (LT X.K Ex (tAnd3 t u)) :=
  pw_imp (pw_and ha hb) fun σ H Q ⟨F, S, τ, Q3, R, Ev, h, k⟩ => ⟨F, S, τ, _, R, Ev, h, fun F1 S1 H1 b s1 R1 ⟨h1, h2⟩ => by
    cases b with
    | true => exact iteT ⟨F1, S1, τ, Q3, R1, Ev.mono s1, h1 rfl, k.mono s1⟩
    | false => exact iteF (k F1 S1 H1 _ s1 R1 (h2 rfl))⟩
theorem pw3_or (ha : PT X a (LT X.K Ex t)) (hb : PW X (.BoolOp .Or (b :: rest) pos) (LT X.K Ex u)) : PW X (.BoolOp .Or (a :: b :: rest) pos) (LT X.K Ex (tOr3 t u)) :=
  pw_imp (pw_or ha hb) fun σ H Q ⟨F, S, τ, Q3, R, Ev, h, k⟩ => ⟨F, S, τ, _, R, Ev, h, fun F1 S1 H1 b s1 R1 ⟨h1, h2⟩ => by
    cases b with
    | true => exact iteT (k F1 S1 H1 _ s1 R1 (h1 rfl))
    | false => exact iteF ⟨F1, S1, τ, Q3, R1, Ev.mono s1, h2 rfl, k.mono s1⟩⟩
theorem pt3_not (ha : PT X a (LT X.K Ex t)) : PT X (.UnaryOp .Not a pos) (LT X.K Ex (tNot3 t)) :=
  pt_imp (pt_not ha) fun σ H Q ⟨F, S, τ, Q3, R, Ev, h, k⟩ => ⟨F, S, τ, _, R, Ev, h, fun F1 S1 H1 b s1 R1 h1 => k F1 S1 H1 _ s1 R1 h1⟩
/-- as values -/
def tAndV3 (ta tb : TE3) : TE3 := fun τ S Q => ta τ S fun w S1 => ∃ c, w = .bl c ∧ (c = true → tb τ S1 Q) ∧ (c = false → Q (.bl false) S1)
def tOrV3 (ta tb : TE3) : TE3 := fun τ S Q => ta τ S fun w S1 => ∃ c, w = .bl c ∧ (c = true → Q (.bl true) S1) ∧ (c = false → tb τ S1 Q)
def tNotV3 (ta : TE3) : TE3 := fun τ S Q => ta τ S fun w S1 => ∃ c, w = .bl c ∧ Q (.bl (!c)) S1
theorem pe3_one {op} {t : TE3} (h : PE X a (LE X.K Ex t)) : PE X (.BoolOp op [a] pos) (LE X.K Ex t) := pe_one h
theorem pe3_and (ha : PE X a (LE X.K Ex ta)) (hb : PE X (.BoolOp .And (b :: rest) pos) (LE X.K Ex tb)) : PE X (.BoolOp .And (a :: b :: rest) pos) (LE X.K Ex (tAndV3 ta tb)) :=
  pe_imp (pe_and ha hb) fun σ H Q ⟨F, S, τ, Q3, R, Ev, h, k⟩ => ⟨F, S, τ, _, R, Ev, h, fun F1 S1 H1 w x s1 R1 r1 ⟨c, e, h1, h2⟩ => by
    subst e
    refine ⟨c, rep_bl r1, ?_⟩
    cases c with
    | true => exact iteT ⟨F1, S1, τ, Q3, R1, Ev.mono s1, h1 rfl, k.mono s1⟩
    | false => exact iteF (k F1 S1 H1 _ _ s1 R1 mk_bl (h2 rfl))⟩
theorem pe3_or (ha : PE X a (LE X.K Ex ta)) (hb : PE X (.BoolOp .Or (b :: rest) pos) (LE X.K Ex tb)) : PE X (.BoolOp .Or (a :: b :: rest) pos) (LE X.K Ex (tOrV3 ta tb)) :=
  pe_imp (pe_or ha hb) fun σ H Q ⟨F, S, τ, Q3, R, Ev, h, k⟩ => ⟨F, S, τ, _, R, Ev, h, fun F1 S1 H1 w x s1 R1 r1 ⟨c, e, h1, h2⟩ => by
    subst e
    refine ⟨c, rep_bl r1, ?_⟩
    cases c with
    | true => exact iteT (k F1 S1 H1 _ _ s1 R1 mk_bl (h1 rfl))
    | false => exact iteF ⟨F1, S1, τ, Q3, R1, Ev.mono s1, h2 rfl, k.mono s1⟩⟩
theorem pe3_not (ha : PE X a (LE X.K Ex ta)) : PE X (.UnaryOp .Not a pos) (LE X.K Ex (tNotV3 ta)) :=
  pe_imp (pe_not ha) fun σ H Q ⟨F, S, τ, Q3, R, Ev, h, k⟩ => ⟨F, S, τ, _, R, Ev, h, fun F1 S1 H1 w x s1 R1 r1 ⟨c, e, h1⟩ => by
    subst e
    exact ⟨c, rep_bl r1, k F1 S1 H1 _ _ s1 R1 mk_bl h1⟩⟩
def tIfE3 (t : TT3) (ta tb : TE3) : TE3 := fun τ S Q => t τ S fun b S1 => (b = true → ta τ S1 Q) ∧ (b = false → tb τ S1 Q)
theorem pe3_if {c : Expr} (hc : PT X c (LT X.K Ex t)) (ha : PE X a (LE X.K Ex ta)) (hb : PE X b (LE X.K Ex tb)) : PE X (.IfExp c a b pos) (LE X.K Ex (tIfE3 t ta tb)) :=
  pe_imp (pe_ifExp hc ha hb) fun σ H Q ⟨F, S, τ, Q3, R, Ev, h, k⟩ => ⟨F, S, τ, _, R, Ev, h, fun F1 S1 H1 b s1 R1 ⟨h1, h2⟩ => by
    cases b with
    | true => exact iteT ⟨F1, S1, τ, Q3, R1, Ev.mono s1, h1 rfl, k.mono s1⟩
    | false => exact iteF ⟨F1, S1, τ, Q3, R1, Ev.mono s1, h2 rfl, k.mono s1⟩⟩
end

/-! ### operators on ints, texts, data -/
section
variable {X : Cx} {K : PySem.W.Frag}
def gI3 (C : Int → Int → Prop) (g : Int → Int → W) : R3 := fun w u S Q => ∃ i j, w = .int i ∧ u = .int j ∧ C i j ∧ Q (g i j) S
def gI03 (g : Int → Int → W) : R3 := fun w u S Q => ∃ i j, w = .int i ∧ u = .int j ∧ Q (g i j) S
theorem ol_i {C : Int → Int → Prop} {g : Int → Int → W} {gV : Int → Int → V} (h : ∀ F i j, RepW K F (g i j) (gV i j)) : OpL K (gI3 C g) (rI C gV) := fun F S H w u x y Q3 Q R rw ru ⟨i, j, e1, e2, c, q⟩ k => by
  subst e1 e2
  exact ⟨i, j, rep_int rw, rep_int ru, c, k F S H _ _ (Sm.refl F) R (h F i j) q⟩
theorem ol_i0 {g : Int → Int → W} {gV : Int → Int → V} (h : ∀ F i j, RepW K F (g i j) (gV i j)) : OpL K (gI03 g) (rI0 gV) := fun F S H w u x y Q3 Q R rw ru ⟨i, j, e1, e2, q⟩ k => by
  subst e1 e2
  exact ⟨i, j, rep_int rw, rep_int ru, k F S H _ _ (Sm.refl F) R (h F i j) q⟩
abbrev gAdd : R3 := gI03 fun i j => .int (i + j)
abbrev gSub : R3 := gI03 fun i j => .int (i - j)
abbrev gMul : R3 := gI3 CMul fun i j => .int (i * j)
abbrev gMulW : R3 := gI3 CMulW fun i j => .int (i * j)
abbrev gDiv : R3 := gI3 CDivW fun i j => .int (i / j)
abbrev gMod : R3 := gI3 (fun _ j => 0 < j) fun i j => .int (i % j)
abbrev gPow : R3 := gI3 CPow fun i j => .int (i ^ j.toNat)
abbrev gLt : R3 := gI03 fun i j => .bl (decide (i < j))
abbrev gLe : R3 := gI03 fun i j => .bl (decide (i ≤ j))
abbrev gGt : R3 := gI03 fun i j => .bl (decide (j < i))
abbrev gGe : R3 := gI03 fun i j => .bl (decide (j ≤ i))
theorem l_add : OpL K gAdd (rI0 fun i j => .int (i + j)) := ol_i0 fun _ _ _ => mk_int
theorem l_sub : OpL K gSub (rI0 fun i j => .int (i - j)) := ol_i0 fun _ _ _ => mk_int
theorem l_mul : OpL K gMul (rI CMul fun i j => .int (i * j)) := ol_i fun _ _ _ => mk_int
theorem l_mulW : OpL K gMulW (rI CMulW fun i j => .int (i * j)) := ol_i fun _ _ _ => mk_int
theorem l_div : OpL K gDiv (rI CDivW fun i j => .int (i / j)) := ol_i fun _ _ _ => mk_int
theorem l_mod : OpL K gMod (rI (fun _ j => 0 < j) fun i j => .int (i % j)) := ol_i fun _ _ _ => mk_int
theorem l_pow : OpL K gPow (rI CPow fun i j => .int (i ^ j.toNat)) := ol_i fun _ _ _ => mk_int
theorem l_lt : OpL K gLt (rI0 fun i j => .bl (decide (i < j))) := ol_i0 fun _ _ _ => mk_bl
theorem l_le : OpL K gLe (rI0 fun i j => .bl (decide (i ≤ j))) := ol_i0 fun _ _ _ => mk_bl
theorem l_gt : OpL K gGt (rI0 fun i j => .bl (decide (j < i))) := ol_i0 fun _ _ _ => mk_bl
theorem l_ge : OpL K gGe (rI0 fun i j => .bl (decide (j ≤ i))) := ol_i0 fun _ _ _ => mk_bl
/-- == and != of texts, of data -/
def rEqX (K : PySem.W.Frag) : R2 := fun x y H Q => (∃ a b, x = .str a ∧ y = .str b ∧ Q (.bl (decide (a = b))) H) ∨ rEqD K x y H Q
def rNeX (K : PySem.W.Frag) : R2 := fun x y H Q => (∃ a b, x = .str a ∧ y = .str b ∧ Q (.bl (!decide (a = b))) H) ∨ rNeD K x y H Q
theorem dec_vstr {a b : Str} : decide (V.str a = V.str b) = decide (a = b) := decide_eq_decide.mpr ⟨fun h => by cases h; rfl, fun h => by rw [h]⟩
theorem op_eqX (hu : X.A.units + 64 < cLine) : OpR X (compareOp .Eq) (rEqX X.K) := fun pins s σ H x y v u Q I rx ry h => h.elim (fun ⟨a, b, e1, e2, q⟩ => op_eq pins s σ H x y v u Q I rx ry (by subst e1 e2; exact ⟨rfl, by rw [dec_vstr]; exact q⟩)) (op_eqD hu pins s σ H x y v u Q I rx ry)
theorem op_neX (hu : X.A.units + 64 < cLine) : OpR X (compareOp .NotEq) (rNeX X.K) := fun pins s σ H x y v u Q I rx ry h => h.elim (fun ⟨a, b, e1, e2, q⟩ => op_ne pins s σ H x y v u Q I rx ry (by subst e1 e2; exact ⟨rfl, by rw [dec_vstr]; exact q⟩)) (op_neD hu pins s σ H x y v u Q I rx ry)
def gEq : R3 := fun w u S Q => (∃ a b, w = .str a ∧ u = .str b ∧ Q (.bl (decide (a = b))) S) ∨ ∃ d e, viewW S w = some d ∧ viewW S u = some e ∧ SeqAt.shaped d = true ∧ SeqAt.shaped e = true ∧ Q (.bl (PyData.eqv d e)) S
def gNe : R3 := fun w u S Q => (∃ a b, w = .str a ∧ u = .str b ∧ Q (.bl (!decide (a = b))) S) ∨ ∃ d e, viewW S w = some d ∧ viewW S u = some e ∧ SeqAt.shaped d = true ∧ SeqAt.shaped e = true ∧ Q (.bl (!PyData.eqv d e)) S
theorem l_eq : OpL K gEq (rEqX K) := fun F S H w u x y Q3 Q R rw ru h k => h.imp
  (fun ⟨a, b, e1, e2, q⟩ => by subst e1 e2; exact ⟨a, b, rep_str rw, rep_str ru, k F S H _ _ (Sm.refl F) R mk_bl q⟩)
  fun ⟨d, e, e1, e2, s1, s2, q⟩ => ⟨d, e, view_rep R rw e1, view_rep R ru e2, s1, s2, k F S H _ _ (Sm.refl F) R mk_bl q⟩
theorem l_ne : OpL K gNe (rNeX K) := fun F S H w u x y Q3 Q R rw ru h k => h.imp
  (fun ⟨a, b, e1, e2, q⟩ => by subst e1 e2; exact ⟨a, b, rep_str rw, rep_str ru, k F S H _ _ (Sm.refl F) R mk_bl q⟩)
  fun ⟨d, e, e1, e2, s1, s2, q⟩ => ⟨d, e, view_rep R rw e1, view_rep R ru e2, s1, s2, k F S H _ _ (Sm.refl F) R mk_bl q⟩
/-- texts -/
def gAddS : R3 := fun w u S Q => ∃ i j, w = .str i ∧ u = .str j ∧ i.length + j.length ≤ sizeLine ∧ Q (.str (i ++ j)) S
theorem l_addS : OpL K gAddS (fun x y H Q => ∃ i j, x = .str i ∧ y = .str j ∧ i.length + j.length ≤ sizeLine ∧ Q (.str (i ++ j)) H) := fun F S H w u x y Q3 Q R rw ru ⟨i, j, e1, e2, c, q⟩ k => by
  subst e1 e2
  exact ⟨i, j, rep_str rw, rep_str ru, c, k F S H _ _ (Sm.refl F) R mk_str q⟩
/-- None -/
def nonW : W → Bool
  | .d .none => true
  | _ => false
def gIsN : R3 := fun w u S Q => u = .non ∧ Q (.bl (nonW w)) S
def gNotN : R3 := fun w u S Q => u = .non ∧ Q (.bl (!nonW w)) S
theorem rep_nonW {F : Fz} {v : V} {w : W} (h : RepW K F w v) : decide (v = .non) = nonW w := by
  cases w with
  | d x => cases (show Dp K F.f v x from h) <;> rfl
  | r a => cases (show v = .ref a from h); rfl
  | ty n => cases (show v = .ty n from h); rfl
theorem l_isN : OpL K gIsN (fun x y H Q => y = .non ∧ Q (.bl (decide (x = .non))) H) := fun F S H w u x y Q3 Q R rw ru ⟨e2, q⟩ k => by
  subst e2
  refine ⟨rep_non ru, ?_⟩
  rw [rep_nonW rw]
  exact k F S H _ _ (Sm.refl F) R mk_bl q
theorem l_notN : OpL K gNotN (fun x y H Q => y = .non ∧ Q (.bl (!decide (x = .non))) H) := fun F S H w u x y Q3 Q R rw ru ⟨e2, q⟩ k => by
  subst e2
  refine ⟨rep_non ru, ?_⟩
  rw [rep_nonW rw]
  exact k F S H _ _ (Sm.refl F) R mk_bl q
end
end H3

namespace H3
open PySem PySem.Spec L2
open PyProof.Rows hiding St

/-! ### built-in functions -/
abbrev RC3 := List W → Sto → K3 → Prop
def CallL (K : PySem.W.Frag) (r3 : RC3) (r : List V → Hp → VK → Prop) : Prop := ∀ F S H ws vs Q3 Q, Rel K F S H → RepWs K F ws vs → r3 ws S Q3 → KE K F Q3 Q → r vs H Q
def tCB3 (r : RC3) (t : TA3) : TE3 := fun τ S Q => t τ S fun ws S1 => r ws S1 Q
theorem le_cb {K : PySem.W.Frag} {Ex : WX} {r3 : RC3} {r : List V → Hp → VK → Prop} {t : TA3} (l : CallL K r3 r) : ∀ σ H Q, LE K Ex (tCB3 r3 t) σ H Q → tCB r (LA K Ex t) σ H Q := fun σ H Q ⟨F, S, τ, Q3, R, Ev, h, k⟩ =>
  ⟨F, S, τ, _, R, Ev, h, fun F1 S1 H1 ws vs s1 R1 r1 h1 => l F1 S1 H1 ws vs Q3 Q R1 r1 h1 (k.mono s1)⟩
section
variable {X : Cx} {Ex : WX} {x : Str} {p pos : Pos} {e : Expr} {es : List Expr} {t : TA3} {id T : String} {r3 : RC3} {r : List V → Hp → VK → Prop}
theorem pe3_B (hc : CallR X (.builtin id) r) (l : CallL X.K r3 r) (hg : Gl X x) (hm : X.mg x = none) (hv : bootBuiltins x = some (.builtin id)) (ha : PA X (e :: es) (LA X.K Ex t)) (hn : x ≠ "__name__" := by decide) (hdb : (x == ("__debug__" : Str)) = false := by decide)
    (he : starEach (e :: es) X.env = (false, eval e X.env) :: starEach es X.env := by rfl) (hpl : (backTo pos (starEach es X.env)).any (·.1) = false := by rfl) : PE X (.Call (.Name x p) (e :: es) [] pos) (LE X.K Ex (tCB3 r3 t)) := pe_imp (pe_callB hc hg hm hv ha hn hdb he hpl) (le_cb l)
theorem pe3_Ty (hc : CallR X (.type T) r) (l : CallL X.K r3 r) (hg : Gl X x) (hm : X.mg x = none) (hv : bootBuiltins x = some (.type T)) (ha : PA X (e :: es) (LA X.K Ex t)) (hn : x ≠ "__name__" := by decide) (hdb : (x == ("__debug__" : Str)) = false := by decide)
    (he : starEach (e :: es) X.env = (false, eval e X.env) :: starEach es X.env := by rfl) (hpl : (backTo pos (starEach es X.env)).any (·.1) = false := by rfl) : PE X (.Call (.Name x p) (e :: es) [] pos) (LE X.K Ex (tCB3 r3 t)) := pe_imp (pe_callTy hc hg hm hv ha hn hdb he hpl) (le_cb l)
end
section
variable {X : Cx} {K : PySem.W.Frag}
theorem ws1 {F : Fz} {w : W} {vs : List V} (r : RepWs K F [w] vs) : ∃ v, vs = [v] ∧ RepW K F w v := by
  cases r with
  | cons a t => cases t; exact ⟨_, rfl, a⟩
theorem ws2 {F : Fz} {w u : W} {vs : List V} (r : RepWs K F [w, u] vs) : ∃ v y, vs = [v, y] ∧ RepW K F w v ∧ RepW K F u y := by
  cases r with
  | cons a t =>
    cases t with
    | cons b t => cases t; exact ⟨_, _, rfl, a, b⟩
/-- abs, int, max, min -/
def gAbs : RC3 := fun ws S Q => ∃ i, ws = [.int i] ∧ Q (.int (if i < 0 then -i else i)) S
theorem l_abs : CallL K gAbs (fun xs H Q => ∃ i, xs = [.int i] ∧ Q (.int (if i < 0 then -i else i)) H) := fun F S H ws vs Q3 Q R r ⟨i, e, q⟩ k => by
  subst e
  obtain ⟨v, rfl, rv⟩ := ws1 r
  exact ⟨i, by rw [rep_int rv], k F S H _ _ (Sm.refl F) R mk_int q⟩
def gInt : RC3 := fun ws S Q => ∃ i, ws = [.int i] ∧ Q (.int i) S
theorem l_int : CallL K gInt (fun xs H Q => (∃ i, xs = [.int i] ∧ Q (.int i) H) ∨ ∃ k, xs = [.bl k] ∧ Q (.int (if k then 1 else 0)) H) := fun F S H ws vs Q3 Q R r ⟨i, e, q⟩ k => by
  subst e
  obtain ⟨v, rfl, rv⟩ := ws1 r
  exact .inl ⟨i, by rw [rep_int rv], k F S H _ _ (Sm.refl F) R mk_int q⟩
def gMax2 : RC3 := fun ws S Q => ∃ i j, ws = [.int i, .int j] ∧ Q (.int (if j > i then j else i)) S
theorem l_max2 : CallL K gMax2 (fun xs H Q => ∃ i j, xs = [.int i, .int j] ∧ Q (.int (if j > i then j else i)) H) := fun F S H ws vs Q3 Q R r ⟨i, j, e, q⟩ k => by
  subst e
  obtain ⟨v, y, rfl, rv, ry⟩ := ws2 r
  exact ⟨i, j, by rw [rep_int rv, rep_int ry], k F S H _ _ (Sm.refl F) R mk_int q⟩
def gMin2 : RC3 := fun ws S Q => ∃ i j, ws = [.int i, .int j] ∧ Q (.int (if j < i then j else i)) S
theorem l_min2 : CallL K gMin2 (fun xs H Q => ∃ i j, xs = [.int i, .int j] ∧ Q (.int (if j < i then j else i)) H) := fun F S H ws vs Q3 Q R r ⟨i, j, e, q⟩ k => by
  subst e
  obtain ⟨v, y, rfl, rv, ry⟩ := ws2 r
  exact ⟨i, j, by rw [rep_int rv, rep_int ry], k F S H _ _ (Sm.refl F) R mk_int q⟩
/-- len -/
def lenW (S : Sto) : W → Option Nat
  | .d (.str z) => if z.length ≤ sizeLine then some z.length else none
  | w => (seqW S w).map List.length
def gLen : RC3 := fun ws S Q => ∃ w n, ws = [w] ∧ lenW S w = some n ∧ Q (.int n) S
theorem call_len3 : CallR X (.builtin "len") (fun xs H Q => (∃ p ys, xs = [.ref p] ∧ (SqL X.K H p ys ∨ SqT X.K H p ys) ∧ Q (.int ys.length) H) ∨ ∃ z, xs = [.str z] ∧ z.length ≤ sizeLine ∧ Q (.int z.length) H) := CallR.or call_len_seq call_len_str
theorem l_len : CallL K gLen (fun xs H Q => (∃ p ys, xs = [.ref p] ∧ (SqL K H p ys ∨ SqT K H p ys) ∧ Q (.int ys.length) H) ∨ ∃ z, xs = [.str z] ∧ z.length ≤ sizeLine ∧ Q (.int z.length) H) := fun F S H ws vs Q3 Q R r ⟨w, n, e, hn, q⟩ k => by
  subst e
  obtain ⟨v, rfl, rv⟩ := ws1 r
  have fin : ∀ xs, seqW S w = some xs → xs.length = n → ∃ p ys, ([v] : List V) = [.ref p] ∧ (SqL K H p ys ∨ SqT K H p ys) ∧ Q (.int ys.length) H := fun xs hx hl => by
    obtain ⟨a, us, rfl, hs, ru⟩ := seq_rep R rv hx
    have e := Paired.length ru
    exact ⟨a, us, rfl, hs, by rw [← e, hl]; exact k F S H _ _ (Sm.refl F) R mk_int q⟩
  have gen : (seqW S w).map List.length = some n → _ := fun h => by
    cases e : seqW S w with
    | none => rw [e] at h; exact nomatch h
    | some xs => rw [e] at h; exact fin xs e (Option.some.inj h)
  cases w with
  | d x =>
    cases x with
    | str z =>
      have hn' : (if z.length ≤ sizeLine then some z.length else none) = some n := hn
      by_cases hz : z.length ≤ sizeLine
      · rw [if_pos hz] at hn'
        cases hn'
        exact .inr ⟨z, by rw [rep_str rv], hz, k F S H _ _ (Sm.refl F) R mk_int q⟩
      · rw [if_neg hz] at hn'; cases hn'
    | none => exact .inl (gen hn)
    | bool b => exact .inl (gen hn)
    | int i => exact .inl (gen hn)
    | list l => exact .inl (gen hn)
    | tuple l => exact .inl (gen hn)
    | dict l => exact .inl (gen hn)
  | r a => exact .inl (gen hn)
  | ty m => exact .inl (gen hn)
/-- the items as data -/
def itemsW (S : Sto) (w : W) : Option (List PyData) := match viewW S w with
  | some (.list ds) => some ds
  | some (.tuple ds) => some ds
  | _ => none
theorem list_rep {F : Fz} {S : Sto} {H : Hp} {w : W} {v : V} {ds : List PyData} (R : Rel K F S H) (r : RepW K F w v) (h : viewW S w = some (.list ds)) : ∃ a vs, v = .ref a ∧ SqL K H a vs ∧ DpAll K F.f vs ds ∧ seqW S w = some (ds.map W.d) := by
  cases w with
  | d y =>
    cases h
    cases (show Dp K F.f v (.list ds) from r) with
    | lst h1 h2 => exact ⟨_, _, rfl, R.same.seq h1, h2, rfl⟩
  | r a =>
    have h' : (match S a with | some (.lst ws) => (ws.mapM fun | W.d x => some x | _ => none).map PyData.list | _ => none) = some (.list ds) := h
    cases e : S a with
    | none => rw [e] at h'; exact nomatch h'
    | some p =>
      rw [e] at h'
      cases p with
      | ins C fs => cases h'
      | tb q => cases h'
      | lst us =>
        have h2 : (us.mapM fun | W.d x => some x | _ => none).map PyData.list = some (.list ds) := h'
        cases e2 : (us.mapM fun | W.d x => some x | _ => none) with
        | none => rw [e2] at h2; exact nomatch h2
        | some es =>
          rw [e2] at h2
          cases h2
          have e3 := mapM_d e2
          subst e3
          obtain ⟨_, o, ho, vs, rfl, rv⟩ := R.st a _ e
          refine ⟨a, vs, r, .inl (.inl ho), all_of_repWs rv, ?_⟩
          show (match S a with | some (.lst ws) => some ws | _ => none) = _
          rw [e]
  | ty n => cases h
theorem tup_rep {F : Fz} {S : Sto} {H : Hp} {w : W} {v : V} {ds : List PyData} (R : Rel K F S H) (r : RepW K F w v) (h : viewW S w = some (.tuple ds)) : w = .tup ds ∧ ∃ a vs, v = .ref a ∧ SqT K H a vs ∧ DpAll K F.f vs ds := by
  cases w with
  | d y =>
    cases h
    cases (show Dp K F.f v (.tuple ds) from r) with
    | tup h1 h2 => exact ⟨rfl, _, _, rfl, sqt_mono R.same h1.sqt, h2⟩
  | r a =>
    exfalso
    have h' : (match S a with | some (.lst ws) => (ws.mapM fun | W.d x => some x | _ => none).map PyData.list | _ => none) = some (.tuple ds) := h
    cases e : S a with
    | none => rw [e] at h'; exact nomatch h'
    | some p =>
      rw [e] at h'
      cases p with
      | ins C fs => cases h'
      | tb q => cases h'
      | lst us =>
        have h2 : (us.mapM fun | W.d x => some x | _ => none).map PyData.list = some (.tuple ds) := h'
        cases e2 : (us.mapM fun | W.d x => some x | _ => none) with
        | none => rw [e2] at h2; exact nomatch h2
        | some es => rw [e2] at h2; cases h2
  | ty n => cases h
theorem items_rep {F : Fz} {S : Sto} {H : Hp} {w : W} {v : V} {ds : List PyData} (R : Rel K F S H) (r : RepW K F w v) (h : itemsW S w = some ds) : ∃ a vs, v = .ref a ∧ ((SqL K H a vs) ∨ (SqT K H a vs ∧ RepW K F (.d (.tuple ds)) v)) ∧ DpAll K F.f vs ds ∧ seqW S w = some (ds.map W.d) := by
  unfold itemsW at h
  cases e : viewW S w with
  | none => rw [e] at h; exact nomatch h
  | some x =>
    rw [e] at h
    cases x with
    | list l =>
      cases h
      obtain ⟨a, vs, h1, h2, h3, h4⟩ := list_rep R r e
      exact ⟨a, vs, h1, .inl h2, h3, h4⟩
    | tuple l =>
      cases h
      obtain ⟨rfl, a, vs, h1, h2, h3⟩ := tup_rep R r e
      exact ⟨a, vs, h1, .inr ⟨h2, r⟩, h3, rfl⟩
    | none => cases h
    | bool => cases h
    | int => cases h
    | str => cases h
    | dict => cases h
/-- tuple(x): x a list or a tuple of data -/
def gTuple : RC3 := fun ws S Q => ∃ w ds, ws = [w] ∧ itemsW S w = some ds ∧ Q (.tup ds) S
theorem newTup {F : Fz} {S : Sto} {H : Hp} {p : Addr} {vs : List V} {ds : List PyData} {o : Obj} (R : Rel K F S H) (h : H p = none) (no : NoD o) (ha : DpAll K F.f vs ds) : Sm F (F.new p (.frz o (.tup vs))) ∧ Rel K (F.new p (.frz o (.tup vs))) S (upd H p (.frz o (.tup vs))) ∧ RepW K (F.new p (.frz o (.tup vs))) (.tup ds) (.ref p) :=
  have s := sm_new (p := p) (o := HO.frz o (.tup vs)) (R.freeF h)
  ⟨s, R.newF h, Dp.tup (.inl ⟨o, show upd F.f p (HO.frz o (.tup vs)) p = _ from upd_same, no⟩) (dpAll_mono s.f ha)⟩
theorem newLst {F : Fz} {S : Sto} {H : Hp} {p : Addr} {vs : List V} {ds : List PyData} (R : Rel K F S H) (h : H p = none) (ha : DpAll K F.f vs ds) : Sm F (F.new p (.lst vs)) ∧ Rel K (F.new p (.lst vs)) S (upd H p (.lst vs)) ∧ RepW K (F.new p (.lst vs)) (.lst ds) (.ref p) :=
  have s := sm_new (p := p) (o := HO.lst vs) (R.freeF h)
  ⟨s, R.newF h, Dp.lst (.inl (.inl (show upd F.f p (HO.lst vs) p = _ from upd_same))) (dpAll_mono s.f ha)⟩
theorem newMut {F : Fz} {S : Sto} {H : Hp} {p : Addr} {vs : List V} {ws : List W} (R : Rel K F S H) (h : H p = none) (ha : RepWs K F ws vs) : Rel K F (put S p (.lst ws)) (upd H p (.lst vs)) := R.newS h ⟨vs, rfl, ha⟩
theorem l_tuple : CallL K gTuple (fun xs H Q => ∃ p ys, xs = [.ref p] ∧ ((SqL K H p ys ∧ NewT Q ys H) ∨ (SqT K H p ys ∧ Q (.ref p) H))) := fun F S H ws vs Q3 Q R r ⟨w, ds, e, hd, q⟩ k => by
  subst e
  obtain ⟨v, rfl, rv⟩ := ws1 r
  obtain ⟨a, us, rfl, hs, ha, _⟩ := items_rep R rv hd
  rcases hs with hs | ⟨hs, rt⟩
  · refine ⟨a, us, rfl, .inl ⟨hs, fun l o hl no => ?_⟩⟩
    obtain ⟨s, R', rw'⟩ := newTup R hl no ha
    exact k _ S _ _ _ s R' rw' q
  · exact ⟨a, us, rfl, .inr ⟨hs, k F S H _ _ (Sm.refl F) R rt q⟩⟩
/-- list(x), to stay; list(x), to be changed -/
def gListD : RC3 := fun ws S Q => ∃ w ds, ws = [w] ∧ itemsW S w = some ds ∧ Q (.lst ds) S
def gListM : RC3 := fun ws S Q => ∃ w us, ws = [w] ∧ seqW S w = some us ∧ ∀ p, S p = none → Q (.r p) (put S p (.lst us))
theorem l_listD : CallL K gListD (fun xs H Q => ∃ p ys, xs = [.ref p] ∧ (SqL K H p ys ∨ SqT K H p ys) ∧ ∀ l, H l = none → Q (.ref l) (upd H l (.lst ys))) := fun F S H ws vs Q3 Q R r ⟨w, ds, e, hd, q⟩ k => by
  subst e
  obtain ⟨v, rfl, rv⟩ := ws1 r
  obtain ⟨a, us, rfl, hs, ha, _⟩ := items_rep R rv hd
  refine ⟨a, us, rfl, hs.imp id And.left, fun l hl => ?_⟩
  obtain ⟨s, R', rw'⟩ := newLst R hl ha
  exact k _ S _ _ _ s R' rw' q
theorem l_listM : CallL K gListM (fun xs H Q => ∃ p ys, xs = [.ref p] ∧ (SqL K H p ys ∨ SqT K H p ys) ∧ ∀ l, H l = none → Q (.ref l) (upd H l (.lst ys))) := fun F S H ws vs Q3 Q R r ⟨w, us, e, hd, q⟩ k => by
  subst e
  obtain ⟨v, rfl, rv⟩ := ws1 r
  obtain ⟨a, vs, rfl, hs, ha⟩ := seq_rep R rv hd
  exact ⟨a, vs, rfl, hs, fun l hl => k F _ _ (.r l) _ (Sm.refl F) (newMut R hl ha) (show V.ref l = V.ref l from rfl) (q l (R.freeS hl))⟩
/-- all, any of a list of truth values -/
theorem bools_of {F : Fz} : ∀ {bs : List Bool} {vs : List V}, DpAll K F.f vs (bs.map PyData.bool) → vs = bs.map V.bl
  | [], _, h => by cases h; rfl
  | b :: bs, _, h => by
    cases h with
    | cons a t => cases a; rw [bools_of t]; rfl
theorem ints_of {F : Fz} : ∀ {ns : List Int} {vs : List V}, DpAll K F.f vs (ns.map PyData.int) → vs = ns.map V.int
  | [], _, h => by cases h; rfl
  | b :: bs, _, h => by
    cases h with
    | cons a t => cases a; rw [ints_of t]; rfl
theorem strs_of {F : Fz} : ∀ {ns : List Str} {vs : List V}, DpAll K F.f vs (ns.map PyData.str) → vs = ns.map V.str
  | [], _, h => by cases h; rfl
  | b :: bs, _, h => by
    cases h with
    | cons a t => cases a; rw [strs_of t]; rfl
def gAll : RC3 := fun ws S Q => ∃ bs : List Bool, ws = [.lst (bs.map PyData.bool)] ∧ Q (.bl (bs.all id)) S
theorem l_all : CallL K gAll (rAll K) := fun F S H ws vs Q3 Q R r ⟨bs, e, q⟩ k => by
  subst e
  obtain ⟨v, rfl, rv⟩ := ws1 r
  cases (show Dp K F.f v (.list (bs.map PyData.bool)) from rv) with
  | lst hs ha =>
    have e := bools_of ha
    subst e
    exact ⟨_, bs, rfl, R.same.seq hs, k F S H _ _ (Sm.refl F) R mk_bl q⟩
def gAny : RC3 := fun ws S Q => ∃ bs : List Bool, ws = [.lst (bs.map PyData.bool)] ∧ Q (.bl (bs.any id)) S
theorem l_any : CallL K gAny (rAny K) := fun F S H ws vs Q3 Q R r ⟨bs, e, q⟩ k => by
  subst e
  obtain ⟨v, rfl, rv⟩ := ws1 r
  cases (show Dp K F.f v (.list (bs.map PyData.bool)) from rv) with
  | lst hs ha =>
    have e := bools_of ha
    subst e
    exact ⟨_, bs, rfl, R.same.seq hs, k F S H _ _ (Sm.refl F) R mk_bl q⟩
/-- repr of data -/
def gRepr : RC3 := fun ws S Q => ∃ w d, ws = [w] ∧ viewW S w = some d ∧ d.showable = true ∧ d.hasDict = false ∧ d.depth ≤ 64 ∧ d.shown.length ≤ sizeLine ∧ Q (.str d.shown) S
theorem call_repr3 (hg : X.A.guards = some []) (hu : X.A.units + 70 < cLine) : CallR X (.builtin "repr") (fun xs H Q => ∃ x d, xs = [x] ∧ L2.Dp X.K H x d ∧ d.showable = true ∧ d.hasDict = false ∧ d.depth ≤ 64 ∧ d.shown.length ≤ sizeLine ∧ Q (.str d.shown) H) := by
  rintro pins s σ H _ us Q I rr ⟨x, d, rfl, hd, h1, h2, h3, h4, q⟩
  obtain ⟨u, eu, ru⟩ := vals1 rr
  subst eu
  obtain ⟨as, rd⟩ := L2.Dp.reads I d x u hd ru
  have big : ∀ a, u = .ref a → wpAny (model X.prog X.w) X.A (call (.builtin "repr") [u]) (EP X pins σ Q) X.xe s := fun a e => by
    subst e
    refine repr_of_reads' rd h1 (fun z => by rw [h2] at z; cases z) hg (by omega) (fun _ _ e => e) (fun h' t tk kp => ?_) h4
    exact ⟨.str d.shown, H, I.kept (t' := tk) kp, ⟨_, rfl⟩, q⟩
  cases hd with
  | non => cases ru; exact PySem.P.repr_of_none ⟨.str _, H, I.tok _, ⟨_, rfl⟩, q⟩
  | bl b => cases ru; exact PySem.P.repr_of_bool ⟨.str _, H, I.tok _, ⟨_, rfl⟩, q⟩
  | int i =>
    obtain ⟨t, rfl⟩ := ru
    exact PySem.P.repr_of_int (of_decide_eq_true h1) ⟨.str _, H, I.tok _, ⟨_, rfl⟩, q⟩
  | str z =>
    obtain ⟨t, rfl⟩ := ru
    exact PySem.P.repr_of_str ⟨.str _, H, I.tok _, ⟨_, rfl⟩, q⟩ h4
  | lst hs ha => cases ru; exact big _ rfl
  | tup hs ha => cases ru; exact big _ rfl
theorem l_repr : CallL K gRepr (fun xs H Q => ∃ x d, xs = [x] ∧ L2.Dp K H x d ∧ d.showable = true ∧ d.hasDict = false ∧ d.depth ≤ 64 ∧ d.shown.length ≤ sizeLine ∧ Q (.str d.shown) H) := fun F S H ws vs Q3 Q R r ⟨w, d, e, hd, h1, h2, h3, h4, q⟩ k => by
  subst e
  obtain ⟨v, rfl, rv⟩ := ws1 r
  exact ⟨v, d, rfl, view_rep R rv hd, h1, h2, h3, h4, k F S H _ _ (Sm.refl F) R mk_str q⟩
/-- isinstance of data and a built-in class -/
def tyD : PyData → String
  | .none => "NoneType"
  | .bool _ => "bool"
  | .int _ => "int"
  | .str _ => "str"
  | .list _ => "list"
  | .tuple _ => "tuple"
  | .dict _ => "dict"
def tyIs (t u : String) : Bool := t == u || (t == "bool" && u == "int")
theorem dp_ty {H : Hp} {x : V} {d : PyData} (h : L2.Dp K H x d) : TyX K H x (.type (tyD d)) := by
  cases h with
  | non => exact .base .non
  | bl b => exact .base (.bl b)
  | int i => exact .base (.int i)
  | str z => exact .base (.str z)
  | lst hs ha =>
    rcases hs with (h | ⟨o, h⟩) | ⟨o, its, n, h, c, _⟩
    · exact .base (.lst h)
    · exact .base (.frz h)
    · exact .kList h c
  | tup hs ha =>
    rcases hs with (h | ⟨o, h⟩) | ⟨o, its, n, h, c, _⟩
    · exact .base (.tup h)
    · exact .fTuple h
    · exact .kTuple h c
def isiB (d : PyData) (n : String) : Option Bool := kitB (tyD d) n
def gIsi : RC3 := fun ws S Q => ∃ w d n b, ws = [w, .ty n] ∧ viewW S w = some d ∧ isiB d n = some b ∧ Q (.bl b) S
theorem l_isi : CallL K gIsi (rIsi K) := fun F S H ws vs Q3 Q R r ⟨w, d, n, b, e, hd, hb, q⟩ k => by
  subst e
  obtain ⟨v, y, rfl, rv, ry⟩ := ws2 r
  cases (show y = .ty n from ry)
  exact ⟨v, .ty n, _, _, b, rfl, .ty n, dp_ty (view_rep R rv hd), kit_ty hb, k F S H _ _ (Sm.refl F) R mk_bl q⟩
end
end H3

namespace H3
open PySem PySem.Spec L2
open PyProof.Rows hiding St

/-! ### tuples and lists that are written -/
def tTup3 (t : TA3) : TE3 := fun τ S Q => t τ S fun ws S1 => ∃ ds : List PyData, ws = ds.map W.d ∧ ds.length ≤ 1000 ∧ Q (.tup ds) S1
def tLstD3 (t : TA3) : TE3 := fun τ S Q => t τ S fun ws S1 => ∃ ds : List PyData, ws = ds.map W.d ∧ ds.length ≤ 1000 ∧ Q (.lst ds) S1
def tLstM3 (t : TA3) : TE3 := fun τ S Q => t τ S fun ws S1 => ws.length ≤ 1000 ∧ ∀ p, S1 p = none → Q (.r p) (put S1 p (.lst ws))
theorem le1000 {n : Nat} (h : n ≤ 1000) : n ≤ sizeLine := Nat.le_trans h (by decide)
section
variable {X : Cx} {Ex : WX} {es : List Expr} {t : TA3} {pos : Pos}
theorem pe3_tup {x1} (h : PA X es (LA X.K Ex t)) : PE X (.Tuple es x1 pos) (LE X.K Ex (tTup3 t)) :=
  pe_imp (pe_tupN h) fun σ H Q ⟨F, S, τ, Q3, R, Ev, h, k⟩ => ⟨F, S, τ, _, R, Ev, h, fun F1 S1 H1 ws vs s1 R1 r1 ⟨ds, e, hl, q⟩ => by
    subst e
    have ra := all_of_repWs r1
    have hv : vs.length = ds.length := by have z := Paired.length r1; rw [List.length_map] at z; exact z.symm
    refine ⟨by rw [hv]; exact le1000 hl, fun p o hp no => ?_⟩
    obtain ⟨s, R', rw'⟩ := newTup R1 hp no ra
    exact k _ _ _ _ _ (s1.trans s) R' rw' q⟩
theorem le_lstD {K : PySem.W.Frag} : ∀ σ H Q, LE K Ex (tLstD3 t) σ H Q → tLst (LA K Ex t) σ H Q := fun σ H Q ⟨F, S, τ, Q3, R, Ev, h, k⟩ => ⟨F, S, τ, _, R, Ev, h, fun F1 S1 H1 ws vs s1 R1 r1 ⟨ds, e, hl, q⟩ => by
    subst e
    have ra := all_of_repWs r1
    have hv : vs.length = ds.length := by have z := Paired.length r1; rw [List.length_map] at z; exact z.symm
    refine ⟨by rw [hv]; exact le1000 hl, fun p hp => ?_⟩
    obtain ⟨s, R', rw'⟩ := newLst R1 hp ra
    exact k _ _ _ _ _ (s1.trans s) R' rw' q⟩
theorem pe3_lstD (h : PA X es (LA X.K Ex t)) : PE X (.List es pos) (LE X.K Ex (tLstD3 t)) := pe_imp (pe_lst h) le_lstD
theorem pe3_lstM (h : PA X es (LA X.K Ex t)) : PE X (.List es pos) (LE X.K Ex (tLstM3 t)) :=
  pe_imp (pe_lst h) fun σ H Q ⟨F, S, τ, Q3, R, Ev, h, k⟩ => ⟨F, S, τ, _, R, Ev, h, fun F1 S1 H1 ws vs s1 R1 r1 ⟨hl, q⟩ => by
    refine ⟨by rw [← Paired.length r1]; exact le1000 hl, fun p hp => ?_⟩
    exact k _ _ _ (.r p) _ s1 (newMut R1 hp r1) (show V.ref p = V.ref p from rfl) (q p (R1.freeS hp))⟩
end

/-! ### subscripts -/
theorem rep_get {K : PySem.W.Frag} {F : Fz} : ∀ {ws : List W} {vs : List V} {i : Nat} {w : W}, RepWs K F ws vs → ws[i]? = some w → ∃ v, vs[i]? = some v ∧ RepW K F w v
  | _, _, i, _, .nil, h => by simp at h
  | _, _, 0, _, .cons r _, h => by cases h; exact ⟨_, rfl, r⟩
  | _, _, i + 1, _, .cons _ t, h => rep_get (i := i) t h
theorem rep_at {K : PySem.W.Frag} {F : Fz} {ws : List W} {vs : List V} {i : Int} {w : W} (r : RepWs K F ws vs) (h : atI ws i = some w) : ∃ v, atI vs i = some v ∧ RepW K F w v := by
  unfold atI at h ⊢
  rw [← Paired.length r]
  cases e : ixN ws.length i with
  | none => rw [e] at h; exact nomatch h
  | some j => rw [e] at h; exact rep_get r h
/-- x[i] -/
def ixW (S : Sto) (i : Int) : W → Option W
  | .d (.str z) => if z.length ≤ sizeLine then (atI z.cps.toList i).map fun c => .str ⟨#[c]⟩ else none
  | w => (seqW S w).bind fun ws => atI ws i
def gIx : R3 := fun w u S Q => ∃ i x, u = .int i ∧ ixW S i w = some x ∧ Q x S
section
variable {X : Cx} {Ex : WX} {a b : Expr} {ta tb : TE3} {pos : Pos}
theorem l_ix {K : PySem.W.Frag} : OpL K gIx (rIx K) := fun F S H w u x y Q3 Q R rw ru ⟨i, z, e, hz, q⟩ k => by
  subst e
  have ey := rep_int ru
  have gen : (seqW S w).bind (fun ws => atI ws i) = some z → rIx K x y H Q := fun h => by
    cases e : seqW S w with
    | none => rw [e] at h; exact nomatch h
    | some ws =>
      rw [e] at h
      obtain ⟨p, vs, rfl, hs, rv⟩ := seq_rep R rw e
      obtain ⟨v, hv, r1⟩ := rep_at rv h
      have fin := k F S H _ _ (Sm.refl F) R r1 q
      rcases hs with hs | hs
      · exact .inl ⟨p, vs, i, v, rfl, ey, hs, hv, fin⟩
      · exact .inr (.inl ⟨p, vs, i, v, rfl, ey, hs, hv, fin⟩)
  cases w with
  | d x' =>
    cases x' with
    | str s =>
      have hz' : (if s.length ≤ sizeLine then (atI s.cps.toList i).map fun c => W.str ⟨#[c]⟩ else none) = some z := hz
      by_cases hl : s.length ≤ sizeLine
      · rw [if_pos hl] at hz'
        cases e : atI s.cps.toList i with
        | none => rw [e] at hz'; cases hz'
        | some c =>
          rw [e] at hz'
          cases hz'
          exact .inr (.inr ⟨s, i, c, rep_str rw, ey, hl, e, k F S H _ _ (Sm.refl F) R mk_str q⟩)
      · rw [if_neg hl] at hz'; cases hz'
    | none => exact gen hz
    | bool b => exact gen hz
    | int j => exact gen hz
    | list l => exact gen hz
    | tuple l => exact gen hz
    | dict l => exact gen hz
  | r p => exact gen hz
  | ty n => exact gen hz
theorem pe3_ix (ha : PE X a (LE X.K Ex ta)) (hb : PE X b (LE X.K Ex tb)) (hs : PlainIx b := by intro _ _; rfl) : PE X (.Subscript a b pos) (LE X.K Ex (tOp3 gIx ta tb)) := pe_imp (pe_ix ix_seq ha hb hs) (le_op l_ix)
end

/-! ### slices -/
abbrev TO3 := S3 → Sto → (Option Int → Sto → Prop) → Prop
def LO (K : PySem.W.Frag) (E : WX) (t : TO3) : TO := fun σ H Q => ∃ F S τ Q3, Rel K F S H ∧ EnvR K F E τ σ ∧ t τ S Q3 ∧ ∀ F' S' H' o, Sm F F' → Rel K F' S' H' → Q3 o S' → Q o H'
def tNoP3 : TO3 := fun _ S Q => Q none S
def tPart3 (t : TE3) : TO3 := fun τ S Q => t τ S fun w S1 => ∃ i, w = .int i ∧ Q (some i) S1
def tSl3 (r : W → Option Int → Option Int → Sto → K3 → Prop) (te : TE3) (tl th : TO3) : TE3 := fun τ S Q => te τ S fun w S1 => tl τ S1 fun l S2 => th τ S2 fun u S3 => r w l u S3 Q
def cutG {α : Type} (xs : List α) (lo hi : Option Int) : List α := (xs.drop (HT.sIx xs.length 0 lo)).take (HT.sIx xs.length xs.length hi - HT.sIx xs.length 0 lo)
section
variable {X : Cx} {Ex : WX} {e : Expr} {te : TE3} {lo hi : Option Expr} {tl th : TO3} {pos p2 : Pos}
theorem po3_none : PO X none (LO X.K Ex tNoP3) := ⟨fun pins s σ H Q I ⟨F, S, τ, Q3, R, Ev, h, k⟩ => po_none.run pins s σ H Q I (k F S H _ (Sm.refl F) R h)⟩
theorem po3_some (h : PE X e (LE X.K Ex te)) : PO X (some e) (LO X.K Ex (tPart3 te)) := ⟨fun pins s σ H Q I ⟨F, S, τ, Q3, R, Ev, hh, k⟩ => (po_some h).run pins s σ H Q I ⟨F, S, τ, _, R, Ev, hh, fun F1 S1 H1 w v s1 R1 r1 ⟨i, e, q⟩ => by
  subst e
  exact ⟨i, rep_int r1, k F1 S1 H1 _ s1 R1 q⟩⟩⟩
def SlL (K : PySem.W.Frag) (r3 : W → Option Int → Option Int → Sto → K3 → Prop) (r : V → Option Int → Option Int → Hp → VK → Prop) : Prop := ∀ F S H w x lo hi Q3 Q, Rel K F S H → RepW K F w x → r3 w lo hi S Q3 → KE K F Q3 Q → r x lo hi H Q
theorem le_sl {K : PySem.W.Frag} {r3 : W → Option Int → Option Int → Sto → K3 → Prop} {r : V → Option Int → Option Int → Hp → VK → Prop} (l : SlL K r3 r) : ∀ σ H Q, LE K Ex (tSl3 r3 te tl th) σ H Q → tSl r (LE K Ex te) (LO K Ex tl) (LO K Ex th) σ H Q := fun σ H Q ⟨F, S, τ, Q3, R, Ev, h, k⟩ =>
  ⟨F, S, τ, _, R, Ev, h, fun F1 S1 H1 w x s1 R1 r1 h1 => ⟨F1, S1, τ, _, R1, Ev.mono s1, h1, fun F2 S2 H2 o s2 R2 h2 => ⟨F2, S2, τ, _, R2, Ev.mono (s1.trans s2), h2, fun F3 S3 H3 u s3 R3 h3 =>
    l F3 S3 H3 w x o u Q3 Q R3 (r1.mono (s2.trans s3)) h3 (k.mono (s1.trans (s2.trans s3)))⟩⟩⟩
theorem dpAll_len {K : PySem.W.Frag} {F : Hp} : ∀ {vs : List V} {ds : List PyData}, DpAll K F vs ds → vs.length = ds.length
  | _, _, .nil => rfl
  | _, _, .cons _ t => congrArg Nat.succ (dpAll_len t)
theorem dpAll_cut {K : PySem.W.Frag} {F : Hp} {vs : List V} {ds : List PyData} (h : DpAll K F vs ds) (lo hi : Option Int) : DpAll K F (cutV vs lo hi) (cutG ds lo hi) := by
  have hl : vs.length = ds.length := dpAll_len h
  have tk : ∀ {n : Nat} {vs : List V} {ds : List PyData}, DpAll K F vs ds → DpAll K F (vs.take n) (ds.take n) := fun {n} => by
    induction n with
    | zero => intro vs ds _; simp; exact .nil
    | succ n ih =>
      intro vs ds h
      cases h with
      | nil => simp; exact .nil
      | cons a t => exact .cons a (ih t)
  have dr : ∀ {n : Nat} {vs : List V} {ds : List PyData}, DpAll K F vs ds → DpAll K F (vs.drop n) (ds.drop n) := fun {n} => by
    induction n with
    | zero => intro vs ds h; exact h
    | succ n ih =>
      intro vs ds h
      cases h with
      | nil => simp; exact .nil
      | cons a t => exact ih t
  unfold cutV cutG
  rw [hl]
  exact tk (dr h)
/-- a list's slice, to stay -/
def gSlL : W → Option Int → Option Int → Sto → K3 → Prop := fun w lo hi S Q => ∃ ds, viewW S w = some (.list ds) ∧ Q (.lst (cutG ds lo hi)) S
theorem l_slL {K : PySem.W.Frag} : SlL K gSlL (rSlL K) := fun F S H w x lo hi Q3 Q R rw ⟨ds, hd, q⟩ k => by
  obtain ⟨a, vs, rfl, hs, ha, _⟩ := list_rep R rw hd
  refine ⟨a, vs, rfl, hs, fun p hp => ?_⟩
  obtain ⟨s, R', rw'⟩ := newLst R hp (dpAll_cut ha lo hi)
  exact k _ _ _ _ _ s R' rw' q
/-- a tuple's slice -/
def gSlT : W → Option Int → Option Int → Sto → K3 → Prop := fun w lo hi S Q => ∃ ds, w = .tup ds ∧ Q (.tup (cutG ds lo hi)) S
theorem cutG_all {α : Type} {xs : List α} {lo hi : Option Int} (h : HT.sIx xs.length 0 lo = 0 ∧ HT.sIx xs.length xs.length hi = xs.length) : cutG xs lo hi = xs := by
  unfold cutG
  rw [h.1, h.2]
  simp
theorem l_slT {K : PySem.W.Frag} : SlL K gSlT (rSlN K) := fun F S H w x lo hi Q3 Q R rw ⟨ds, hd, q⟩ k => by
  subst hd
  obtain ⟨_, a, vs, rfl, hs, ha⟩ := tup_rep R rw rfl
  have hl : vs.length = ds.length := dpAll_len ha
  refine ⟨a, vs, rfl, hs, ?_⟩
  refine ⟨fun hw => ?_, fun _ p o hp no => ?_⟩
  · rw [hl] at hw
    rw [cutG_all hw] at q
    exact k F S H _ _ (Sm.refl F) R rw q
  · obtain ⟨s, R', rw'⟩ := newTup R hp no (dpAll_cut ha lo hi)
    exact k _ _ _ _ _ s R' rw' q
/-- a text's slice -/
def gSlS : W → Option Int → Option Int → Sto → K3 → Prop := fun w lo hi S Q => ∃ z, w = .str z ∧ z.length ≤ sizeLine ∧ Q (.str (cutS z lo hi)) S
/-- xs[::-1] -/
def tRev3 (te : TE3) : TE3 := fun τ S Q => te τ S fun w S1 => ∃ ds, viewW S1 w = some (.list ds) ∧ Q (.lst ds.reverse) S1
theorem dpAll_rev {K : PySem.W.Frag} {F : Hp} {vs : List V} {ds : List PyData} (h : DpAll K F vs ds) : DpAll K F vs.reverse ds.reverse := by
  have ap : ∀ {vs us : List V} {ds es : List PyData}, DpAll K F vs ds → DpAll K F us es → DpAll K F (vs ++ us) (ds ++ es) := fun {vs us ds es} h1 h2 => by
    revert ds
    induction vs with
    | nil => intro ds h1; cases h1; exact h2
    | cons v vs ih => intro ds h1; cases h1 with | cons a t => exact .cons a (ih t)
  revert ds
  induction vs with
  | nil => intro ds h; cases h; exact .nil
  | cons v vs ih =>
    intro ds h
    cases h with
    | cons a t =>
      simp only [List.reverse_cons]
      exact ap (ih t) (.cons a .nil)
theorem pe3_rev {k : Nat} {p1 p2 p3 pos : Pos} (he : PE X e (LE X.K Ex te)) : PE X (.Subscript e (.Slice none none (some (.UnaryOp .USub (.Constant (.int 1) k p1) p2)) p3) pos) (LE X.K Ex (tRev3 te)) :=
  pe_imp (pe_revL he) fun σ H Q ⟨F, S, τ, Q3, R, Ev, h, k⟩ => ⟨F, S, τ, _, R, Ev, h, fun F1 S1 H1 w x s1 R1 r1 ⟨ds, hd, q⟩ => by
    obtain ⟨a, vs, rfl, hs, ha, _⟩ := list_rep R1 r1 hd
    refine ⟨a, vs, rfl, hs, fun p hp => ?_⟩
    obtain ⟨s, R', rw'⟩ := newLst R1 hp (dpAll_rev ha)
    exact k _ _ _ _ _ (s1.trans s) R' rw' q⟩
theorem pe3_slice {r3 : W → Option Int → Option Int → Sto → K3 → Prop} {r : V → Option Int → Option Int → Hp → VK → Prop} (hr : SlR X r) (l : SlL X.K r3 r) (he : PE X e (LE X.K Ex te)) (hl : PO X lo (LO X.K Ex tl)) (hu : PO X hi (LO X.K Ex th)) :
    PE X (.Subscript e (.Slice lo hi none p2) pos) (LE X.K Ex (tSl3 r3 te tl th)) := pe_imp (pe_slice hr he hl hu) (le_sl l)
end

/-! ### methods of lists that are changed -/
abbrev RM3 := W → List W → Sto → K3 → Prop
def MtL (K : PySem.W.Frag) (r3 : RM3) (r : V → List V → Hp → VK → Prop) : Prop := ∀ F S H w ws x vs Q3 Q, Rel K F S H → RepW K F w x → RepWs K F ws vs → r3 w ws S Q3 → KE K F Q3 Q → r x vs H Q
def isLst (S : Sto) (w : W) : Prop := (∃ ds, w = .lst ds) ∨ ∃ a ws, w = .r a ∧ S a = some (.lst ws)
def tBM3 (r : RM3) (to : TE3) (t : TA3) : TE3 := fun τ S Q => to τ S fun w S1 => isLst S1 w ∧ t τ S1 fun ws S2 => r w ws S2 Q
def tBM03 (r : RM3) (to : TE3) : TE3 := fun τ S Q => to τ S fun w S1 => isLst S1 w ∧ r w [] S1 Q
section
variable {X : Cx} {Ex : WX} {o e : Expr} {es : List Expr} {to : TE3} {t : TA3} {name : Str} {apos cpos : Pos} {id : String} {r3 : RM3} {r : V → List V → Hp → VK → Prop}
theorem isLst_ty {K : PySem.W.Frag} {F : Fz} {S : Sto} {H : Hp} {w : W} {v : V} (R : Rel K F S H) (rw : RepW K F w v) (h : isLst S w) : tyV K "list" v H := by
  rcases h with ⟨ds, rfl⟩ | ⟨a, ws, rfl, h⟩
  · cases (show Dp K F.f v (.list ds) from rw) with | lst h3 h4 => exact .inl ⟨rfl, _, R.same.seq h3⟩
  · obtain ⟨_, o, ho, vs, rfl, _⟩ := R.st a _ h
    cases (show v = .ref a from rw)
    exact .inl ⟨rfl, vs, .inl (.inl ho)⟩
theorem pe3_bm (slot : Slot "list" name id) (hty : typeOf (.builtin id) = pure (.type "method_descriptor")) (hm : MtR X id r) (l : MtL X.K r3 r) (ho : PE X o (LE X.K Ex to)) (ha : PA X (e :: es) (LA X.K Ex t))
    (mc : MCall X o name apos cpos e es := by exact ⟨rfl, rfl, rfl, rfl, rfl⟩) :
    PE X (.Call (.Attribute o name apos) (e :: es) [] cpos) (LE X.K Ex (tBM3 r3 to t)) :=
  pe_imp (pe_bm PySem.F.plainAttrs_list slot hty hm ho ha mc.base mc.few mc.sameRow mc.star mc.plain) fun σ H Q ⟨F, S, τ, Q3, R, Ev, h, k⟩ => ⟨F, S, τ, _, R, Ev, h, fun F1 S1 H1 w x s1 R1 r1 ⟨hl, h1⟩ =>
    ⟨isLst_ty R1 r1 hl, F1, S1, τ, _, R1, Ev.mono s1, h1, fun F2 S2 H2 ws vs s2 R2 r2 h2 => l F2 S2 H2 w ws x vs Q3 Q R2 (r1.mono s2) r2 h2 (k.mono (s1.trans s2))⟩⟩
theorem pe3_bm0 (slot : Slot "list" name id) (hty : typeOf (.builtin id) = pure (.type "method_descriptor")) (hm : MtR X id r) (l : MtL X.K r3 r) (ho : PE X o (LE X.K Ex to))
    (hbase : attributeBase o name X.env (eval o X.env) = eval o X.env := by rfl) (hline : (apos.endLine == cpos.line) = true := by rfl) : PE X (.Call (.Attribute o name apos) [] [] cpos) (LE X.K Ex (tBM03 r3 to)) :=
  pe_imp (pe_bm0 PySem.F.plainAttrs_list slot hty hm ho hbase hline) fun σ H Q ⟨F, S, τ, Q3, R, Ev, h, k⟩ => ⟨F, S, τ, _, R, Ev, h, fun F1 S1 H1 w x s1 R1 r1 ⟨hl, h1⟩ =>
    ⟨isLst_ty R1 r1 hl, l F1 S1 H1 w [] x [] Q3 Q R1 r1 .nil h1 (k.mono s1)⟩⟩
end
section
variable {K : PySem.W.Frag}
theorem wr_lst {F : Fz} {S : Sto} {H : Hp} {a : Addr} {ws us : List W} {vs : List V} (R : Rel K F S H) (h : S a = some (.lst ws)) (r : RepWs K F us vs) : Rel K F (put S a (.lst us)) (upd H a (.lst vs)) := R.write h ⟨vs, rfl, r⟩
theorem rd_lst {F : Fz} {S : Sto} {H : Hp} {a : Addr} {ws : List W} (R : Rel K F S H) (h : S a = some (.lst ws)) : ∃ vs, H a = some (.lst vs) ∧ RepWs K F ws vs := by
  obtain ⟨_, o, ho, vs, rfl, r⟩ := R.st a _ h
  exact ⟨vs, ho, r⟩
theorem rep_app {F : Fz} {ws us : List W} {vs xs : List V} (h : RepWs K F ws vs) (g : RepWs K F us xs) : RepWs K F (ws ++ us) (vs ++ xs) := by
  induction h with
  | nil => exact g
  | cons a _ ih => exact .cons a ih
def gAppend : RM3 := fun w us S Q => ∃ a ws x, w = .r a ∧ us = [x] ∧ S a = some (.lst ws) ∧ ws.length < sizeLine ∧ Q .non (put S a (.lst (ws ++ [x])))
theorem l_append : MtL K gAppend rAppend := fun F S H w us x vs Q3 Q R rw ru ⟨a, ws, y, e1, e2, h, hz, q⟩ k => by
  subst e1 e2
  obtain ⟨v, rfl, rv⟩ := ws1 ru
  obtain ⟨xs, hx, rx⟩ := rd_lst R h
  exact ⟨a, xs, v, rw, rfl, hx, by rw [← Paired.length rx]; exact hz, k F _ _ _ _ (Sm.refl F) (wr_lst R h (rep_app rx (.cons rv .nil))) mk_non q⟩
theorem rep_dropLast {F : Fz} {ws : List W} {vs : List V} (h : RepWs K F ws vs) : RepWs K F ws.dropLast vs.dropLast := by
  induction h with
  | nil => exact .nil
  | cons a t ih =>
    cases t with
    | nil => exact .nil
    | cons b s => exact .cons a ih
theorem rep_erase {F : Fz} : ∀ {ws : List W} {vs : List V} {i : Nat}, RepWs K F ws vs → RepWs K F (ws.eraseIdx i) (vs.eraseIdx i)
  | _, _, i, .nil => by simp; exact .nil
  | _, _, 0, .cons a t => t
  | _, _, i + 1, .cons a t => .cons a (rep_erase (i := i) t)
theorem rep_set {F : Fz} {w : W} {v : V} (r : RepW K F w v) : ∀ {ws : List W} {vs : List V} {i : Nat}, RepWs K F ws vs → RepWs K F (ws.set i w) (vs.set i v)
  | _, _, i, .nil => by simp; exact .nil
  | _, _, 0, .cons a t => .cons r t
  | _, _, i + 1, .cons a t => .cons a (rep_set r (i := i) t)
def gPop : RM3 := fun w us S Q => ∃ a ws x, w = .r a ∧ us = [] ∧ S a = some (.lst ws) ∧ ws[ws.length - 1]? = some x ∧ Q x (put S a (.lst ws.dropLast))
theorem l_pop : MtL K gPop rPop := fun F S H w us x vs Q3 Q R rw ru ⟨a, ws, y, e1, e2, h, hy, q⟩ k => by
  subst e1 e2
  cases ru
  obtain ⟨xs, hx, rx⟩ := rd_lst R h
  obtain ⟨v, hv, rv⟩ := rep_get rx hy
  exact ⟨a, xs, v, rw, rfl, hx, by rw [← Paired.length rx]; exact hv, k F _ _ _ _ (Sm.refl F) (wr_lst R h (rep_dropLast rx)) rv q⟩
def gPopAt : RM3 := fun w us S Q => ∃ a ws i x, w = .r a ∧ us = [.int ((i : Nat) : Int)] ∧ S a = some (.lst ws) ∧ ws[i]? = some x ∧ i < 2 ^ 62 ∧ Q x (put S a (.lst (ws.eraseIdx i)))
theorem l_popAt : MtL K gPopAt rPopAt := fun F S H w us x vs Q3 Q R rw ru ⟨a, ws, i, y, e1, e2, h, hy, hi, q⟩ k => by
  subst e1 e2
  obtain ⟨u, rfl, ri⟩ := ws1 ru
  cases rep_int ri
  obtain ⟨xs, hx, rx⟩ := rd_lst R h
  obtain ⟨v, hv, rv⟩ := rep_get rx hy
  have hlt := (List.getElem?_eq_some_iff.mp hv).1
  refine ⟨a, xs, i, i, v, rw, rfl, hx, by omega, by omega, ?_, hv, k F _ _ _ _ (Sm.refl F) (wr_lst R h (rep_erase rx)) rv q⟩
  rw [PySem.seqIndex_of (by omega) (by omega)]
  simp
def gInsert : RM3 := fun w us S Q => ∃ a ws x i, w = .r a ∧ us = [.int ((i : Nat) : Int), x] ∧ S a = some (.lst ws) ∧ i ≤ ws.length ∧ ws.length < sizeLine ∧ Q .non (put S a (.lst (ws.take i ++ x :: ws.drop i)))
/-- xs[i] = v -/
def gSet : W → W → W → Sto → (Sto → Prop) → Prop := fun w u x S Q => ∃ a ws i j, w = .r a ∧ u = .int i ∧ S a = some (.lst ws) ∧ ixN ws.length i = some j ∧ Q (put S a (.lst (ws.set j x)))
end
end H3

namespace H3
open PySem PySem.Spec L2
open PyProof.Rows hiding St

/-! ### statements -/
def tNext3 : TS3 := fun D τ S => D.nx τ S
def tSeq3 (t u : TS3) : TS3 := fun D τ S => t { D with nx := u D } τ S
def tSet3 (i : Nat) (t : TE3) : TS3 := fun D τ S => t τ S fun w S1 => D.nx (τ.set i (some w)) S1
def tDrop3 (t : TE3) : TS3 := fun D τ S => t τ S fun _ S1 => D.nx τ S1
def tRet3 (t : TE3) : TS3 := fun D τ S => t τ S D.rt
def tRetN3 : TS3 := fun D _ S => D.rt .non S
def tIf3 (c : TT3) (t u : TS3) : TS3 := fun D τ S => c τ S fun b S1 => (b = true → t D τ S1) ∧ (b = false → u D τ S1)
def tBreak3 : TS3 := fun D τ S => D.bk τ S
def tCont3 : TS3 := fun D τ S => D.ct τ S
def tNever3 : TS3 := fun _ _ _ => False
/-- nothing is done, but that the list in a slot is not changed any more -/
def tFrz3 (i : Nat) (t : TS3) : TS3 := fun D τ S => ∃ a ds, τ.sl[i]? = some (some (.r a)) ∧ S a = some (.lst (ds.map W.d)) ∧ t D (τ.set i (some (.lst ds))) (drp S a)
section
variable {X : Cx} {Ex : WX} {st : Stmt} {rest : List Stmt} {t u : TS3} {te : TE3} {e : Expr} {pos : Pos}
theorem pss3_nil : PSs X [] (LS X.K Ex tNext3) := pss_imp pss_nil fun D σ H ⟨F, S, τ, D3, R, Ev, h, k⟩ => k.nx F S H τ σ (Sm.refl F) R Ev h
theorem pss3_cons (h1 : PS X st (LS X.K Ex t)) (h2 : PSs X rest (LS X.K Ex u)) : PSs X (st :: rest) (LS X.K Ex (tSeq3 t u)) :=
  pss_imp (pss_cons h1 h2) fun D σ H ⟨F, S, τ, D3, R, Ev, h, k⟩ => ⟨F, S, τ, _, R, Ev, h, fun F1 S1 H1 τ1 σ1 s1 R1 Ev1 h1 => ⟨F1, S1, τ1, D3, R1, Ev1, h1, k.mono s1⟩, k.rt, k.bk, k.ct⟩
theorem pss3_one (h1 : PS X st (LS X.K Ex t)) : PSs X [st] (LS X.K Ex t) := pss_one h1
theorem ps3_set (i : Nat) {x : Str} {pos' : Pos} (hN : X.N.Nodup) (hi : X.N[i]? = some x := by rfl) (he : PE X e (LE X.K Ex te)) (hx : Loc X.env.scope x := by first | exact Or.inl rfl | exact Or.inr rfl) (hs : swapsWith e (some (.Name x pos')) pos.line X.env = pure false := by rfl)
    (hf : X.fn x = true ∨ X.env.scope.names.lookup x = some .local := by first | exact .inl rfl | exact .inr rfl | assumption) : PS X (.Assign [.Name x pos'] e pos) (LS X.K Ex (tSet3 i te)) :=
  ps_imp (ps_set hN hi hx he hs hf) fun D σ H ⟨F, S, τ, D3, R, Ev, h, k⟩ => ⟨F, S, τ, _, R, Ev, h, fun F1 S1 H1 w v s1 R1 r1 h1 => k.nx F1 S1 H1 _ _ s1 R1 ((Ev.mono s1).set r1) h1⟩
theorem ps3_expr (he : PE X e (LE X.K Ex te)) (hs : swapsWith e none pos.line X.env = pure false := by rfl) : PS X (.Expr e pos) (LS X.K Ex (tDrop3 te)) :=
  ps_imp (ps_expr he hs) fun D σ H ⟨F, S, τ, D3, R, Ev, h, k⟩ => ⟨F, S, τ, _, R, Ev, h, fun F1 S1 H1 w v s1 R1 r1 h1 => k.nx F1 S1 H1 _ _ s1 R1 (Ev.mono s1) h1⟩
theorem ps3_ret (he : PE X e (LE X.K Ex te)) : PS X (.Return (some e) pos) (LS X.K Ex (tRet3 te)) :=
  ps_imp (ps_ret he) fun D σ H ⟨F, S, τ, D3, R, Ev, h, k⟩ => ⟨F, S, τ, _, R, Ev, h, k.rt⟩
theorem ps3_retN : PS X (.Return none pos) (LS X.K Ex tRetN3) := ps_imp ps_retN fun D σ H ⟨F, S, τ, D3, R, Ev, h, k⟩ => k.rt F S H _ _ (Sm.refl F) R mk_non h
theorem ps3_if {c : Expr} {a b : List Stmt} {tc : TT3} (hc : PT X c (LT X.K Ex tc)) (ha : PSs X a (LS X.K Ex t)) (hb : PSs X b (LS X.K Ex u)) : PS X (.If c a b pos) (LS X.K Ex (tIf3 tc t u)) :=
  ps_imp (ps_if hc ha hb) fun D σ H ⟨F, S, τ, D3, R, Ev, h, k⟩ => ⟨F, S, τ, _, R, Ev, h, fun F1 S1 H1 b s1 R1 ⟨h1, h2⟩ => by
    cases b with
    | true => exact iteT ⟨F1, S1, τ, D3, R1, Ev.mono s1, h1 rfl, k.mono s1⟩
    | false => exact iteF ⟨F1, S1, τ, D3, R1, Ev.mono s1, h2 rfl, k.mono s1⟩⟩
theorem ps3_pass : PS X (.Pass pos) (LS X.K Ex tNext3) := ps_imp ps_pass fun D σ H ⟨F, S, τ, D3, R, Ev, h, k⟩ => k.nx F S H τ σ (Sm.refl F) R Ev h
theorem ps3_break : PS X (.Break pos) (LS X.K Ex tBreak3) := ps_imp ps_break fun D σ H ⟨F, S, τ, D3, R, Ev, h, k⟩ => k.bk F S H τ σ (Sm.refl F) R Ev h
theorem ps3_cont : PS X (.Continue pos) (LS X.K Ex tCont3) := ps_imp ps_continue fun D σ H ⟨F, S, τ, D3, R, Ev, h, k⟩ => k.ct F S H τ σ (Sm.refl F) R Ev h
theorem ps3_never : PS X st (LS X.K Ex tNever3) := ps_imp ps_never fun D σ H ⟨F, S, τ, D3, R, Ev, h, k⟩ => h
theorem pss3_frz (i : Nat) {sts : List Stmt} (h : PSs X sts (LS X.K Ex t)) : PSs X sts (LS X.K Ex (tFrz3 i t)) :=
  pss_imp h fun D σ H ⟨F, S, τ, D3, R, Ev, ⟨a, ds, hi, hS, h⟩, k⟩ => by
    obtain ⟨F', s, R', r⟩ := R.freeze hS
    obtain ⟨v, hv, rv⟩ := Ev.sl.2 i _ hi
    cases (show v = .ref a from rv)
    have e := (Ev.mono s).set (i := i) r
    have z : σ.set i (some (V.ref a)) = σ := by
      apply List.ext_getElem?
      intro j
      by_cases hj : i = j
      · subst hj
        rw [List.getElem?_set_self (List.getElem?_eq_some_iff.mp hv).1, hv]
      · rw [List.getElem?_set_ne hj]
    rw [z] at e
    exact ⟨F', drp S a, _, D3, R', e, h, k.mono s⟩

/-! ### targets -/
abbrev TG3 := W → S3 → Sto → (S3 → Sto → Prop) → Prop
abbrev TGs3 := List W → S3 → Sto → (S3 → Sto → Prop) → Prop
def LG (K : PySem.W.Frag) (E : WX) (g : TG3) : TG := fun v σ H Q => ∃ F S τ w Q3, Rel K F S H ∧ EnvR K F E τ σ ∧ RepW K F w v ∧ g w τ S Q3 ∧ KS K F E Q3 Q
def LGs (K : PySem.W.Frag) (E : WX) (g : TGs3) : TGs := fun vs σ H Q => ∃ F S τ ws Q3, Rel K F S H ∧ EnvR K F E τ σ ∧ RepWs K F ws vs ∧ g ws τ S Q3 ∧ KS K F E Q3 Q
theorem pg_imp {e : Expr} {t u : TG} (h : PG X e t) (i : ∀ v σ H Q, u v σ H Q → t v σ H Q) : PG X e u := ⟨fun pins s σ H v uu Q I r q => h.run pins s σ H v uu Q I r (i _ _ _ _ q)⟩
theorem pgs_imp {e : List Expr} {t u : TGs} (h : PGs X e t) (i : ∀ v σ H Q, u v σ H Q → t v σ H Q) : PGs X e u := ⟨fun pins s σ H v uu Q I r q => h.run pins s σ H v uu Q I r (i _ _ _ _ q)⟩
def gName3 (i : Nat) : TG3 := fun w τ S Q => Q (τ.set i (some w)) S
theorem pg3_name (i : Nat) {x : Str} (hN : X.N.Nodup) (hi : X.N[i]? = some x := by rfl) (hx : Loc X.env.scope x := by first | exact Or.inl rfl | exact Or.inr rfl) (hf : X.fn x = true ∨ X.env.scope.names.lookup x = some .local := by first | exact .inl rfl | exact .inr rfl | assumption) : PG X (.Name x pos) (LG X.K Ex (gName3 i)) :=
  pg_imp (pg_name hN hi hx hf) fun v σ H Q ⟨F, S, τ, w, Q3, R, Ev, r, h, k⟩ => k F S H _ _ (Sm.refl F) R (Ev.set r) h
def gNil3 : TGs3 := fun ws τ S Q => ws = [] ∧ Q τ S
def gCons3 (t : TG3) (u : TGs3) : TGs3 := fun ws τ S Q => ∃ w r, ws = w :: r ∧ t w τ S fun τ' S' => u r τ' S' Q
theorem pgs3_nil : PGs X [] (LGs X.K Ex gNil3) := pgs_imp pgs_nil fun vs σ H Q ⟨F, S, τ, ws, Q3, R, Ev, r, ⟨e, h⟩, k⟩ => by
  subst e
  cases r
  exact ⟨rfl, k F S H _ _ (Sm.refl F) R Ev h⟩
theorem pgs3_cons {es : List Expr} {g : TG3} {gs : TGs3} (h1 : PG X e (LG X.K Ex g)) (h2 : PGs X es (LGs X.K Ex gs)) (hs : (assignEach (e :: es) X.env).map (·.2) = assign e X.env :: (assignEach es X.env).map (·.2) := by rfl) : PGs X (e :: es) (LGs X.K Ex (gCons3 g gs)) := pgs_imp (pgs_cons h1 h2 hs) fun vs σ H Q ⟨F, S, τ, ws, Q3, R, Ev, r, ⟨w, us, e, h⟩, k⟩ => by
  subst e
  cases r with
  | cons a t => exact ⟨_, _, rfl, F, S, τ, w, _, R, Ev, a, h, fun F1 S1 H1 τ1 σ1 s1 R1 Ev1 h1 => ⟨F1, S1, τ1, us, Q3, R1, Ev1, RepWs.mono s1 t, h1, k.mono s1⟩⟩
/-- a tuple of targets for a tuple of data -/
def gTup3 (n : Nat) (gs : TGs3) : TG3 := fun w τ S Q => ∃ ds, w = .tup ds ∧ ds.length = n ∧ gs (ds.map W.d) τ S Q
theorem pg3_tup {es : List Expr} {kk n : Nat} {gs : TGs3} (hc : X.calm = true) (h : PGs X es (LGs X.K Ex gs)) (hn : (assignEach es X.env).length = n := by rfl) (hst : (assignEach es X.env).findIdx? (·.1) = none := by rfl) : PG X (.Tuple es kk pos) (LG X.K Ex (gTup3 n gs)) :=
  pg_imp (pg_tup hc h hn hst) fun v σ H Q ⟨F, S, τ, w, Q3, R, Ev, r, ⟨ds, e, hl, h⟩, k⟩ => by
    subst e
    obtain ⟨_, a, vs, rfl, hs, ha⟩ := tup_rep R r rfl
    exact ⟨a, vs, rfl, hs, by rw [dpAll_len ha]; exact hl, F, S, τ, _, Q3, R, Ev, repWs_of_all ha, h, k⟩
/-- o[i] = v -/
def gSub3 (to ti : TE3) (t : W → W → W → Sto → (Sto → Prop) → Prop) : TG3 := fun v τ S Q => to τ S fun o S1 => ti τ S1 fun i S2 => t o i v S2 fun S3 => Q τ S3
def gSetL : W → W → W → Sto → (Sto → Prop) → Prop := fun w u x S Q => ∃ a ws i j, w = .r a ∧ u = .int i ∧ S a = some (.lst ws) ∧ ixN ws.length i = some j ∧ Q (put S a (.lst (ws.set j x)))
/-- what a target o[i] does, as the text has it -/
def SubTo (X : Cx) (o i : Expr) (pos : Pos) : Prop := ∀ v, assign (.Subscript o i pos) X.env v = (do let a ← holding [v] (eval o X.env); let b ← holding [v, a] (eval i X.env); standAt pos; holding [v, a, b] (setItem a b v); release [v, a, b] [])
theorem pg3_sub {o i : Expr} {to ti : TE3} (ho : PE X o (LE X.K Ex to)) (hi : PE X i (LE X.K Ex ti)) (ha : SubTo X o i pos := by intro _; rfl) : PG X (.Subscript o i pos) (LG X.K Ex (gSub3 to ti gSetL)) :=
  pg_imp (pg_sub ho hi set_list ha) fun v σ H Q ⟨F, S, τ, w, Q3, R, Ev, r, h, k⟩ => ⟨F, S, τ, _, R, Ev, h, fun F1 S1 H1 ow ov s1 R1 r1 h1 => ⟨F1, S1, τ, _, R1, Ev.mono s1, h1, fun F2 S2 H2 iw iv s2 R2 r2 ⟨a, ws, n, j, e1, e2, hS, hj, h2⟩ => by
    subst e1 e2
    obtain ⟨xs, hx, rx⟩ := rd_lst R2 hS
    exact ⟨a, xs, n, j, r1, rep_int r2, hx, by rw [← Paired.length rx]; exact hj, k _ _ _ _ _ (s1.trans s2) (wr_lst R2 hS (rep_set (r.mono (s1.trans s2)) rx)) (Ev.mono (s1.trans s2)) h2⟩⟩⟩
def tAsg3 (te : TE3) (g : TG3) : TS3 := fun D τ S => te τ S fun w S1 => g w τ S1 D.nx
theorem ps3_asg {tg : Expr} {g : TG3} (he : PE X e (LE X.K Ex te)) (hg : PG X tg (LG X.K Ex g)) (hs : swapsWithSole [tg] e pos.line X.env = pure false := by rfl) (hw : swappedStores [tg] e X.env = pure none := by rfl)
    (h1 : (assignEach [tg] X.env).map (·.2) = [assign tg X.env] := by rfl) : PS X (.Assign [tg] e pos) (LS X.K Ex (tAsg3 te g)) :=
  ps_imp (ps_asg he hg hs hw h1) fun D σ H ⟨F, S, τ, D3, R, Ev, h, k⟩ => ⟨F, S, τ, _, R, Ev, h, fun F1 S1 H1 w v s1 R1 r1 h1 => ⟨F1, S1, τ, w, _, R1, Ev.mono s1, r1, h1, k.nx.mono s1⟩⟩
/-- a, b, .. = x, y, ..: names and values that are written -/
def tUnp3 (ta : TA3) (gs : TGs3) : TS3 := fun D τ S => ta τ S fun ws S1 => ws.length ≤ 1000 ∧ gs ws τ S1 D.nx
theorem ps3_unp {es ts : List Expr} {ta : TA3} {gs : TGs3} {x1 kk n : Nat} {p1 p2 : Pos} (hc : X.calm = true) (ha : PA X es (LA X.K Ex ta)) (hg : PGs X ts (LGs X.K Ex gs)) (hl : ∀ ws τ S Q, gs ws τ S Q → ws.length = n) (hn : (assignEach ts X.env).length = n := by rfl)
    (hst : (assignEach ts X.env).findIdx? (·.1) = none := by rfl) (hs : swapsWithSole [.Tuple ts kk p1] (.Tuple es x1 p2) pos.line X.env = pure false := by rfl) (hw : swappedStores [.Tuple ts kk p1] (.Tuple es x1 p2) X.env = pure none := by rfl)
    (h1 : (assignEach [.Tuple ts kk p1] X.env).map (·.2) = [assign (.Tuple ts kk p1) X.env] := by rfl) : PS X (.Assign [.Tuple ts kk p1] (.Tuple es x1 p2) pos) (LS X.K Ex (tUnp3 ta gs)) :=
  ps_imp (ps_asg (pe_tup ha) (pg_tup hc hg hn hst) hs hw h1) fun D σ H ⟨F, S, τ, D3, R, Ev, h, k⟩ => ⟨F, S, τ, _, R, Ev, h, fun F1 S1 H1 ws vs s1 R1 r1 ⟨hz, h1⟩ => by
    refine ⟨by rw [← Paired.length r1]; exact le1000 hz, fun p hp => ?_⟩
    have s2 := sm_new (p := p) (o := HO.tup vs) (R1.freeF hp)
    exact ⟨p, vs, rfl, SqT.of upd_same, by rw [← Paired.length r1]; exact hl _ _ _ _ h1, F1.new p (.tup vs), S1, τ, ws, _, R1.newF hp, Ev.mono (s1.trans s2), RepWs.mono s2 r1, h1, k.nx.mono (s1.trans s2)⟩⟩
/-- a, b = x, y: plain local names -/
def tPar3 (i j : Nat) (ta : TA3) : TS3 := fun D τ S => ta τ S fun ws S1 => ∃ v w, ws = [v, w] ∧ D.nx ((τ.set i (some v)).set j (some w)) S1
theorem ps3_par (i j : Nat) {x y : Str} {a b : Expr} {ta : TA3} {px py pt : Pos} {kt k2 pt2} (hc : X.calm = true) (hN : X.N.Nodup) (ha : PA X [a, b] (LA X.K Ex ta)) (hi : X.N[i]? = some x := by rfl) (hj : X.N[j]? = some y := by rfl) (hij : i ≠ j := by decide)
    (hx : X.env.scope.names.lookup x = some .local := by rfl) (hy : X.env.scope.names.lookup y = some .local := by rfl)
    (hw : swappedStores [.Tuple [.Name x px, .Name y py] kt pt] (.Tuple [a, b] k2 pt2) X.env = pure (some [x, y]) := by rfl) (hs : swapsWithSole [.Tuple [.Name x px, .Name y py] kt pt] (.Tuple [a, b] k2 pt2) pos.line X.env = pure false := by rfl) :
    PS X (.Assign [.Tuple [.Name x px, .Name y py] kt pt] (.Tuple [a, b] k2 pt2) pos) (LS X.K Ex (tPar3 i j ta)) :=
  ps_imp (ps_par hc hN hi hj hij hx hy ha hw hs) fun D σ H ⟨F, S, τ, D3, R, Ev, h, k⟩ => ⟨F, S, τ, _, R, Ev, h, fun F1 S1 H1 ws vs s1 R1 r1 ⟨v, w, e, h1⟩ => by
    subst e
    obtain ⟨v', w', rfl, rv, rw⟩ := ws2 r1
    exact ⟨v', w', rfl, k.nx F1 S1 H1 _ _ s1 R1 (((Ev.mono s1).set rv).set rw) h1⟩⟩

/-! ### while -/
def tWhile3 (c : TT3) (tb : TS3) : TS3 := fun D τ S => ∃ Wi : Nat → S3 → Sto → Prop, (∃ m, Wi m τ S) ∧ ∀ m τ S, Wi m τ S →
  c τ S fun b S1 => (b = true → ∃ N : S3 → Sto → Prop, (∀ τ' S', N τ' S' → ∃ m', m' < m ∧ Wi m' τ' S') ∧ tb { D with nx := N, ct := N, bk := D.nx } τ S1) ∧ (b = false → D.nx τ S1)
theorem ps3_while {c : Expr} {body : List Stmt} {tc : TT3} {tb : TS3} (hp : PassesOwn (model X.prog X.w) X.A X.env X.xe) (hc : PT X c (LT X.K Ex tc)) (hb : PSs X body (LS X.K Ex tb)) : PS X (.While c body [] pos) (LS X.K Ex (tWhile3 tc tb)) :=
  ps_imp (ps_while hp hc hb) fun D σ H ⟨F, S, τ, D3, R, Ev, ⟨Wi, ⟨m0, w0⟩, turn⟩, k⟩ => by
    refine ⟨fun m σ' H' => ∃ F' S' τ', Sm F F' ∧ Rel X.K F' S' H' ∧ EnvR X.K F' Ex τ' σ' ∧ Wi m τ' S', ⟨m0, F, S, τ, Sm.refl F, R, Ev, w0⟩, ?_⟩
    rintro m σ' H' ⟨F1, S1, τ1, s1, R1, Ev1, w1⟩
    refine ⟨F1, S1, τ1, _, R1, Ev1, turn m τ1 S1 w1, fun F2 S2 H2 b s2 R2 ⟨h1, h2⟩ => ?_⟩
    have s := s1.trans s2
    cases b with
    | true =>
      obtain ⟨N, hN, hb⟩ := h1 rfl
      refine iteT ⟨fun σ3 H3 => ∃ F3 S3 τ3, Sm F F3 ∧ Rel X.K F3 S3 H3 ∧ EnvR X.K F3 Ex τ3 σ3 ∧ N τ3 S3, ?_, F2, S2, τ1, _, R2, Ev1.mono s2, hb, ⟨?_, ?_, ?_, ?_⟩⟩
      · rintro σ3 H3 ⟨F3, S3, τ3, s3, R3, Ev3, n3⟩
        obtain ⟨m', hm, w3⟩ := hN τ3 S3 n3
        exact ⟨m', hm, F3, S3, τ3, s3, R3, Ev3, w3⟩
      · exact fun F3 S3 H3 τ3 σ3 s3 R3 Ev3 n3 => ⟨F3, S3, τ3, s.trans s3, R3, Ev3, n3⟩
      · exact k.rt.mono s
      · exact k.nx.mono s
      · exact fun F3 S3 H3 τ3 σ3 s3 R3 Ev3 n3 => ⟨F3, S3, τ3, s.trans s3, R3, Ev3, n3⟩
    | false => exact iteF (k.nx F2 S2 H2 _ _ s R2 (Ev1.mono s2) (h2 rfl))

/-! ### what is walked -/
theorem RepW.mono1 {K : PySem.W.Frag} {F F' : Fz} (e : Same F.f F'.f) {w : W} {v : V} (h : RepW K F w v) : RepW K F' w v := by
  cases w with
  | d x => exact dp_mono e h
  | r a => exact h
  | ty n => exact h
abbrev TI3 := S3 → Sto → (List W → Sto → Prop) → Prop
/-- the iterator gives just these values, whatever stays -/
structure YL (K : PySem.W.Frag) (F : Fz) (J : It) (ws : List W) : Prop where
  go : ∀ i H F' S', Same F.f F'.f → Rel K F' S' H → i < ws.length → J.go i H
  stop : ∀ i H F' S', Same F.f F'.f → Rel K F' S' H → ws.length ≤ i → J.stop i H
  yld : ∀ i H F' S' x H', Same F.f F'.f → Rel K F' S' H → i < ws.length → J.yld i H x H' → ∃ F2 w, ws[i]? = some w ∧ Sm F' F2 ∧ Rel K F2 S' H' ∧ RepW K F2 w x
def LI (K : PySem.W.Frag) (E : WX) (t : TI3) : TI := fun σ H R => ∃ F S τ Q3, Rel K F S H ∧ EnvR K F E τ σ ∧ t τ S Q3 ∧ ∀ F' S' H' ws J, Sm F F' → Rel K F' S' H' → YL K F' J ws → Q3 ws S' → R J H'
theorem pi_imp {tg it : Expr} {t u : TI} (h : PI X tg it t) (i : ∀ σ H R, u σ H R → t σ H R) : PI X tg it u := ⟨fun pins s σ H R I q => h.run pins s σ H R I (i _ _ _ q)⟩
/-- a list or a tuple -/
def tSeqI3 (te : TE3) : TI3 := fun τ S Q => te τ S fun w S1 => ∃ ds, (w = .lst ds ∨ w = .tup ds) ∧ Q (ds.map W.d) S1
def iSeq (K : PySem.W.Frag) (tl : TE) : TI := fun σ H R => tl σ H fun x H1 => ∃ a, x = .ref a ∧ (((∃ xs, SqL K H1 a xs) ∧ R (Itl K a) H1) ∨ ((∃ xs, SqT K H1 a xs) ∧ R (Itt K a) H1))
theorem pi_seq {tg l : Expr} {tl : TE} (hl : PE X l tl) : PI X tg l (iSeq X.K tl) := by
  constructor
  intro pins st σ H R I h
  refine thn (hl.run pins st σ H _ I h) ?_
  rintro v s1 ⟨x, H1, J, r1, a, e, q⟩
  subst e
  cases r1
  have fresh : ∀ b ∈ [s1.heap.objs.size], _ := fun b hb => by
    cases List.mem_singleton.mp hb
    have top := J.hok.fresh (Nat.le_refl s1.heap.objs.size)
    exact J.fpOk (Nat.le_refl _) top
  have up : ∀ (ob : Obj) b o, s1.heap.get? b = some o → (s1.heap.push ob).get? b = some o := fun ob b o e => Heap.get?_push_of_some _ e
  rcases q with ⟨⟨xs, hq⟩, q⟩ | ⟨⟨xs, hq⟩, q⟩
  · obtain ⟨its, _, p, _⟩ := J.list hq
    apply wpAny_pyIter_list p.isList
    exact ⟨_, [s1.heap.objs.size], _, _, H1, rfl, J.kept (t' := s1.toks) (up _), turn_list a _, ⟨_, Heap.get?_push_size _ rfl, rfl, rfl⟩, fresh, q⟩
  · obtain ⟨its, _, p, _⟩ := J.tuple hq
    apply wpAny_pyIter_tuple (show s1.heap.IsTuple a its.toArray from p)
    exact ⟨_, [s1.heap.objs.size], _, _, H1, rfl, J.kept (t' := s1.toks) (up _), turn_tuple a _, ⟨_, Heap.get?_push_size _ rfl, rfl, rfl⟩, fresh, q⟩
theorem yl_lst {K : PySem.W.Frag} {F : Fz} {a : Addr} {vs : List V} {ds : List PyData} (h : SqL K F.f a vs) (ha : DpAll K F.f vs ds) : YL K F (Itl K a) (ds.map W.d) := by
  have hl := dpAll_len ha
  have sq : ∀ {H F' S'}, Same F.f F'.f → Rel K F' S' H → SqL K H a vs := fun s R => R.same.seq (s.seq h)
  refine ⟨fun i H F' S' s R hi => ?_, fun i H F' S' s R hi => ⟨vs, sq s R, by rw [List.length_map] at hi; omega⟩, fun i H F' S' x H' s R hi ⟨e, y⟩ => ?_⟩
  · rw [List.length_map] at hi
    exact ⟨vs, vs[i]'(by omega), sq s R, List.getElem?_eq_getElem (by omega)⟩
  · subst e
    have hx := y vs (sq s R)
    obtain ⟨d, hd⟩ : ∃ d, (ds.map W.d)[i]? = some d := ⟨_, List.getElem?_eq_getElem hi⟩
    obtain ⟨v, hv, rv⟩ := rep_get (repWs_of_all ha) hd
    rw [hx] at hv
    cases hv
    exact ⟨F', d, hd, Sm.refl _, R, rv.mono1 s⟩
theorem yl_tup {K : PySem.W.Frag} {F : Fz} {a : Addr} {vs : List V} {ds : List PyData} (h : SqT K F.f a vs) (ha : DpAll K F.f vs ds) : YL K F (Itt K a) (ds.map W.d) := by
  have hl := dpAll_len ha
  have sq : ∀ {H F' S'}, Same F.f F'.f → Rel K F' S' H → SqT K H a vs := fun s R => sqt_mono R.same (sqt_mono s h)
  refine ⟨fun i H F' S' s R hi => ?_, fun i H F' S' s R hi => ⟨vs, sq s R, by rw [List.length_map] at hi; omega⟩, fun i H F' S' x H' s R hi ⟨e, y⟩ => ?_⟩
  · rw [List.length_map] at hi
    exact ⟨vs, vs[i]'(by omega), sq s R, List.getElem?_eq_getElem (by omega)⟩
  · subst e
    have hx := y vs (sq s R)
    obtain ⟨d, hd⟩ : ∃ d, (ds.map W.d)[i]? = some d := ⟨_, List.getElem?_eq_getElem hi⟩
    obtain ⟨v, hv, rv⟩ := rep_get (repWs_of_all ha) hd
    rw [hx] at hv
    cases hv
    exact ⟨F', d, hd, Sm.refl _, R, rv.mono1 s⟩
theorem pi3_seq {tg l : Expr} (hl : PE X l (LE X.K Ex te)) : PI X tg l (LI X.K Ex (tSeqI3 te)) :=
  pi_imp (pi_seq hl) fun σ H R ⟨F, S, τ, Q3, Rl, Ev, h, k⟩ => ⟨F, S, τ, _, Rl, Ev, h, fun F1 S1 H1 w x s1 R1 r1 ⟨ds, e, q⟩ => by
    rcases e with e | e <;> subst e
    · cases (show Dp X.K F1.f x (.list ds) from r1) with
      | lst h1 h2 => exact ⟨_, rfl, .inl ⟨⟨_, R1.same.seq h1⟩, k F1 S1 H1 _ _ s1 R1 (yl_lst h1 h2) q⟩⟩
    · cases (show Dp X.K F1.f x (.tuple ds) from r1) with
      | tup h1 h2 => exact ⟨_, rfl, .inr ⟨⟨_, sqt_mono R1.same h1.sqt⟩, k F1 S1 H1 _ _ s1 R1 (yl_tup h1.sqt h2) q⟩⟩⟩
/-- range -/
def rgW (lo : Int) (n : Nat) : List W := (List.range n).map fun i => .int (lo + (i : Nat))
theorem rgW_len {lo : Int} {n : Nat} : (rgW lo n).length = n := by simp [rgW]
theorem rgW_get {lo : Int} {n i : Nat} (h : i < n) : (rgW lo n)[i]? = some (.int (lo + (i : Nat))) := by
  unfold rgW
  rw [List.getElem?_map, List.getElem?_range h]
  rfl
theorem yl_rg {K : PySem.W.Frag} {F : Fz} {lo : Int} {n : Nat} : YL K F (Itr lo n) (rgW lo n) := by
  refine ⟨fun i H F' S' s R hi => ?_, fun i H F' S' s R hi => ?_, fun i H F' S' x H' s R hi ⟨e, y⟩ => ?_⟩
  · rw [rgW_len] at hi; exact hi
  · rw [rgW_len] at hi; exact hi
  · subst e y
    rw [rgW_len] at hi
    exact ⟨F', _, rgW_get hi, Sm.refl _, R, mk_int⟩
def tRgI1 (ta : TA3) : TI3 := fun τ S Q => ta τ S fun ws S1 => ∃ j : Int, ws = [.int j] ∧ (-(2 ^ 62) ≤ j ∧ j < 2 ^ 62) ∧ Q (rgW 0 j.toNat) S1
def tRgI2 (ta : TA3) : TI3 := fun τ S Q => ta τ S fun ws S1 => ∃ i j : Int, ws = [.int i, .int j] ∧ (-(2 ^ 62) ≤ i ∧ i < 2 ^ 62 ∧ -(2 ^ 62) ≤ j ∧ j < 2 ^ 62) ∧ Q (rgW i (j - i).toNat) S1
theorem pi3_range1 {tg a : Expr} {ta : TA3} {p : Pos} (hg : Gl X "range") (hm : X.mg "range" = none) (ha : PA X [a] (LA X.K Ex ta)) (hs : starEach [a] X.env = [(false, eval a X.env)] := by rfl) : PI X tg (.Call (.Name "range" p) [a] [] pos) (LI X.K Ex (tRgI1 ta)) :=
  pi_imp (pi_range1 hg hm ha hs) fun σ H R ⟨F, S, τ, Q3, Rl, Ev, h, k⟩ => ⟨F, S, τ, _, Rl, Ev, h, fun F1 S1 H1 ws vs s1 R1 r1 ⟨j, e, b, q⟩ => by
    subst e
    obtain ⟨v, rfl, rv⟩ := ws1 r1
    exact ⟨j, by rw [rep_int rv], b.1, b.2, k F1 S1 H1 _ _ s1 R1 yl_rg q⟩⟩
theorem pi3_range2 {tg a b : Expr} {ta : TA3} {p : Pos} (hg : Gl X "range") (hm : X.mg "range" = none) (ha : PA X [a, b] (LA X.K Ex ta)) (hs : starEach [a, b] X.env = [(false, eval a X.env), (false, eval b X.env)] := by rfl) (hs2 : starEach [b] X.env = [(false, eval b X.env)] := by rfl) :
    PI X tg (.Call (.Name "range" p) [a, b] [] pos) (LI X.K Ex (tRgI2 ta)) :=
  pi_imp (pi_range2 hg hm ha hs hs2) fun σ H R ⟨F, S, τ, Q3, Rl, Ev, h, k⟩ => ⟨F, S, τ, _, Rl, Ev, h, fun F1 S1 H1 ws vs s1 R1 r1 ⟨i, j, e, b, q⟩ => by
    subst e
    obtain ⟨v, y, rfl, rv, ry⟩ := ws2 r1
    exact ⟨i, j, by rw [rep_int rv, rep_int ry], b, k F1 S1 H1 _ _ s1 R1 yl_rg q⟩⟩

/-! ### for -/
def forGo (g : TG3) (tb : TS3) (D : Ends3) : List W → S3 → Sto → Prop
  | [], τ, S => D.nx τ S
  | w :: ws, τ, S => ∃ N : S3 → Sto → Prop, (∀ τ' S', N τ' S' → forGo g tb D ws τ' S') ∧ g w τ S fun τ2 S2 => tb { D with nx := N, ct := N, bk := D.nx } τ2 S2
def tFor3 (s : TI3) (g : TG3) (tb : TS3) : TS3 := fun D τ S => s τ S fun ws S1 => forGo g tb D ws τ S1
theorem ps3_for {tg iter : Expr} {body : List Stmt} {wi : TI3} {g : TG3} {tb : TS3} (hp : PassesOwn (model X.prog X.w) X.A X.env X.xe) (hc : X.calm = true) (hi : PI X tg iter (LI X.K Ex wi)) (hg : PG X tg (LG X.K Ex g)) (hb : PSs X body (LS X.K Ex tb))
    (hs : ∀ x, foldedSetIterable iter X.env x = pure x := by intro _; rfl) : PS X (.For tg iter body [] pos) (LS X.K Ex (tFor3 wi g tb)) :=
  ps_imp (ps_for hp hc hi hg hb hs) fun D σ H ⟨F, S, τ, D3, R, Ev, h, k⟩ => ⟨F, S, τ, _, R, Ev, h, fun F1 S1 H1 ws J s1 R1 yl h1 => by
    refine ⟨fun i m σ' H' => ∃ F' S' τ', Sm F1 F' ∧ Rel X.K F' S' H' ∧ EnvR X.K F' Ex τ' σ' ∧ m = ws.length - i ∧ i ≤ ws.length ∧ forGo g tb D3 (ws.drop i) τ' S', ⟨ws.length, F1, S1, τ, Sm.refl F1, R1, Ev.mono s1, rfl, Nat.zero_le _, h1⟩, ?_⟩
    rintro i m σ' H' ⟨F2, S2, τ2, s2, R2, Ev2, rfl, hi, h2⟩
    by_cases hlt : i < ws.length
    · rw [List.drop_eq_getElem_cons hlt] at h2
      obtain ⟨N, hN, h2⟩ := h2
      refine .inr ⟨yl.go i H' F2 S2 s2.f R2 hlt, fun σ3 H3 => ∃ F3 S3 τ3, Sm F1 F3 ∧ Rel X.K F3 S3 H3 ∧ EnvR X.K F3 Ex τ3 σ3 ∧ N τ3 S3, ?_, fun x H3 hy => ?_⟩
      · rintro σ3 H3 ⟨F3, S3, τ3, s3, R3, Ev3, n3⟩
        exact ⟨ws.length - (i + 1), by omega, F3, S3, τ3, s3, R3, Ev3, rfl, hlt, hN τ3 S3 n3⟩
      · obtain ⟨F3, w, hw, s3, R3, r3⟩ := yl.yld i H' F2 S2 x H3 s2.f R2 hlt hy
        rw [List.getElem?_eq_getElem hlt] at hw
        cases hw
        refine ⟨F3, S2, τ2, _, _, R3, Ev2.mono s3, r3, h2, fun F4 S4 H4 τ4 σ4 s4 R4 Ev4 h4 => ?_⟩
        have s := s2.trans (s3.trans s4)
        refine ⟨F4, S4, τ4, _, R4, Ev4, h4, ⟨?_, k.rt.mono (s1.trans s), k.nx.mono (s1.trans s), ?_⟩⟩
        · exact fun F5 S5 H5 τ5 σ5 s5 R5 Ev5 n5 => ⟨F5, S5, τ5, s.trans s5, R5, Ev5, n5⟩
        · exact fun F5 S5 H5 τ5 σ5 s5 R5 Ev5 n5 => ⟨F5, S5, τ5, s.trans s5, R5, Ev5, n5⟩
    · have e : i = ws.length := by omega
      subst e
      rw [List.drop_length] at h2
      exact .inl ⟨yl.stop _ H' F2 S2 s2.f R2 (Nat.le_refl _), k.nx F2 S2 H' _ _ (s1.trans s2) R2 Ev2 h2⟩⟩
end
end H3

namespace H3
open PySem PySem.Spec L2
open PyProof.Rows hiding St

/-! ### list comprehensions -/
abbrev XN : XS := fun _ _ _ _ => False
abbrev EN : WX := fun _ _ _ _ => False
def lcGo (g : TG3) (tt : TT3) (te : TE3) (τ0 : S3) : List W → List W → Sto → (List W → Sto → Prop) → Prop
  | [], acc, S, Q => Q acc S
  | w :: ws, acc, S, Q => g w τ0 S fun τ2 S2 => tt τ2 S2 fun b S3 => (b = true → te τ2 S3 fun y S4 => lcGo g tt te τ0 ws (acc ++ [y]) S4 Q) ∧ (b = false → lcGo g tt te τ0 ws acc S3 Q)
/-- its list is data -/
def tLcD3 (s : TI3) (g : TG3) (tt : TT3) (te : TE3) (vs : List Nat) : TE3 := fun τ S Q => s τ S fun ws S1 => ws.length ≤ 1000000 ∧ lcGo g tt te ⟨wipe3 τ.sl vs, XN⟩ ws [] S1 fun us S2 => ∃ ds : List PyData, us = ds.map W.d ∧ Q (.lst ds) S2
/-- its list may be changed -/
def tLcM3 (s : TI3) (g : TG3) (tt : TT3) (te : TE3) (vs : List Nat) : TE3 := fun τ S Q => s τ S fun ws S1 => ws.length ≤ 1000000 ∧ lcGo g tt te ⟨wipe3 τ.sl vs, XN⟩ ws [] S1 fun us S2 => ∀ p, S2 p = none → Q (.r p) (put S2 p (.lst us))
theorem sl_wipe {K : PySem.W.Frag} {F : Fz} {τ : Sl} {σ : St} (h : SlE K F τ σ) : ∀ vs : List Nat, SlE K F (wipe3 τ vs) (wipe σ vs)
  | [] => h
  | v :: vs => (sl_wipe h vs).unset
theorem repW_g {K : PySem.W.Frag} {F : Fz} {g : Hp} {w : W} {v : V} (h : RepW K F w v) : RepW K ⟨g, F.f⟩ w v := h.mono1 (fun _ _ e => e)
theorem sle_g {K : PySem.W.Frag} {F F' : Fz} (e : Same F.f F'.f) {τ : Sl} {σ : St} (h : SlE K F τ σ) : SlE K F' τ σ := ⟨h.1, fun i w q => let ⟨v, a, b⟩ := h.2 i w q; ⟨v, a, b.mono1 e⟩⟩
theorem repO_g {K : PySem.W.Frag} {F : Fz} {g : Hp} {p : SO} {o : HO} (h : RepO K F p o) : RepO K ⟨g, F.f⟩ p o := by
  cases p with
  | lst ws => obtain ⟨vs, e, r⟩ := h; exact ⟨vs, e, Paired.mapP r fun _ _ z => repW_g z⟩
  | ins C fs => obtain ⟨dx, gs, e, r⟩ := h; exact ⟨dx, gs, e, Paired.mapP r fun _ _ z => ⟨z.1, repW_g z.2⟩⟩
  | tb => exact h
section
variable {K : PySem.W.Frag} {F : Fz} {S : Sto} {H : Hp}
theorem Rel.rehide (R : Rel K F S H) {p : Addr} {o o' : HO} (h : F.g p = some o) : Rel K ⟨upd F.g p o', F.f⟩ S (upd H p o') := by
  refine ⟨fun a u e => ?_, fun a u e => ?_, fun a u e => ?_⟩
  · obtain ⟨h1, h2, h3⟩ := R.fz a u e
    have ha : a ≠ p := by rintro rfl; rw [h3] at h; cases h
    refine ⟨by rw [upd_ne ha]; exact h1, h2, ?_⟩
    show upd F.g p o' a = none
    rw [upd_ne ha]; exact h3
  · obtain ⟨g, v, hv, r⟩ := R.st a u e
    have ha : a ≠ p := by rintro rfl; rw [g] at h; cases h
    refine ⟨?_, v, by rw [upd_ne ha]; exact hv, repO_g r⟩
    show upd F.g p o' a = none
    rw [upd_ne ha]; exact g
  · have e : upd F.g p o' a = some u := e
    by_cases ha : a = p
    · subst ha; rw [upd_same] at e ⊢; exact e
    · rw [upd_ne ha] at e ⊢; exact R.hd a u e
/-- what was hidden stays from now on -/
theorem Rel.showF {g : Hp} {p : Addr} {o : HO} (hg : g p = none) (R : Rel K F S H) (e : F.g = upd g p o) : Rel K ⟨g, upd F.f p o⟩ S H ∧ Same F.f (upd F.f p o) := by
  have hp : F.g p = some o := by rw [e, upd_same]
  have hf : F.f p = none := by
    cases q : F.f p with
    | none => rfl
    | some u => rw [(R.fz p u q).2.2] at hp; cases hp
  have hs : S p = none := by
    cases q : S p with
    | none => rfl
    | some u => rw [(R.st p u q).1] at hp; cases hp
  have sm := same_upd (o := o) hf
  refine ⟨⟨fun a u q => ?_, fun a u q => ?_, fun a u q => ?_⟩, sm⟩
  · have q : upd F.f p o a = some u := q
    by_cases ha : a = p
    · subst ha
      rw [upd_same] at q
      cases q
      exact ⟨R.hd a _ hp, hs, hg⟩
    · rw [upd_ne ha] at q
      obtain ⟨h1, h2, h3⟩ := R.fz a u q
      rw [e, upd_ne ha] at h3
      exact ⟨h1, h2, h3⟩
  · obtain ⟨g', v, hv, r⟩ := R.st a u q
    have ha : a ≠ p := by rintro rfl; rw [g'] at hp; cases hp
    rw [e, upd_ne ha] at g'
    refine ⟨g', v, hv, ?_⟩
    cases u with
    | lst ws => obtain ⟨vs, e, r⟩ := r; exact ⟨vs, e, Paired.mapP r fun _ _ z => z.mono1 sm⟩
    | ins C fs => obtain ⟨dx, gs, e, r⟩ := r; exact ⟨dx, gs, e, Paired.mapP r fun _ _ z => ⟨z.1, z.2.mono1 sm⟩⟩
    | tb q => obtain ⟨ps, e1, e2, e3⟩ := r; exact ⟨ps, e1, e2, fun x hx pos cv hc => let ⟨c, a, b⟩ := e3 x hx pos cv hc; ⟨c, a, sm c _ b⟩⟩
  · have ha : a ≠ p := by rintro rfl; exact nomatch hg.symm.trans (show g a = some u from q)
    exact R.hd a u (by rw [e, upd_ne ha]; exact q)
/-- what was hidden may be changed from now on -/
theorem Rel.showS {g : Hp} {p : Addr} {o : HO} {q0 : SO} (hg : g p = none) (R : Rel K F S H) (e : F.g = upd g p o) (r0 : RepO K F q0 o) : Rel K ⟨g, F.f⟩ (put S p q0) H ∧ S p = none := by
  have hp : F.g p = some o := by rw [e, upd_same]
  have hs : S p = none := by
    cases q : S p with
    | none => rfl
    | some u => rw [(R.st p u q).1] at hp; cases hp
  refine ⟨⟨fun a u q => ?_, fun a u q => ?_, fun a u q => ?_⟩, hs⟩
  · obtain ⟨h1, h2, h3⟩ := R.fz a u q
    have ha : a ≠ p := by rintro rfl; rw [h3] at hp; cases hp
    rw [e, upd_ne ha] at h3
    exact ⟨h1, by rw [put_ne ha]; exact h2, h3⟩
  · by_cases ha : a = p
    · subst ha
      rw [put_same] at q
      cases q
      exact ⟨hg, o, R.hd a _ hp, repO_g r0⟩
    · rw [put_ne ha] at q
      obtain ⟨g', v, hv, r⟩ := R.st a u q
      rw [e, upd_ne ha] at g'
      exact ⟨g', v, hv, repO_g r⟩
  · have ha : a ≠ p := by rintro rfl; exact nomatch hg.symm.trans (show g a = some u from q)
    exact R.hd a u (by rw [e, upd_ne ha]; exact q)
end
/-- a target by values -/
def LGL (K : PySem.W.Frag) (E : WX) (g3 : TG3) (g : TG) : Prop := ∀ F S τ w x σ H Q3 Q, Rel K F S H → EnvR K F E τ σ → RepW K F w x → g3 w τ S Q3 → KS K F E Q3 Q → g x σ H Q
/-- it stores to these slots alone -/
def Wp (g : TG) (vs : List Nat) : Prop := ∀ x σ H Q, g x σ H Q → g x σ H fun σ2 H2 => wipe σ2 vs = wipe σ vs ∧ Q σ2 H2
theorem wipe_set {i : Nat} {w : Option V} : ∀ {vs : List Nat} {σ : St}, i ∈ vs → wipe (σ.set i w) vs = wipe σ vs
  | [], σ, h => by cases h
  | v :: vs, σ, h => by
    have out : ∀ (us : List Nat) (ρ : St), wipe (ρ.set i w) us = (if i ∈ us then wipe ρ us else (wipe ρ us).set i w) := fun us => by
      induction us with
      | nil => intro ρ; simp [wipe]
      | cons u us ih =>
        intro ρ
        show (wipe (ρ.set i w) us).set u none = _
        rw [ih ρ]
        by_cases hu : i ∈ us
        · rw [if_pos hu, if_pos (List.mem_cons_of_mem _ hu)]; rfl
        · rw [if_neg hu]
          by_cases hi : i = u
          · subst hi
            rw [if_pos List.mem_cons_self, List.set_set]; rfl
          · rw [if_neg (by simp [hi, hu]), List.set_comm _ _ hi]; rfl
    rw [out, if_pos h]
theorem wp_name {i : Nat} {vs : List Nat} (h : i ∈ vs := by simp) : Wp (gName i) vs := fun x σ H Q q => ⟨wipe_set h, q⟩
def Wps (g : TGs) (vs : List Nat) : Prop := ∀ x σ H Q, g x σ H Q → g x σ H fun σ2 H2 => wipe σ2 vs = wipe σ vs ∧ Q σ2 H2
theorem wps_nil {vs : List Nat} : Wps gNil vs := fun x σ H Q ⟨e, q⟩ => ⟨e, rfl, q⟩
theorem wps_cons {i : Nat} {gs : TGs} {vs : List Nat} (h2 : Wps gs vs) (h : i ∈ vs := by simp) : Wps (gCons (gName i) gs) vs := fun x σ H Q ⟨v, r, e, q⟩ => by
  refine ⟨v, r, e, ?_⟩
  have z := h2 _ _ _ _ (show gs r (σ.set i (some v)) H Q from q)
  rw [wipe_set h] at z
  exact z
theorem wp_tup {K : PySem.W.Frag} {n : Nat} {gs : TGs} {vs : List Nat} (h : Wps gs vs) : Wp (gTup K n gs) vs := fun x σ H Q ⟨a, xs, e, hs, hl, q⟩ => ⟨a, xs, e, hs, hl, h _ _ _ _ q⟩
theorem lgl_name {K : PySem.W.Frag} {E : WX} {i : Nat} : LGL K E (gName3 i) (gName i) := fun F S τ w x σ H Q3 Q R Ev r h k => k F S H _ _ (Sm.refl F) R (Ev.set r) h
def LGLs (K : PySem.W.Frag) (E : WX) (g3 : TGs3) (g : TGs) : Prop := ∀ F S τ ws xs σ H Q3 Q, Rel K F S H → EnvR K F E τ σ → RepWs K F ws xs → g3 ws τ S Q3 → KS K F E Q3 Q → g xs σ H Q
theorem lgls_nil {K : PySem.W.Frag} {E : WX} : LGLs K E gNil3 gNil := fun F S τ ws xs σ H Q3 Q R Ev r ⟨e, h⟩ k => by
  subst e
  cases r
  exact ⟨rfl, k F S H _ _ (Sm.refl F) R Ev h⟩
theorem lgls_cons {K : PySem.W.Frag} {E : WX} {i : Nat} {gs3 : TGs3} {gs : TGs} (l : LGLs K E gs3 gs) : LGLs K E (gCons3 (gName3 i) gs3) (gCons (gName i) gs) := fun F S τ ws xs σ H Q3 Q R Ev r ⟨w, us, e, h⟩ k => by
  subst e
  cases r with
  | cons a t => exact ⟨_, _, rfl, l F S _ us _ _ H Q3 Q R (Ev.set a) t h k⟩
theorem lgl_tup {K : PySem.W.Frag} {E : WX} {n : Nat} {gs3 : TGs3} {gs : TGs} (l : LGLs K E gs3 gs) : LGL K E (gTup3 n gs3) (gTup K n gs) := fun F S τ w x σ H Q3 Q R Ev r ⟨ds, e, hl, h⟩ k => by
  subst e
  obtain ⟨_, a, vs, rfl, hs, ha⟩ := tup_rep R r rfl
  exact ⟨a, vs, rfl, hs, by rw [dpAll_len ha]; exact hl, l F S τ _ _ σ H Q3 Q R Ev (repWs_of_all ha) h k⟩
/-- the comprehension, its list hidden while it is made -/
theorem le_lc {K : PySem.W.Frag} {Ex : WX} {s : TI3} {g3 : TG3} {g : TG} {tt : TT3} {te : TE3} {vs : List Nat} {Qe : K3 → List W → Sto → Prop} (lg : LGL K EN g3 g) (wp : Wp g vs)
    (fin : ∀ (F F' : Fz) (S' : Sto) (H' : Hp) (D : Addr) (xs : List V) (us : List W) (Q3 : K3) (Q : VK), F.g D = none → Same F.f F'.f → F'.g = upd F.g D (.lst xs) → Rel K F' S' H' → RepWs K F' us xs → Qe Q3 us S' → KE K F Q3 Q → Q (.ref D) H') :
    ∀ σ H Q, LE K Ex (fun τ S Q => s τ S fun ws S1 => ws.length ≤ 1000000 ∧ lcGo g3 tt te ⟨wipe3 τ.sl vs, XN⟩ ws [] S1 (Qe Q)) σ H Q → tLc (LI K Ex s) g (LT K EN tt) (LE K EN te) vs σ H Q :=
  fun σ H Q ⟨F, S, τ, Q3, R, Ev, h, k⟩ => ⟨F, S, τ, _, R, Ev, h, fun F1 S1 H1 ws J s1 R1 yl ⟨hz, h1⟩ => by
    intro D hD
    have gD := R1.freeG hD
    refine ⟨fun i m H' => ∃ F' S' xs us, Same F1.f F'.f ∧ F'.g = upd F1.g D (.lst xs) ∧ Rel K F' S' H' ∧ RepWs K F' us xs ∧ xs.length ≤ i ∧ m = ws.length - i ∧ i ≤ ws.length ∧ lcGo g3 tt te ⟨wipe3 τ.sl vs, XN⟩ (ws.drop i) us S' (Qe Q3), ⟨ws.length, ⟨upd F1.g D (.lst []), F1.f⟩, S1, [], [], fun _ _ e => e, rfl, R1.hide hD, .nil, Nat.le_refl _, rfl, Nat.zero_le _, h1⟩, ?_⟩
    rintro i m H' ⟨F2, S2, xs, us, s2, g2, R2, r2, hl, rfl, hi, h2⟩
    by_cases hlt : i < ws.length
    · rw [List.drop_eq_getElem_cons hlt] at h2
      refine .inr ⟨yl.go i H' F2 S2 s2 R2 hlt, fun H3 => ∃ F' S' xs us, Same F1.f F'.f ∧ F'.g = upd F1.g D (.lst xs) ∧ Rel K F' S' H3 ∧ RepWs K F' us xs ∧ xs.length ≤ i + 1 ∧ lcGo g3 tt te ⟨wipe3 τ.sl vs, XN⟩ (ws.drop (i + 1)) us S' (Qe Q3), ?_, fun x H3 hy => ?_⟩
      · rintro H3 ⟨F', S', xs', us', q1, q2, q3, q4, q5, q6⟩
        exact ⟨ws.length - (i + 1), by omega, F', S', xs', us', q1, q2, q3, q4, q5, rfl, hlt, q6⟩
      · obtain ⟨F3, w, hw, s3, R3, r3⟩ := yl.yld i H' F2 S2 x H3 s2 R2 hlt hy
        rw [List.getElem?_eq_getElem hlt] at hw
        cases hw
        have Ev3 : EnvR K F3 EN ⟨wipe3 τ.sl vs, XN⟩ (wipe σ vs) := ⟨sle_g (s1.f.trans (s2.trans s3.f)) (sl_wipe Ev.sl vs), fun _ _ _ _ _ _ _ _ _ _ _ _ _ _ z => z.elim⟩
        have z := lg F3 S2 ⟨wipe3 τ.sl vs, XN⟩ _ x (wipe σ vs) H3 _ (fun σ2 H2 => LT K EN tt σ2 H2 fun b H3 => if b = true then LE K EN te σ2 H3 fun y H4 => ∃ acc, H4 D = some (.lst acc) ∧ acc.length < sizeLine ∧ (∃ F' S' xs us, Same F1.f F'.f ∧ F'.g = upd F1.g D (.lst xs) ∧ Rel K F' S' (upd H4 D (.lst (acc ++ [y]))) ∧ RepWs K F' us xs ∧ xs.length ≤ i + 1 ∧ lcGo g3 tt te ⟨wipe3 τ.sl vs, XN⟩ (ws.drop (i + 1)) us S' (Qe Q3))
          else ∃ F' S' xs us, Same F1.f F'.f ∧ F'.g = upd F1.g D (.lst xs) ∧ Rel K F' S' H3 ∧ RepWs K F' us xs ∧ xs.length ≤ i + 1 ∧ lcGo g3 tt te ⟨wipe3 τ.sl vs, XN⟩ (ws.drop (i + 1)) us S' (Qe Q3)) R3 Ev3 r3 h2
          fun F4 S4 H4 τ4 σ4 s4 R4 Ev4 h4 => ⟨F4, S4, τ4, _, R4, Ev4, h4, fun F5 S5 H5 b s5 R5 ⟨h5, h6⟩ => by
            have g5 : F5.g = upd F1.g D (.lst xs) := by rw [s5.g, s4.g, s3.g, g2]
            have sf : Same F2.f F5.f := s3.f.trans (s4.f.trans s5.f)
            cases b with
            | true =>
              refine iteT ⟨F5, S5, τ4, _, R5, Ev4.mono s5, h5 rfl, fun F6 S6 H6 y v s6 R6 r6 h7 => ?_⟩
              have g6 : F6.g = upd F1.g D (.lst xs) := by rw [s6.g, g5]
              have gd : F6.g D = some (.lst xs) := by rw [g6, upd_same]
              refine ⟨xs, R6.hd D _ gd, Nat.lt_of_le_of_lt (Nat.le_trans hl (Nat.le_trans hi hz)) (by decide), ⟨upd F6.g D (.lst (xs ++ [v])), F6.f⟩, S6, xs ++ [v], us ++ [y], s2.trans (sf.trans s6.f), ?_, R6.rehide gd, ?_, by rw [List.length_append, List.length_singleton]; omega, h7⟩
              · show upd F6.g D _ = _
                rw [g6, upd_upd]
              · have r6' : RepW K ⟨upd F6.g D (.lst (xs ++ [v])), F6.f⟩ y v := repW_g r6
                exact rep_app (Paired.mapP r2 fun _ _ q => repW_g (q.mono1 (sf.trans s6.f))) (.cons r6' .nil)
            | false => exact iteF ⟨F5, S5, xs, us, s2.trans sf, g5, R5, Paired.mapP r2 fun _ _ q => q.mono1 sf, by omega, h6 rfl⟩⟩
        have z2 := wp _ _ _ _ z
        have e0 : wipe (wipe σ vs) vs = wipe σ vs := by
          have : ∀ us : List Nat, (∀ u ∈ us, u ∈ vs) → wipe (wipe σ us) vs = wipe σ vs := fun us => by
            induction us with
            | nil => intro _; rfl
            | cons u us ih =>
              intro hu
              show wipe ((wipe σ us).set u none) vs = _
              rw [wipe_set (hu u List.mem_cons_self)]
              exact ih fun q hq => hu q (List.mem_cons_of_mem _ hq)
          exact this vs fun _ h => h
        rw [e0] at z2
        exact z2
    · have e : i = ws.length := by omega
      subst e
      rw [List.drop_length] at h2
      exact .inl ⟨yl.stop _ H' F2 S2 s2 R2 (Nat.le_refl _), fin F1 F2 S2 H' D xs us Q3 Q gD s2 g2 R2 r2 h2 (k.mono s1)⟩⟩
theorem fin_D {K : PySem.W.Frag} (F F' : Fz) (S' : Sto) (H' : Hp) (D : Addr) (xs : List V) (us : List W) (Q3 : K3) (Q : VK) (h1 : F.g D = none) (h2 : Same F.f F'.f) (h3 : F'.g = upd F.g D (.lst xs)) (R : Rel K F' S' H') (r : RepWs K F' us xs) (q : ∃ ds : List PyData, us = ds.map W.d ∧ Q3 (.lst ds) S') (k : KE K F Q3 Q) : Q (.ref D) H' := by
  obtain ⟨ds, rfl, q⟩ := q
  obtain ⟨R2, s2⟩ := R.showF h1 h3
  exact k ⟨F.g, upd F'.f D (.lst xs)⟩ S' H' (.lst ds) _ ⟨rfl, h2.trans s2⟩ R2 (Dp.lst (.inl (.inl (show upd F'.f D (HO.lst xs) D = _ from upd_same))) (dpAll_mono s2 (all_of_repWs r))) q
theorem fin_M {K : PySem.W.Frag} (F F' : Fz) (S' : Sto) (H' : Hp) (D : Addr) (xs : List V) (us : List W) (Q3 : K3) (Q : VK) (h1 : F.g D = none) (h2 : Same F.f F'.f) (h3 : F'.g = upd F.g D (.lst xs)) (R : Rel K F' S' H') (r : RepWs K F' us xs) (q : ∀ p, S' p = none → Q3 (.r p) (put S' p (.lst us))) (k : KE K F Q3 Q) : Q (.ref D) H' := by
  obtain ⟨R2, hs⟩ := R.showS (q0 := .lst us) h1 h3 ⟨xs, rfl, r⟩
  exact k ⟨F.g, F'.f⟩ _ H' (.r D) _ ⟨rfl, h2⟩ R2 (show V.ref D = V.ref D from rfl) (q D hs)
structure PTs3 (X : Cx) (ifs : List Expr) (t : TT3) : Prop where
  h : PTs X ifs (LT X.K EN t)
def tYes3 : TT3 := fun _ S Q => Q true S
theorem pts3_nil {X : Cx} : PTs X [] (LT X.K EN tYes3) := ⟨fun pins s σ H Q I ⟨F, S, τ, Q3, R, Ev, h, k⟩ => pts_nil.run pins s σ H Q I (k F S H _ (Sm.refl F) R h)⟩
theorem pts3_one {X : Cx} {c : Expr} {t : TT3} (h : PT X c (LT X.K EN t)) : PTs X [c] (LT X.K EN t) := pts_one h
section
variable {X : Cx} {Ex : WX} {elt tg iter : Expr} {ifs : List Expr} {scope : Scope} {own : List (Str × Nat)} {pos : Pos} {s : TI3} {g3 : TG3} {g : TG} {tt : TT3} {te : TE3}
theorem pe3_lcD (own : List (Str × Nat)) (hc : X.calm = true) (hN : X.N.Nodup) (hi : PI X tg iter (LI X.K Ex s)) (ok : BlkOk X.N X.env.scope scope own) (lg : LGL X.K EN g3 g) (wp : Wp g (own.map (·.2)))
    (hg : ∀ (s : Shared) (H : Hp) (C : Addr) (cl : List (Str × Addr)) (fp : List Addr), PG (X.blk s H scope (compEnvC scope cl C X.env) fp) tg g)
    (ht : ∀ (s : Shared) (H : Hp) (C : Addr) (cl : List (Str × Addr)) (fp : List Addr), PTs (X.blk s H scope (compEnvC scope cl C X.env) fp) ifs (LT X.K EN tt))
    (he : ∀ (s : Shared) (H : Hp) (C : Addr) (cl : List (Str × Addr)) (fp : List Addr), PE (X.blk s H scope (compEnvC scope cl C X.env) fp) elt (LE X.K EN te)) (hs : ∀ x, foldedSetIterable iter X.env x = pure x := by intro _; rfl) :
    PE X (.ListComp elt [⟨tg, iter, ifs, 0⟩] scope pos) (LE X.K Ex (tLcD3 s g3 tt te (own.map (·.2)))) := pe_imp (pe_lc hc hN hi ok hg ht he hs) (le_lc lg wp fin_D)
theorem pe3_lcM (own : List (Str × Nat)) (hc : X.calm = true) (hN : X.N.Nodup) (hi : PI X tg iter (LI X.K Ex s)) (ok : BlkOk X.N X.env.scope scope own) (lg : LGL X.K EN g3 g) (wp : Wp g (own.map (·.2)))
    (hg : ∀ (s : Shared) (H : Hp) (C : Addr) (cl : List (Str × Addr)) (fp : List Addr), PG (X.blk s H scope (compEnvC scope cl C X.env) fp) tg g)
    (ht : ∀ (s : Shared) (H : Hp) (C : Addr) (cl : List (Str × Addr)) (fp : List Addr), PTs (X.blk s H scope (compEnvC scope cl C X.env) fp) ifs (LT X.K EN tt))
    (he : ∀ (s : Shared) (H : Hp) (C : Addr) (cl : List (Str × Addr)) (fp : List Addr), PE (X.blk s H scope (compEnvC scope cl C X.env) fp) elt (LE X.K EN te)) (hs : ∀ x, foldedSetIterable iter X.env x = pure x := by intro _; rfl) :
    PE X (.ListComp elt [⟨tg, iter, ifs, 0⟩] scope pos) (LE X.K Ex (tLcM3 s g3 tt te (own.map (·.2)))) := pe_imp (pe_lc hc hN hi ok hg ht he hs) (le_lc lg wp fin_M)
theorem ps3_setLcD (i : Nat) (own : List (Str × Nat)) {y : Str} {py spos : Pos} (hc : X.calm = true) (hN : X.N.Nodup) (hsw : swapsWith (.ListComp elt [⟨tg, iter, ifs, 0⟩] scope pos) (some (.Name y py)) spos.line X.env = pure true) (hi : PI X tg iter (LI X.K Ex s)) (ok : BlkOk X.N X.env.scope scope own) (lg : LGL X.K EN g3 g) (wp : Wp g (own.map (·.2)))
    (hg : ∀ (s : Shared) (H : Hp) (C : Addr) (cl : List (Str × Addr)) (fp : List Addr), PG (X.blk s H scope (compEnvC scope cl C X.env) fp) tg g)
    (ht : ∀ (s : Shared) (H : Hp) (C : Addr) (cl : List (Str × Addr)) (fp : List Addr), PTs (X.blk s H scope (compEnvC scope cl C X.env) fp) ifs (LT X.K EN tt))
    (he : ∀ (s : Shared) (H : Hp) (C : Addr) (cl : List (Str × Addr)) (fp : List Addr), PE (X.blk s H scope (compEnvC scope cl C X.env) fp) elt (LE X.K EN te)) (hy : X.N[i]? = some y := by rfl) (hyl : X.env.scope.names.lookup y = some .local := by rfl) (hs : ∀ x, foldedSetIterable iter X.env x = pure x := by intro _; rfl) :
    PS X (.Assign [.Name y py] (.ListComp elt [⟨tg, iter, ifs, 0⟩] scope pos) spos) (LS X.K Ex (tSet3 i (tLcD3 s g3 tt te (own.map (·.2))))) :=
  ps_imp (ps_setLc hc hN hy hyl hsw hi ok hg ht he hs) fun D σ H ⟨F, S, τ, D3, R, Ev, h, k⟩ => le_lc lg wp fin_D σ H _ ⟨F, S, τ, fun w S1 => D3.nx (τ.set i (some w)) S1, R, Ev, h, fun F1 S1 H1 w v s1 R1 r1 h1 => k.nx F1 S1 H1 _ _ s1 R1 ((Ev.mono s1).set r1) h1⟩
theorem ps3_setLcM (i : Nat) (own : List (Str × Nat)) {y : Str} {py spos : Pos} (hc : X.calm = true) (hN : X.N.Nodup) (hsw : swapsWith (.ListComp elt [⟨tg, iter, ifs, 0⟩] scope pos) (some (.Name y py)) spos.line X.env = pure true) (hi : PI X tg iter (LI X.K Ex s)) (ok : BlkOk X.N X.env.scope scope own) (lg : LGL X.K EN g3 g) (wp : Wp g (own.map (·.2)))
    (hg : ∀ (s : Shared) (H : Hp) (C : Addr) (cl : List (Str × Addr)) (fp : List Addr), PG (X.blk s H scope (compEnvC scope cl C X.env) fp) tg g)
    (ht : ∀ (s : Shared) (H : Hp) (C : Addr) (cl : List (Str × Addr)) (fp : List Addr), PTs (X.blk s H scope (compEnvC scope cl C X.env) fp) ifs (LT X.K EN tt))
    (he : ∀ (s : Shared) (H : Hp) (C : Addr) (cl : List (Str × Addr)) (fp : List Addr), PE (X.blk s H scope (compEnvC scope cl C X.env) fp) elt (LE X.K EN te)) (hy : X.N[i]? = some y := by rfl) (hyl : X.env.scope.names.lookup y = some .local := by rfl) (hs : ∀ x, foldedSetIterable iter X.env x = pure x := by intro _; rfl) :
    PS X (.Assign [.Name y py] (.ListComp elt [⟨tg, iter, ifs, 0⟩] scope pos) spos) (LS X.K Ex (tSet3 i (tLcM3 s g3 tt te (own.map (·.2))))) :=
  ps_imp (ps_setLc hc hN hy hyl hsw hi ok hg ht he hs) fun D σ H ⟨F, S, τ, D3, R, Ev, h, k⟩ => le_lc lg wp fin_M σ H _ ⟨F, S, τ, fun w S1 => D3.nx (τ.set i (some w)) S1, R, Ev, h, fun F1 S1 H1 w v s1 R1 r1 h1 => k.nx F1 S1 H1 _ _ s1 R1 ((Ev.mono s1).set r1) h1⟩
end
end H3

namespace H3
open PySem PySem.Spec L2
open PyProof.Rows hiding St

/-! ### a law's end -/
/-- the law's call of a script at a ends in True -/
def LawEnd (P : Program) (w : World) (fa a : Addr) (s : Shared) : Prop :=
  codeAny (model P w) callerA (.call (.ref fa) ⟨[.ref a], []⟩) (fun r z => r = .ok (.ret (.bool true)) ∧ OldK s.heap z.heap ∧ z.os = s.os ∧ AllBare z.gens) s
section
variable {P : Program} {w : World} {K : PySem.W.Frag} {mg mb : Str → Option Value} {k : Nat} {fa a : Addr} {fd : FuncData} {x : Str} {sp : Sp} {s₁ : Shared} {vs : List Value} {ns : List Int}
/-- from a heap in which the script alone may be tracked -/
theorem law_core {H : Hp} (KX : K.In s₁.heap) (hns : s₁.heap.Ns mainGlobals mg) (hb : s₁.heap.Ns builtinsNs mb) (hbb : ∀ x : Str, x ≠ "__name__" → mb x = bootBuiltins x) (hlim : s₁.heap.NoLimit) (hg : s₁.gens = #[])
    (ha : s₁.heap.get? a = some { cls := .type "list", data := .seq vs.toArray }) (hr : Room k callerA) (F : ∀ base : Heap, K.In base → base.Ns mainGlobals mg → FnG P w K mg base (L2.CX P w) k fa fd [x] sp)
    (hbind : ∀ (s : Shared) (u : Value), BindsTo s fd ⟨[u], []⟩ [(x, u)]) (hO : Only H) (hsp : sp [.ref a] H (fun v _ => v = .bl true) fun _ _ _ => False) (hok : HOk P w H s₁.heap) (hA : ∀ b, H b ≠ none → b = a) (hK : H a ≠ none → K.lookup a = none) :
    LawEnd P w fa a s₁ := by
  have inB : ∀ b o, s₁.heap.get? b = some o → (b = a → H a = none) → (hidT s₁.heap H).get? b = some o := fun b o e n => by
    apply hidT_get e
    cases q : H b with
    | none => rfl
    | some u =>
      have eb := hA b (by rw [q]; simp)
      rw [eb, n eb] at q
      cases q
  have dictB : ∀ {b : Addr} {m : Str → Option Value}, s₁.heap.Ns b m → (hidT s₁.heap H).Ns b m := by
    rintro b m ⟨o, es, ep, e, d, r⟩
    refine ⟨o, es, ep, inB b o e fun eb => ?_, d, r⟩
    subst eb
    rw [ha] at e
    cases e
    exact nomatch d
  have kB : K.In (hidT s₁.heap H) := fun b o e => inB b o (KX b o e) fun eb => by
    subst eb
    cases q : H b with
    | none => rfl
    | some u => rw [hK (by rw [q]; simp)] at e; cases e
  obtain ⟨mc, l1, l2⟩ := hlim
  have e0 : Env0 P w K mg (hidT s₁.heap H) callerA [] s₁ H :=
    { frames := rfl, mod := ⟨kB, dictB hns, ⟨mb, dictB hb, hbb⟩, ⟨mc, dictB l1, l2⟩⟩, bs := fun b o e => of_hidT e, bsz := Nat.le_of_eq (hidT_size _ _), funs := trivial, frf := fun b z => absurd z (by simp [frs]), hok := hok, bare := .of_eq hg }
  apply codeAny_mono ((F _ kB (dictB hns)).run callerA [] s₁ H ⟨[.ref a], []⟩ [.ref a] [.ref a] _ _ rfl hr e0 (hbind s₁ (.ref a)) (.cons rfl .nil) hsp)
  intro r s' h
  cases r with
  | error e =>
    exact (let ⟨_, _, _, _, _, _, _, _, _, _, _, _, no⟩ := h; no.elim)
  | ok fl =>
    cases fl with
    | next => exact h.elim
    | brk => exact h.elim
    | cont => exact h.elim
    | ret u =>
      obtain ⟨v, G, sky, bare, un, hok', r', q⟩ := h
      cases (show v = .bl true from q)
      cases (show u = Value.bool true from r')
      refine ⟨rfl, OldK.of_keep ?_, sky, bare⟩
      intro b o e
      rcases hO b with z | ⟨fo, us, z⟩
      · exact un.keep b o e z (by simp [frs]) (by simp)
      · obtain ⟨e1, _⟩ := hok b _ z
        obtain ⟨e2, _⟩ := hok' b _ (un.frzs b fo _ z)
        rw [e] at e1
        cases e1
        exact e2
theorem law_callG (KX : K.In s₁.heap) (hns : s₁.heap.Ns mainGlobals mg) (hb : s₁.heap.Ns builtinsNs mb) (hbb : ∀ x : Str, x ≠ "__name__" → mb x = bootBuiltins x) (hlim : s₁.heap.NoLimit) (hg : s₁.gens = #[])
    (ha : s₁.heap.get? a = some { cls := .type "list", data := .seq vs.toArray }) (hi : IntsAre vs ns) (hl : ns.length ≤ sizeLine) (hr : Room k callerA) (F : ∀ base : Heap, K.In base → base.Ns mainGlobals mg → FnG P w K mg base (L2.CX P w) k fa fd [x] sp)
    (hbind : ∀ (s : Shared) (u : Value), BindsTo s fd ⟨[u], []⟩ [(x, u)]) (hsp : ∀ H : Hp, Only H → SqL K H a (ns.map V.int) → sp [.ref a] H (fun v _ => v = .bl true) fun _ _ _ => False) :
    LawEnd P w fa a s₁ := by
  have rv := vals_ints hi
  cases hk : K.lookup a with
  | some o =>
    have e := KX a o hk
    rw [ha] at e
    cases e
    have hO : Only fun _ => none := fun _ => .inl rfl
    refine law_core (H := fun _ => none) KX hns hb hbb hlim hg ha hr F hbind hO (hsp _ hO (.inr ⟨_, vs.toArray, _, hk, rfl, rfl, rfl, ?_, by simpa using rv⟩)) (fun b u z => nomatch z) (fun b z => absurd rfl z) fun z => absurd rfl z
    rw [List.size_toArray]; rw [hi.length]
    exact hl
  | none =>
    have hO : Only fun b => if b = a then some (.frz { cls := .type "list", data := .seq vs.toArray } (.lst (ns.map V.int))) else none := fun b => by
      by_cases q : b = a
      · exact .inr ⟨_, _, if_pos q⟩
      · exact .inl (if_neg q)
    refine law_core (H := fun b => if b = a then some (.frz { cls := .type "list", data := .seq vs.toArray } (.lst (ns.map V.int))) else none) KX hns hb hbb hlim hg ha hr F hbind hO (hsp _ hO (.inl (.inr ⟨_, if_pos rfl⟩))) (fun b u z => ?_) (fun b z => ?_) fun _ => hk
    · by_cases q : b = a
      · have z' : some (HO.frz { cls := .type "list", data := .seq vs.toArray } (.lst (ns.map V.int))) = some u := (if_pos q).symm.trans z
        cases z'
        subst q
        exact ⟨ha, (List.length_map (as := ns) V.int).symm ▸ hl, vs, _, rv, ha⟩
      · exact nomatch (if_neg q).symm.trans z
    · by_cases q : b = a
      · exact q
      · exact absurd (if_neg q) z
end
/-- a law over values: from the script's ints -/
theorem walk3 {l : PySem.W.OpenLaw} {k : Nat} {q : Program} {loose : List Str} {XP : (Str → Option Value) → Heap → Prop} {YP : World → Heap → Prop} {d : DefRec} {x : Str} (hn : l.most = some 63) (hdf : d.params.defaults = []) (hr : Room k callerA) (sp : Sp3)
    (F : ∀ (w : World) (mg : Str → Option Value) (fa : Addr) (h : Heap), YP w h → h.Ns mainGlobals mg → mg d.name = some (.ref fa) → ∃ (K : PySem.W.Frag) (fd : FuncData), K.In h ∧ (∀ (s : Shared) (u : Value), BindsTo s fd ⟨[u], []⟩ [(x, u)]) ∧ ∀ base : Heap, K.In base → base.Ns mainGlobals mg → FnG l.prog w K mg base (L2.CX l.prog w) k fa fd [x] (LSp K sp))
    (hsp : ∀ ns : List Int, ns.length ≤ 63 → sp [.lst (ns.map PyData.int)] (fun _ => none) (fun w _ => w = .bl true) X0) :
    PySem.W.WalkO q loose XP YP l.row.toRowW d [] (fun g us => PySem.call g us) := by
  apply Att.attach_call hn hdf
  intro w s₀ s₁ mg mb fa o pm cd doc a vs ns G Y ho hd hcd hmg hobj hints hlen hg
  obtain ⟨K, fd, KX, hb, hF⟩ := F w mg fa _ Y G.T.g hmg
  refine law_callG KX G.T.g G.T.b G.T.builtins G.T.nolimit hg hobj hints (Nat.le_trans hlen (by decide)) hr hF hb fun H hO hS => ?_
  have da : ∀ ns : List Int, DpAll K H (ns.map V.int) (ns.map PyData.int) := fun ns => by
    induction ns with
    | nil => exact .nil
    | cons n ns ih => exact .cons (.int n) ih
  refine ⟨⟨fun _ => none, H⟩, fun _ => none, [.lst (ns.map PyData.int)], fun w _ => w = .bl true, X0, ⟨fun a o e => ⟨e, rfl, rfl⟩, (fun a p e => (nomatch e)), (fun a o e => (nomatch e))⟩, .cons (show Dp K H (.ref a) (.list (ns.map PyData.int)) from .lst hS (da ns)) .nil, hsp ns hlen, ?_, H3.KX.no⟩
  intro F' S' H' w v _ _ r q
  subst q
  exact rep_bl r
end H3

namespace H3
open PySem PySem.Spec L2
open PyProof.Rows hiding St

/-! ### tuple(range(..)), list(range(..)) -/
def rgD (a b : Int) : List PyData := (List.range (b - a).toNat).map fun i => PyData.int (a + (i : Nat))
theorem dp_rg {K : PySem.W.Frag} {F : Hp} {a b : Int} : DpAll K F (rgV a b) (rgD a b) := by
  unfold rgV rgD
  induction (List.range (b - a).toNat) with
  | nil => exact .nil
  | cons n ns ih => exact .cons (.int _) ih
section
variable {X : Cx} {Ex : WX} {a b : Expr} {ta tb : TE3}
def tRg13 (ta : TE3) : S3 → Sto → (Int → Int → Sto → Prop) → Prop := fun τ S Q => ta τ S fun w S1 => ∃ n, w = .int n ∧ Q 0 n S1
def tRg23 (ta tb : TE3) : S3 → Sto → (Int → Int → Sto → Prop) → Prop := fun τ S Q => ta τ S fun w S1 => tb τ S1 fun u S2 => ∃ i j, w = .int i ∧ u = .int j ∧ Q i j S2
def LR (K : PySem.W.Frag) (E : WX) (t : S3 → Sto → (Int → Int → Sto → Prop) → Prop) : St → Hp → (Int → Int → Hp → Prop) → Prop := fun σ H Q => ∃ F S τ Q3, Rel K F S H ∧ EnvR K F E τ σ ∧ t τ S Q3 ∧ ∀ F' S' H' i j, Sm F F' → Rel K F' S' H' → Q3 i j S' → Q i j H'
theorem prg_imp {e : Expr} {t u : St → Hp → (Int → Int → Hp → Prop) → Prop} (h : PRg X e t) (i : ∀ σ H Q, u σ H Q → t σ H Q) : PRg X e u := fun pins s σ H Q I q => h pins s σ H Q I (i _ _ _ q)
theorem prg3_1 {p pos : Pos} (hg : Gl X "range") (hm : X.mg "range" = none) (ha : PE X a (LE X.K Ex ta)) (na : starEach [a] X.env = (false, eval a X.env) :: starEach [] X.env := by rfl) : PRg X (.Call (.Name "range" p) [a] [] pos) (LR X.K Ex (tRg13 ta)) :=
  prg_imp (prg_1 hg hm ha na) fun σ H Q ⟨F, S, τ, Q3, R, Ev, h, k⟩ => ⟨F, S, τ, _, R, Ev, h, fun F1 S1 H1 w v s1 R1 r1 ⟨n, e, q⟩ => by
    subst e
    exact ⟨n, rep_int r1, k F1 S1 H1 _ _ s1 R1 q⟩⟩
theorem prg3_2 {p pos : Pos} (hg : Gl X "range") (hm : X.mg "range" = none) (ha : PE X a (LE X.K Ex ta)) (hb : PE X b (LE X.K Ex tb)) (na : starEach [a, b] X.env = (false, eval a X.env) :: starEach [b] X.env := by rfl) (nb : starEach [b] X.env = (false, eval b X.env) :: starEach [] X.env := by rfl) (hp : (backTo pos (starEach [b] X.env)).any (·.1) = false := by rfl) :
    PRg X (.Call (.Name "range" p) [a, b] [] pos) (LR X.K Ex (tRg23 ta tb)) :=
  prg_imp (prg_2 hg hm ha hb na nb hp) fun σ H Q ⟨F, S, τ, Q3, R, Ev, h, k⟩ => ⟨F, S, τ, _, R, Ev, h, fun F1 S1 H1 w v s1 R1 r1 h1 => ⟨F1, S1, τ, _, R1, Ev.mono s1, h1, fun F2 S2 H2 u y s2 R2 r2 ⟨i, j, e1, e2, q⟩ => by
    subst e1 e2
    exact ⟨i, j, rep_int r1, rep_int r2, k F2 S2 H2 _ _ (s1.trans s2) R2 q⟩⟩⟩
variable {e : Expr} {t : S3 → Sto → (Int → Int → Sto → Prop) → Prop}
def tTupRg3 (t : S3 → Sto → (Int → Int → Sto → Prop) → Prop) : TE3 := fun τ S Q => t τ S fun a b S1 => RgOk a b ∧ Q (.tup (rgD a b)) S1
def tLstRgD3 (t : S3 → Sto → (Int → Int → Sto → Prop) → Prop) : TE3 := fun τ S Q => t τ S fun a b S1 => RgOk a b ∧ Q (.lst (rgD a b)) S1
def tLstRgM3 (t : S3 → Sto → (Int → Int → Sto → Prop) → Prop) : TE3 := fun τ S Q => t τ S fun a b S1 => RgOk a b ∧ ∀ p, S1 p = none → Q (.r p) (put S1 p (.lst ((rgD a b).map W.d)))
theorem pe3_tupRg {p pos : Pos} (hc : X.calm = true) (hg : Gl X "tuple") (hm : X.mg "tuple" = none) (he : PRg X e (LR X.K Ex t)) (na : starEach [e] X.env = (false, eval e X.env) :: starEach [] X.env := by rfl) : PE X (.Call (.Name "tuple" p) [e] [] pos) (LE X.K Ex (tTupRg3 t)) :=
  pe_imp (pe_tupRgN hc hg hm he na) fun σ H Q ⟨F, S, τ, Q3, R, Ev, h, k⟩ => ⟨F, S, τ, _, R, Ev, h, fun F1 S1 H1 i j s1 R1 ⟨ok, q⟩ => ⟨ok, fun p o hp no => by
    obtain ⟨s, R', rw'⟩ := newTup R1 hp no dp_rg
    exact k _ _ _ _ _ (s1.trans s) R' rw' q⟩⟩
theorem pe3_lstRgD {p pos : Pos} (hc : X.calm = true) (hg : Gl X "list") (hm : X.mg "list" = none) (he : PRg X e (LR X.K Ex t)) (na : starEach [e] X.env = (false, eval e X.env) :: starEach [] X.env := by rfl) : PE X (.Call (.Name "list" p) [e] [] pos) (LE X.K Ex (tLstRgD3 t)) :=
  pe_imp (pe_listRg hc hg hm he na) fun σ H Q ⟨F, S, τ, Q3, R, Ev, h, k⟩ => ⟨F, S, τ, _, R, Ev, h, fun F1 S1 H1 i j s1 R1 ⟨ok, q⟩ => ⟨ok, fun p hp => by
    obtain ⟨s, R', rw'⟩ := newLst R1 hp dp_rg
    exact k _ _ _ _ _ (s1.trans s) R' rw' q⟩⟩
theorem pe3_lstRgM {p pos : Pos} (hc : X.calm = true) (hg : Gl X "list") (hm : X.mg "list" = none) (he : PRg X e (LR X.K Ex t)) (na : starEach [e] X.env = (false, eval e X.env) :: starEach [] X.env := by rfl) : PE X (.Call (.Name "list" p) [e] [] pos) (LE X.K Ex (tLstRgM3 t)) :=
  pe_imp (pe_listRg hc hg hm he na) fun σ H Q ⟨F, S, τ, Q3, R, Ev, h, k⟩ => ⟨F, S, τ, _, R, Ev, h, fun F1 S1 H1 i j s1 R1 ⟨ok, q⟩ => ⟨ok, fun p hp =>
    k _ _ _ (.r p) _ s1 (newMut R1 hp (repWs_of_all dp_rg)) (show V.ref p = V.ref p from rfl) (q p (R1.freeS hp))⟩⟩
end

/-! ### len(set(x)) of ints -/
theorem met_nodup (f : Nat → Int) : ∀ n, (firstMet f n).Nodup
  | 0 => List.nodup_nil
  | n + 1 => by
    rw [firstMet_succ]
    unfold step_dedup
    by_cases h : (firstMet f n).any (· == f n) = true
    · rw [if_pos h]; exact met_nodup f n
    · rw [if_neg h, List.nodup_append]
      refine ⟨met_nodup f n, by simp, ?_⟩
      intro x hx y hy
      cases List.mem_singleton.mp hy
      intro e
      exact h (List.any_eq_true.mpr ⟨x, hx, by simp [e]⟩)
theorem met_mem {ns : List Int} {k : Int} : k ∈ firstMet (fun i => ns.getD i 0) ns.length ↔ k ∈ ns := by
  have e := firstMet_any (fun i => ns.getD i 0) ns.length k
  have a1 : ∀ l : List Int, l.any (· == k) = true ↔ k ∈ l := fun l => by
    rw [List.any_eq_true]
    constructor
    · rintro ⟨x, hx, h⟩; rw [← beq_iff_eq.mp h]; exact hx
    · exact fun h => ⟨k, h, by simp⟩
  rw [← a1, e, a1]
  constructor
  · intro h
    obtain ⟨i, hi, h⟩ := List.mem_map.mp h
    have hi := List.mem_range.mp hi
    rw [← h, List.getD_eq_getElem?_getD, List.getElem?_eq_getElem hi]
    exact List.getElem_mem hi
  · intro h
    obtain ⟨i, hi, h⟩ := List.getElem_of_mem h
    refine List.mem_map.mpr ⟨i, List.mem_range.mpr hi, ?_⟩
    rw [List.getD_eq_getElem?_getD, List.getElem?_eq_getElem hi]; exact h
section
variable {X : Cx} {Ex : WX} {a : Expr}
def tLenSetV (K : PySem.W.Frag) (ta : TE) : TE := fun σ H Q => ta σ H fun x H1 => ∃ (l : Addr) (ns : List Int), x = V.ref l ∧ (SqL K H1 l (ns.map V.int) ∨ SqT K H1 l (ns.map V.int)) ∧ ns.length ≤ 1000 ∧ ∀ L : List Int, L.Nodup → (∀ k, k ∈ L ↔ k ∈ ns) → Q (.int L.length) H1
theorem pe_lenSetV {ta : TE} {p p2 q pos : Pos} (hc : X.calm = true) (hg : Gl X "len") (hm : X.mg "len" = none) (hg2 : Gl X "set") (hm2 : X.mg "set" = none) (ha : PE X a ta)
    (na : starEach [a] X.env = (false, eval a X.env) :: starEach [] X.env := by rfl) : PE X (.Call (.Name "len" p) [.Call (.Name "set" p2) [a] [] q] [] pos) (tLenSetV X.K ta) := by
  constructor
  intro pins s σ H Q I h
  refine Call_ (ld_blt I hg hm PySem.boot_len (callWith_builtin1 (args_cons (Call_ (ld_blt I hg2 hm2 boot_set (callWith_type1 (args_cons ?_ na) na rfl))) rfl) rfl rfl))
  refine thn (ha.run pins s σ H _ I h) (fun v s1 ⟨x, H1, I1, r1, l, ns, e, hq, hl, q1⟩ => args_nil ?_)
  subst e
  cases r1
  have fin : ∀ (h' : Heap) (tk n : Nat) (L : List Int), L.length = n → L.Nodup → (∀ k, k ∈ L ↔ k ∈ ns) → (∃ o es ep t, h'.get? s1.heap.objs.size = some o ∧ o.ExactSet ∧ o.data = .set es ep t ∧ t.fits es.size = true ∧ es.size = n) → n ≤ 1000 → (∀ b u, s1.heap.get? b = some u → h'.get? b = some u) →
      wpAny (model X.prog X.w) X.A (call (.builtin "len") [.ref s1.heap.objs.size]) (EP X pins σ Q) X.xe { s1 with heap := h', toks := tk } := by
    intro h' tk n L e1 nd mem ⟨o, es, ep, t, ho, hex, hd, hf, hn⟩ hn1 kp
    have J : Inv X pins σ H1 { s1 with heap := h', toks := tk } := I1.kept kp
    refine PySem.call_len_set ho hex hd hf (by rw [hn]; omega) ⟨.int L.length, H1, J.tok _, ⟨_, by rw [hn, e1]⟩, q1 L nd mem⟩
  rcases hq with hq | hq
  · obtain ⟨its, r, pl, _⟩ := I1.list hq
    have hi : IntsAre its.toArray.toList ns := ints_of_vals r
    have hl2 : its.toArray.size = ns.length := by rw [List.size_toArray, ← r.length, List.length_map]
    refine call_set_list (I1.ok.hd hc) pl.isList (ns := ns) hi (by unfold scanBound; omega) fun h' tk hS hk => ?_
    rw [hl2] at hS
    have table : ∃ o es ep t, h'.get? s1.heap.objs.size = some o ∧ o.ExactSet ∧ o.data = .set es ep t ∧ t.fits es.size = true ∧ es.size = _ := let ⟨o, es, ep, t, a1, a2, a3, _, _, _, a4, a5⟩ := hS; ⟨o, es, ep, t, a1, a2, a3, a4, a5⟩
    exact args_nil (fin h' tk _ _ rfl (met_nodup _ _) (fun k => met_mem) table (Nat.le_trans (firstMet_length_le _ _) hl) fun b u e => hk b u (Heap.lt_size e) e)
  · obtain ⟨its, r, pt, hz⟩ := I1.tuple hq
    have hi : IntsAre its.toArray.toList ns := ints_of_vals r
    refine call_set_tupI ns (I1.ok.hd hc) (show s1.heap.IsTuple l its.toArray from pt) hi (by unfold scanBound; omega) fun h' tk c R1 hcn k => ?_
    obtain ⟨o, es, ep, t, ho, hex, hd, g, nd, hm3, hb, hf, hn, _⟩ := R1
    exact args_nil (fin h' tk c (es.toList.map keyOf) (by rw [List.length_map, Array.length_toList]; exact hn) nd (fun j => by rw [← hm3 j]; simp) ⟨o, es, ep, t, ho, hex, hd, hf, hn⟩ (Nat.le_trans hcn hl) k)
variable {ta : TE3}
def tLenSet3 (ta : TE3) : TE3 := fun τ S Q => ta τ S fun w S1 => ∃ ns : List Int, itemsW S1 w = some (ns.map PyData.int) ∧ ns.length ≤ 1000 ∧ ∀ L : List Int, L.Nodup → (∀ k, k ∈ L ↔ k ∈ ns) → Q (.int L.length) S1
theorem pe3_lenSet {p p2 q pos : Pos} (hc : X.calm = true) (hg : Gl X "len") (hm : X.mg "len" = none) (hg2 : Gl X "set") (hm2 : X.mg "set" = none) (ha : PE X a (LE X.K Ex ta))
    (na : starEach [a] X.env = (false, eval a X.env) :: starEach [] X.env := by rfl) : PE X (.Call (.Name "len" p) [.Call (.Name "set" p2) [a] [] q] [] pos) (LE X.K Ex (tLenSet3 ta)) :=
  pe_imp (pe_lenSetV hc hg hm hg2 hm2 ha na) fun σ H Q ⟨F, S, τ, Q3, R, Ev, h, k⟩ => ⟨F, S, τ, _, R, Ev, h, fun F1 S1 H1 w v s1 R1 r1 ⟨ns, e, hl, q⟩ => by
    obtain ⟨a, vs, rfl, hs, ha, _⟩ := items_rep R1 r1 e
    have e2 := ints_of ha
    subst e2
    exact ⟨a, ns, rfl, hs.imp id And.left, hl, fun L h1 h2 => k F1 S1 H1 _ _ s1 R1 mk_int (q L h1 h2)⟩⟩
end

/-! ### is True, is False; x in xs -/
section
variable {X : Cx} {K : PySem.W.Frag}
def gIsB : R3 := fun w u S Q => ∃ a b, w = .bl a ∧ u = .bl b ∧ Q (.bl (decide (a = b))) S
theorem l_isB : OpL K gIsB rIsB := fun F S H w u x y Q3 Q R rw ru ⟨a, b, e1, e2, q⟩ k => by
  subst e1 e2
  exact ⟨a, b, rep_bl rw, rep_bl ru, k F S H _ _ (Sm.refl F) R mk_bl q⟩
def gNotB : R3 := fun w u S Q => ∃ a b, w = .bl a ∧ u = .bl b ∧ Q (.bl (!decide (a = b))) S
theorem l_notB : OpL K gNotB rNotB := fun F S H w u x y Q3 Q R rw ru ⟨a, b, e1, e2, q⟩ k => by
  subst e1 e2
  exact ⟨a, b, rep_bl rw, rep_bl ru, k F S H _ _ (Sm.refl F) R mk_bl q⟩
/-- x in a list or tuple of data -/
def rInV (K : PySem.W.Frag) (neg : Bool) : R2 := fun x y H Q => ∃ d ds, L2.Dp K H x d ∧ (L2.Dp K H y (.list ds) ∨ L2.Dp K H y (.tuple ds)) ∧ SeqAt.shaped d = true ∧ PyData.canLayAll0 ds = true ∧ Q (.bl (if neg then !ds.any fun z => PyData.eqv z d else ds.any fun z => PyData.eqv z d)) H
theorem room_in {A : Around} {d : PyData} {n : Nat} (h : SeqAt.shaped d = true) (hu : A.units + 70 < cLine) : A.units + 1 + min n d.depth < cLine := by
  have h1 := SeqAt.depth_of_shaped h
  have h2 := Nat.min_le_right n d.depth
  omega
theorem op_inV (hu : X.A.units + 70 < cLine) : OpR X (compareOp .In) (rInV X.K false) := by
  rintro pins s σ H x y v u Q I rx ry ⟨d, ds, hd, he, sd, se, q⟩
  obtain ⟨as, r1⟩ := L2.Dp.reads I d x v hd rx
  rcases he with he | he
  · obtain ⟨bs, r2⟩ := L2.Dp.reads I _ y u he ry
    exact SeqAt.in_list_reads r2 r1 se (SeqAt.canLay_of_shaped sd) (room_in sd hu) ⟨.bl _, H, I, rfl, q⟩
  · obtain ⟨bs, r2⟩ := L2.Dp.reads I _ y u he ry
    exact SeqAt.in_tuple_reads r2 r1 se (SeqAt.canLay_of_shaped sd) (room_in sd hu) ⟨.bl _, H, I, rfl, q⟩
theorem op_notInV (hu : X.A.units + 70 < cLine) : OpR X (compareOp .NotIn) (rInV X.K true) := by
  rintro pins s σ H x y v u Q I rx ry ⟨d, ds, hd, he, sd, se, q⟩
  obtain ⟨as, r1⟩ := L2.Dp.reads I d x v hd rx
  rcases he with he | he
  · obtain ⟨bs, r2⟩ := L2.Dp.reads I _ y u he ry
    exact SeqAt.notIn_list_reads r2 r1 se (SeqAt.canLay_of_shaped sd) (room_in sd hu) ⟨.bl _, H, I, rfl, q⟩
  · obtain ⟨bs, r2⟩ := L2.Dp.reads I _ y u he ry
    exact SeqAt.notIn_tuple_reads r2 r1 se (SeqAt.canLay_of_shaped sd) (room_in sd hu) ⟨.bl _, H, I, rfl, q⟩
def gIn (neg : Bool) : R3 := fun w u S Q => ∃ d ds, viewW S w = some d ∧ itemsW S u = some ds ∧ SeqAt.shaped d = true ∧ PyData.canLayAll0 ds = true ∧ Q (.bl (if neg then !ds.any fun z => PyData.eqv z d else ds.any fun z => PyData.eqv z d)) S
theorem items_dp {F : Fz} {S : Sto} {H : Hp} {w : W} {v : V} {ds : List PyData} (R : Rel K F S H) (r : RepW K F w v) (h : itemsW S w = some ds) : L2.Dp K H v (.list ds) ∨ L2.Dp K H v (.tuple ds) := by
  unfold itemsW at h
  cases e : viewW S w with
  | none => rw [e] at h; exact nomatch h
  | some x =>
    rw [e] at h
    have z := view_rep R r e
    cases x with
    | list l => cases h; exact .inl z
    | tuple l => cases h; exact .inr z
    | none => cases h
    | bool => cases h
    | int => cases h
    | str => cases h
    | dict => cases h
theorem l_in {neg : Bool} : OpL K (gIn neg) (rInV K neg) := fun F S H w u x y Q3 Q R rw ru ⟨d, ds, e1, e2, s1, s2, q⟩ k =>
  ⟨d, ds, view_rep R rw e1, items_dp R ru e2, s1, s2, k F S H _ _ (Sm.refl F) R mk_bl q⟩
/-- a text in a text -/
def gInS (neg : Bool) : R3 := fun w u S Q => ∃ i j, w = .str i ∧ u = .str j ∧ Q (.bl (if neg then !(!(Builtin.Str.occurrences j i 0 j.length 1).isEmpty) else !(Builtin.Str.occurrences j i 0 j.length 1).isEmpty)) S
theorem l_inS : OpL K (gInS false) (fun x y H Q => ∃ i j, x = .str i ∧ y = .str j ∧ Q (.bl (!(Builtin.Str.occurrences j i 0 j.length 1).isEmpty)) H) := fun F S H w u x y Q3 Q R rw ru ⟨i, j, e1, e2, q⟩ k => by
  subst e1 e2
  exact ⟨i, j, rep_str rw, rep_str ru, k F S H _ _ (Sm.refl F) R mk_bl q⟩
/-- lists joined to a new one, to stay -/
def gCat : R3 := fun w u S Q => ∃ ds es : List PyData, viewW S w = some (.list ds) ∧ viewW S u = some (.list es) ∧ ds.length + es.length ≤ 1000000 ∧ Q (.lst (ds ++ es)) S
/-- tuples joined -/
def gCatT : R3 := fun w u S Q => ∃ ds es : List PyData, w = .tup ds ∧ u = .tup es ∧ ds.length + es.length ≤ 1000000 ∧ Q (.tup (ds ++ es)) S
theorem dpAll_app {F : Hp} : ∀ {vs us : List V} {ds es : List PyData}, DpAll K F vs ds → DpAll K F us es → DpAll K F (vs ++ us) (ds ++ es)
  | _, _, _, _, .nil, h => h
  | _, _, _, _, .cons a t, h => .cons a (dpAll_app t h)
theorem l_catT : OpL K gCatT (rCatN K) := fun F S H w u x y Q3 Q R rw ru ⟨ds, es, e1, e2, hl, q⟩ k => by
  subst e1 e2
  obtain ⟨_, a, vs, rfl, hs, ha⟩ := tup_rep R rw rfl
  obtain ⟨_, b, us, rfl, hb, hc⟩ := tup_rep R ru rfl
  have l1 := dpAll_len ha
  have l2 := dpAll_len hc
  refine ⟨a, b, vs, us, rfl, rfl, hs, hb, by rw [l1, l2]; exact Nat.le_trans hl (by decide), fun hx => ?_, fun hx hy => ?_, fun hx hy p o hp no => ?_⟩
  · subst hx
    cases ha
    exact k F S H _ _ (Sm.refl F) R ru q
  · subst hy
    cases hc
    rw [List.append_nil] at q
    exact k F S H _ _ (Sm.refl F) R rw q
  · obtain ⟨s, R', rw'⟩ := newTup R hp no (dpAll_app ha hc)
    exact k _ _ _ _ _ s R' rw' q
end
end H3

namespace H3
open PySem PySem.Spec L2
open PyProof.Rows hiding St

section
variable {X : Cx} {Ex : WX} {e : Expr} {te : TE3} {pos : Pos}
def tNeg3 (t : TE3) : TE3 := fun τ S Q => t τ S fun w S1 => ∃ i, w = .int i ∧ Q (.int (-i)) S1
theorem pe3_neg (he : PE X e (LE X.K Ex te)) : PE X (.UnaryOp .USub e pos) (LE X.K Ex (tNeg3 te)) :=
  pe_imp (pe_un un_neg he) fun σ H Q ⟨F, S, τ, Q3, R, Ev, h, k⟩ => ⟨F, S, τ, _, R, Ev, h, fun F1 S1 H1 w x s1 R1 r1 ⟨i, e, q⟩ => by
    subst e
    exact ⟨i, rep_int r1, k F1 S1 H1 _ _ s1 R1 mk_int q⟩⟩
/-- xs[::-1], to be changed -/
def tRevM3 (te : TE3) : TE3 := fun τ S Q => te τ S fun w S1 => ∃ ws, (∃ ds, w = .lst ds ∧ ws = ds.map W.d) ∧ ∀ p, S1 p = none → Q (.r p) (put S1 p (.lst ws.reverse))
theorem pe3_revM {k : Nat} {p1 p2 p3 : Pos} (he : PE X e (LE X.K Ex te)) : PE X (.Subscript e (.Slice none none (some (.UnaryOp .USub (.Constant (.int 1) k p1) p2)) p3) pos) (LE X.K Ex (tRevM3 te)) :=
  pe_imp (pe_revL he) fun σ H Q ⟨F, S, τ, Q3, R, Ev, h, k⟩ => ⟨F, S, τ, _, R, Ev, h, fun F1 S1 H1 w x s1 R1 r1 ⟨ws, ⟨ds, e, e2⟩, q⟩ => by
    subst e e2
    obtain ⟨a, vs, rfl, hs, ha, _⟩ := list_rep R1 r1 (show viewW S1 (.lst ds) = some (.list ds) from rfl)
    refine ⟨a, vs, rfl, hs, fun p hp => ?_⟩
    rw [← List.map_reverse] at q
    exact k _ _ _ (.r p) _ s1 (newMut R1 hp (repWs_of_all (dpAll_rev ha))) (show V.ref p = V.ref p from rfl) (q p (R1.freeS hp))⟩
/-- three names at once -/
def tPar33 (i j l : Nat) (ta : TA3) : TS3 := fun D τ S => ta τ S fun ws S1 => ∃ u v w, ws = [u, v, w] ∧ D.nx (((τ.set i (some u)).set j (some v)).set l (some w)) S1
theorem ps3_par3 (i j l : Nat) {x y z : Str} {a b c : Expr} {ta : TA3} {px py pz pt : Pos} {kt k2 pt2} (hc : X.calm = true) (hN : X.N.Nodup) (ha : PA X [a, b, c] (LA X.K Ex ta)) (hi : X.N[i]? = some x := by rfl) (hj : X.N[j]? = some y := by rfl) (hl : X.N[l]? = some z := by rfl)
    (hij : i ≠ j := by decide) (hil : i ≠ l := by decide) (hjl : j ≠ l := by decide) (hx : X.env.scope.names.lookup x = some .local := by rfl) (hy : X.env.scope.names.lookup y = some .local := by rfl) (hz : X.env.scope.names.lookup z = some .local := by rfl)
    (hw : swappedStores [.Tuple [.Name x px, .Name y py, .Name z pz] kt pt] (.Tuple [a, b, c] k2 pt2) X.env = pure (some [x, y, z]) := by rfl) (hs : swapsWithSole [.Tuple [.Name x px, .Name y py, .Name z pz] kt pt] (.Tuple [a, b, c] k2 pt2) pos.line X.env = pure false := by rfl) :
    PS X (.Assign [.Tuple [.Name x px, .Name y py, .Name z pz] kt pt] (.Tuple [a, b, c] k2 pt2) pos) (LS X.K Ex (tPar33 i j l ta)) :=
  ps_imp (L2.ps_par3 hc hN hi hj hl hij hil hjl hx hy hz ha hw hs) fun D σ H ⟨F, S, τ, D3, R, Ev, h, k⟩ => ⟨F, S, τ, _, R, Ev, h, fun F1 S1 H1 ws vs s1 R1 r1 ⟨u, v, w, e, h1⟩ => by
    subst e
    cases r1 with
    | cons a t =>
      obtain ⟨v', w', rfl, rv, rw⟩ := ws2 t
      exact ⟨_, v', w', rfl, k.nx F1 S1 H1 _ _ s1 R1 ((((Ev.mono s1).set a).set rv).set rw) h1⟩⟩
/-- how many values names take -/
class GLen (gs : TGs3) (n : Nat) : Prop where
  h : ∀ ws τ S Q, gs ws τ S Q → ws.length = n
instance : GLen gNil3 0 := ⟨fun ws τ S Q ⟨e, _⟩ => by rw [e]; rfl⟩
instance {i : Nat} {gs : TGs3} {n : Nat} [h : GLen gs n] : GLen (gCons3 (gName3 i) gs) (n + 1) := ⟨fun ws τ S Q ⟨w, r, e, q⟩ => by rw [e, List.length_cons, h.h _ _ _ _ q]⟩
theorem unp_len {gs : TGs3} {n : Nat} [h : GLen gs n] {ws : List W} {τ : S3} {S : Sto} {Q : S3 → Sto → Prop} (q : gs ws τ S Q) : ws.length = n := h.h _ _ _ _ q
end

/-! ### steps of a proof over readings -/
/-- a promise is not opened while it is met -/
structure Bx (p : Prop) : Prop where
  h : p
/-- a store that differs at these places alone -/
def Upto (as : List Addr) (S S' : Sto) : Prop := ∀ b, b ∉ as → S' b = S b
theorem Upto.refl {as : List Addr} {S : Sto} : Upto as S S := fun _ _ => rfl
theorem Upto.trans {as : List Addr} {S S1 S2 : Sto} (a : Upto as S S1) (b : Upto as S1 S2) : Upto as S S2 := fun c h => (b c h).trans (a c h)
theorem Upto.put {as : List Addr} {S S1 : Sto} {a : Addr} {o : SO} (u : Upto as S S1) (h : a ∈ as) : Upto as S (put S1 a o) := fun c hc => by
  rw [put_ne (fun e => hc (by rw [e]; exact h))]; exact u c hc
/-- a loop by an invariant over the turns -/
theorem forGo_inv {g : TG3} {tb : TS3} {D : Ends3} {ws : List W} {τ : S3} {S : Sto} (P : Nat → S3 → Sto → Prop) (h0 : P 0 τ S)
    (hs : ∀ i w τ S, ws[i]? = some w → P i τ S → g w τ S fun τ2 S2 => tb { D with nx := P (i + 1), ct := P (i + 1), bk := D.nx } τ2 S2) (hd : ∀ τ S, P ws.length τ S → D.nx τ S) : forGo g tb D ws τ S := by
  have aux : ∀ (us : List W) (k : Nat) (τ : S3) (S : Sto), (∀ j, us[j]? = ws[k + j]?) → k + us.length = ws.length → P k τ S → forGo g tb D us τ S := fun us => by
    induction us with
    | nil =>
      intro k τ S _ hl p
      have : k = ws.length := by simpa using hl
      subst this
      exact hd τ S p
    | cons w us ih =>
      intro k τ S hj hl p
      refine ⟨P (k + 1), fun τ' S' p' => ih (k + 1) τ' S' (fun j => ?_) (by rw [List.length_cons] at hl; omega) p', hs k w τ S ?_ p⟩
      · have := hj (j + 1)
        rw [List.getElem?_cons_succ] at this
        rw [this]; congr 1; omega
      · have := hj 0
        rw [List.getElem?_cons_zero] at this
        exact this.symm
  exact aux ws 0 τ S (fun j => by rw [Nat.zero_add]) (by simp) h0
/-- a comprehension by an invariant: acc is what is made so far -/
theorem lcGo_inv {g : TG3} {tt : TT3} {te : TE3} {τ0 : S3} {ws : List W} {S : Sto} {Q : List W → Sto → Prop} (P : Nat → List W → Sto → Prop) (h0 : P 0 [] S)
    (hs : ∀ i w acc S, ws[i]? = some w → P i acc S → g w τ0 S fun τ2 S2 => tt τ2 S2 fun b S3 => (b = true → te τ2 S3 fun y S4 => P (i + 1) (acc ++ [y]) S4) ∧ (b = false → P (i + 1) acc S3))
    (mg : ∀ w τ S (A B : S3 → Sto → Prop), (∀ τ S, A τ S → B τ S) → g w τ S A → g w τ S B) (mt : ∀ τ S (A B : Bool → Sto → Prop), (∀ b S, A b S → B b S) → tt τ S A → tt τ S B) (me : ∀ τ S (A B : K3), (∀ w S, A w S → B w S) → te τ S A → te τ S B)
    (hd : ∀ acc S, P ws.length acc S → Q acc S) : lcGo g tt te τ0 ws [] S Q := by
  have aux : ∀ (us : List W) (k : Nat) (acc : List W) (S : Sto), (∀ j, us[j]? = ws[k + j]?) → k + us.length = ws.length → P k acc S → lcGo g tt te τ0 us acc S Q := fun us => by
    induction us with
    | nil =>
      intro k acc S _ hl p
      have : k = ws.length := by simpa using hl
      subst this
      exact hd acc S p
    | cons w us ih =>
      intro k acc S hj hl p
      have hl' : k + 1 + us.length = ws.length := by rw [List.length_cons] at hl; omega
      have hj' : ∀ j, us[j]? = ws[k + 1 + j]? := fun j => by
        have := hj (j + 1)
        rw [List.getElem?_cons_succ] at this
        rw [this]; congr 1; omega
      have h0 : ws[k]? = some w := by
        have := hj 0
        rw [List.getElem?_cons_zero] at this
        exact this.symm
      exact mg w τ0 S _ _ (fun τ2 S2 h => mt τ2 S2 _ _ (fun b S3 ⟨h1, h2⟩ => ⟨fun e => me τ2 S3 _ _ (fun y S4 p => ih (k + 1) _ S4 hj' hl' p) (h1 e), fun e => ih (k + 1) acc S3 hj' hl' (h2 e)⟩) h) (hs k w acc S h0 p)
  exact aux ws 0 [] S (fun j => by rw [Nat.zero_add]) (by simp) h0
/-- a comprehension of pure things over one name: filter by p, map by f -/
theorem lcGo_pure {i : Nat} {tt : TT3} {te : TE3} {τ0 : S3} {S : Sto} {Q : List W → Sto → Prop} (p : W → Bool) (f : W → W) : ∀ {ws : List W} {acc : List W}, (∀ w ∈ ws, ∀ A : Bool → Sto → Prop, A (p w) S → tt (τ0.set i (some w)) S A) → (∀ w ∈ ws, p w = true → ∀ A : K3, A (f w) S → te (τ0.set i (some w)) S A) →
    Q (acc ++ (ws.filter p).map f) S → lcGo (gName3 i) tt te τ0 ws acc S Q
  | [], acc, _, _, q => by
    have q : Q (acc ++ []) S := q
    rw [List.append_nil] at q
    exact q
  | w :: ws, acc, ht, he, q => by
    refine ht w List.mem_cons_self _ ⟨fun e => he w List.mem_cons_self e _ ?_, fun e => ?_⟩
    · refine lcGo_pure p f (fun w h => ht w (List.mem_cons_of_mem _ h)) (fun w h => he w (List.mem_cons_of_mem _ h)) ?_
      rw [List.filter_cons, if_pos e, List.map_cons] at q
      rw [List.append_assoc]
      exact q
    · refine lcGo_pure p f (fun w h => ht w (List.mem_cons_of_mem _ h)) (fun w h => he w (List.mem_cons_of_mem _ h)) ?_
      rw [List.filter_cons, if_neg (by rw [e]; exact Bool.false_ne_true)] at q
      exact q
theorem map_filter_true {α β : Type} (f : α → β) (l : List α) : (l.filter fun _ => true).map f = l.map f := by
  rw [List.filter_eq_self.mpr]; intro _ _; rfl
/-- .. without a test -/
theorem lcGo_map {i : Nat} {te : TE3} {τ0 : S3} {S : Sto} {Q : List W → Sto → Prop} (f : W → W) {ws acc : List W} (he : ∀ w ∈ ws, ∀ A : K3, A (f w) S → te (τ0.set i (some w)) S A) (q : Q (acc ++ ws.map f) S) : lcGo (gName3 i) tYes3 te τ0 ws acc S Q :=
  lcGo_pure (fun _ => true) f (fun _ _ _ a => a) (fun w h _ => he w h) (by rw [map_filter_true]; exact q)
end H3

namespace H3
open PySem PySem.Spec L2
open PyProof.Rows hiding St

/-! ### a law's draws -/
theorem ixW_r {S : Sto} {a : Addr} {ws : List W} {i : Int} (h : S a = some (.lst ws)) : ixW S i (.r a) = atI ws i := by
  show ((match S a with | some (.lst ws) => some ws | _ => none).bind fun ws => atI ws i) = _
  rw [h]; rfl
theorem isLst_r {S : Sto} {a : Addr} {ws : List W} (h : S a = some (.lst ws)) : isLst S (.r a) := .inr ⟨a, ws, rfl, h⟩
theorem lenW_r {S : Sto} {a : Addr} {ws : List W} (h : S a = some (.lst ws)) : lenW S (.r a) = some ws.length := by
  show ((match S a with | some (.lst ws) => some ws | _ => none).map List.length) = _
  rw [h]; rfl
theorem canLayAll_map {α : Type} (f : α → PyData) (h : ∀ x, (f x).canLay0 = true) : ∀ l : List α, PyData.canLayAll0 (l.map f) = true
  | [] => rfl
  | x :: l => by
    show (PyData.canLay0 (f x) && PyData.canLayAll0 (l.map f)) = true
    rw [h x, canLayAll_map f h l]; rfl
theorem depthAll_flat : ∀ l : List Int, PyData.depthAll (l.map PyData.int) = 0
  | [] => rfl
  | n :: l => by
    show max (PyData.depth (.int n)) (PyData.depthAll (l.map PyData.int)) = 0
    rw [depthAll_flat l]; rfl
theorem shaped_intsL (ns : List Int) : SeqAt.shaped (.list (ns.map PyData.int)) = true := by
  unfold SeqAt.shaped
  rw [show PyData.canLay0 (.list (ns.map PyData.int)) = PyData.canLayAll0 (ns.map PyData.int) from rfl, canLayAll_map _ (fun _ => rfl)]
  rw [show PyData.depth (.list (ns.map PyData.int)) = PyData.depthAll (ns.map PyData.int) + 1 from rfl, depthAll_flat]
  rfl
theorem shaped_intsT (ns : List Int) : SeqAt.shaped (.tuple (ns.map PyData.int)) = true := shaped_intsL ns
theorem eqv_int {a b : Int} : PyData.eqv (.int a) (.int b) = decide (a = b) := by
  show (a == b) = _
  rw [Bool.eq_iff_iff]; simp
theorem mw_ints (ns : List Int) : (ns.map PyData.int).map W.d = ns.map W.int := by rw [List.map_map]; rfl
theorem atI_nat {α : Type} {xs : List α} {i : Nat} {x : α} (h : xs[i]? = some x) : atI xs (i : Int) = some x := by
  have hl := (List.getElem?_eq_some_iff.mp h).1
  unfold atI ixN
  rw [if_pos (show (0 : Int) ≤ i by omega), if_pos (show (i : Int) < xs.length by omega)]
  exact h
theorem atI_of {α : Type} {xs : List α} {i : Int} (h0 : 0 ≤ i) (h : i < xs.length) : ∃ x, xs[i.toNat]? = some x ∧ atI xs i = some x := by
  have hl : i.toNat < xs.length := by omega
  refine ⟨xs[i.toNat], List.getElem?_eq_getElem hl, ?_⟩
  have z := atI_nat (List.getElem?_eq_getElem hl)
  rw [show ((i.toNat : Nat) : Int) = i by omega] at z
  exact z
theorem atI_last {α : Type} {xs : List α} {x : α} (h : xs[xs.length - 1]? = some x) : atI xs (-1) = some x := by
  have hl := (List.getElem?_eq_some_iff.mp h).1
  unfold atI ixN
  rw [if_neg (by omega), if_pos (by omega)]
  show xs[(-1 + (xs.length : Int)).toNat]? = _
  rw [show (-1 + (xs.length : Int)).toNat = xs.length - 1 by omega]
  exact h
def rb_law_deal_0 : TS3 := (tSet3 3 (tOp3 gMod (tCB3 gInt (tCons3 (tOp3 gAdd (tOp3 gAdd (tOp3 gMul (tVar3 3) (tC3 (.int 48271))) (tOp3 gMod (tVar3 4) (tC3 (.int 2147483579)))) (tC3 (.int 61))) tNil3)) (tC3 (.int 2147483647))))
def rd_law_deal : TS3 := (tSeq3 (tSet3 2 (tLcD3 (tSeqI3 (tSl3 gSlL (tVar3 0) tNoP3 (tPart3 (tC3 (.int 63))))) (gName3 4) tYes3 (tCB3 gAbs (tCons3 (tCB3 gInt (tCons3 (tVar3 4) tNil3)) tNil3)) [4])) (tSeq3 (tSet3 3 (tOp3 gAdd (tOp3 gMul (tC3 (.int 40127)) (tVar3 1)) (tC3 (.int 863)))) (tSeq3 (tFor3 (tSeqI3 (tVar3 2)) (gName3 4) rb_law_deal_0) (tRet3 (tLstM3 (tCons3 (tRevM3 (tLcD3 (tSeqI3 (tVar3 2)) (gName3 4) (tB3 (tOp3 gGe (tVar3 4) (tOp3 gPow (tC3 (.int 10)) (tC3 (.int 18))))) (tVar3 4) [4])) (tCons3 (tVar3 3) tNil3)))))))
def rd_law_any : TS3 := (tSeq3 (tWhile3 (tAnd3 (tB3 (tOp3 gNe (tOp3 gIx (tVar3 0) (tC3 (.int 0))) (tLstD3 tNil3))) (tB3 (tOp3 gEq (tOp3 gIx (tOp3 gIx (tVar3 0) (tC3 (.int 0))) (tNeg3 (tC3 (.int 1)))) (tC3 (.int 0))))) (tDrop3 (tBM03 gPop (tOp3 gIx (tVar3 0) (tC3 (.int 0)))))) (tSeq3 (tIf3 (tB3 (tOp3 gNe (tOp3 gIx (tVar3 0) (tC3 (.int 0))) (tLstD3 tNil3))) (tSeq3 (tSet3 2 (tCB3 gInt (tCons3 (tBM03 gPop (tOp3 gIx (tVar3 0) (tC3 (.int 0)))) tNil3))) (tSeq3 (tDrop3 (tBM3 gAppend (tOp3 gIx (tVar3 0) (tC3 (.int 0))) (tCons3 (tOp3 gDiv (tVar3 2) (tVar3 1)) tNil3))) (tRet3 (tOp3 gMod (tVar3 2) (tVar3 1))))) tNext3) (tSeq3 (tAsg3 (tOp3 gMod (tCB3 gInt (tCons3 (tOp3 gAdd (tOp3 gMul (tOp3 gIx (tVar3 0) (tC3 (.int 1))) (tC3 (.int 48271))) (tC3 (.int 83))) tNil3)) (tC3 (.int 2147483647))) (gSub3 (tVar3 0) (tC3 (.int 1)) gSetL)) (tRet3 (tOp3 gMod (tCB3 gInt (tCons3 (tOp3 gDiv (tOp3 gIx (tVar3 0) (tC3 (.int 1))) (tC3 (.int 64))) tNil3)) (tVar3 1))))))
--DEAL
/-- a deal: the list at dl holds a list of ints at d1, and a number -/
structure Deal (S : Sto) (dl d1 : Addr) : Prop where
  ne : dl ≠ d1
  top : ∃ m : Int, S dl = some (.lst [.r d1, .int m])
  low : ∃ ns : List Int, ns.length ≤ 63 ∧ S d1 = some (.lst (ns.map W.int))
theorem Deal.up {S S' : Sto} {dl d1 a : Addr} (h : Deal S dl d1) (u : ∀ b, b = dl ∨ b = d1 → S' b = S b) : Deal S' dl d1 := by
  obtain ⟨ne, ⟨m, t⟩, ⟨ns, hl, l⟩⟩ := h
  exact ⟨ne, ⟨m, by rw [u _ (.inl rfl)]; exact t⟩, ⟨ns, hl, by rw [u _ (.inr rfl)]; exact l⟩⟩
theorem Deal.up' {S S' : Sto} {dl d1 : Addr} (h : Deal S dl d1) (u : ∀ b, b = dl ∨ b = d1 → S' b = S b) : Deal S' dl d1 := h.up (a := dl) u
theorem Deal.new {S : Sto} {dl d1 p : Addr} {o : SO} (h : Deal S dl d1) (hp : S p = none) : Deal (put S p o) dl d1 := h.up' fun b e => put_ne fun q => by
  subst q
  obtain ⟨ne, ⟨m, t⟩, ⟨ns, hl, l⟩⟩ := h
  rcases e with e | e
  · rw [e, t] at hp; cases hp
  · rw [e, l] at hp; cases hp
theorem Deal.free {S : Sto} {dl d1 p : Addr} (h : Deal S dl d1) (hp : S p = none) : p ≠ dl ∧ p ≠ d1 := by
  obtain ⟨ne, ⟨m, t⟩, ⟨ns, hl, l⟩⟩ := h
  constructor
  · rintro rfl; rw [t] at hp; cases hp
  · rintro rfl; rw [l] at hp; cases hp
theorem Deal.other {S : Sto} {dl d1 p : Addr} {o : SO} (h : Deal S dl d1) (h1 : p ≠ dl) (h2 : p ≠ d1) : Deal (put S p o) dl d1 := h.up' fun b e => put_ne fun q => by
  subst q
  rcases e with e | e
  · exact h1 e
  · exact h2 e
def sq_law_deal : Sp3 := fun ws S Q _ => ∃ (ns : List Int) (b : Int), ws = [.lst (ns.map PyData.int), .int b] ∧ ns.length ≤ 63 ∧ ∀ dl d1 S', S dl = none → S d1 = none → Upto [dl, d1] S S' → Deal S' dl d1 → Q (.r dl) S'
def sp_law_deal : Sp3 := fun ws S Q E => Bx (sq_law_deal ws S Q E)
def sq_law_any : Sp3 := fun ws S Q _ => ∃ (dl d1 : Addr) (b : Int), ws = [.r dl, .int b] ∧ 0 < b ∧ b.natAbs.log2 < 9000 ∧ Deal S dl d1 ∧ ∀ r S', 0 ≤ r → r < b → Upto [dl, d1] S S' → Deal S' dl d1 → Q (.int r) S'
def sp_law_any : Sp3 := fun ws S Q E => Bx (sq_law_any ws S Q E)
theorem len_law_deal : ∀ ws S Q E, sp_law_deal ws S Q E → ws.length = 2 := fun ws S Q E ⟨ns, b, e, _⟩ => by rw [e]; rfl
theorem len_law_any : ∀ ws S Q E, sp_law_any ws S Q E → ws.length = 2 := fun ws S Q E ⟨dl, d1, b, e, _⟩ => by rw [e]; rfl
theorem eqv_nil (ns : List Int) : PyData.eqv (.list (ns.map PyData.int)) (.list []) = decide (ns = []) := by
  cases ns with
  | nil => rfl
  | cons n ns => rfl
theorem cutG_none_len {α : Type} (xs : List α) (hi : Option Int) : (cutG xs none hi).length ≤ xs.length := by
  unfold cutG
  simp only [List.length_take, List.length_drop]
  omega
theorem cutG_map {α β : Type} (f : α → β) (xs : List α) (lo hi : Option Int) : cutG (xs.map f) lo hi = (cutG xs lo hi).map f := by
  unfold cutG
  rw [List.length_map, List.map_take, List.map_drop]
theorem sem_law_deal : ∀ ws S Q E, sp_law_deal ws S Q E → rd_law_deal (DQ Q) (start3 5 ws E) S := fun ws S Q E ⟨ns, b, e, hl, hQ⟩ => by
  subst e
  refine ⟨_, rfl, _, rfl, ns.map PyData.int, rfl, _, .inl rfl, ?_, ?_⟩
  · rw [List.length_map]
    have z := cutG_none_len (ns.map PyData.int) (some 63)
    rw [List.length_map] at z
    omega
  rw [cutG_map, mw_ints]
  have hcl := cutG_none_len ns (some 63)
  refine lcGo_map (fun w => match w with | .d (.int i) => .int (if i < 0 then -i else i) | w => w) ?_ ?_
  · intro w hw A a
    obtain ⟨i, hi, rfl⟩ := List.mem_map.mp hw
    exact ⟨_, rfl, i, rfl, i, rfl, a⟩
  · refine ⟨((cutG ns none (some 63)).map fun i => if i < 0 then -i else i).map PyData.int, by rw [List.map_map, List.map_map, List.map_map]; rfl, ?_⟩
    generalize hcs : ((cutG ns none (some 63)).map fun i => if i < 0 then -i else i) = cs
    have hcsl : cs.length ≤ 63 := by rw [← hcs, List.length_map]; omega
    refine ⟨_, rfl, _, _, rfl, rfl, .inl ⟨by decide, by decide⟩, _, _, rfl, rfl, _, rfl, _, .inl rfl, ?_⟩
    refine forGo_inv (fun _ τ S' => S' = S ∧ ∃ m w, τ.sl = [some (.lst (ns.map PyData.int)), some (.int b), some (.lst (cs.map PyData.int)), some (.int m), w]) ⟨rfl, _, _, rfl⟩ ?_ ?_
    · rintro i w ⟨sl, ex⟩ S' hw ⟨rfl, m, w4, e⟩
      subst e
      rw [mw_ints, List.getElem?_map] at hw
      obtain ⟨n, hn, rfl⟩ : ∃ n, cs[i]? = some n ∧ W.int n = w := by
        cases h : cs[i]? with
        | none => rw [h] at hw; cases hw
        | some n => rw [h] at hw; exact ⟨n, rfl, Option.some.inj hw⟩
      exact ⟨_, rfl, _, _, rfl, rfl, .inr ⟨by decide, by decide⟩, _, rfl, _, _, rfl, rfl, (show (0 : Int) < 2147483579 by decide), _, _, rfl, rfl, _, _, rfl, rfl, _, rfl, _, _, rfl, rfl, (show (0 : Int) < 2147483647 by decide), rfl, _, _, rfl⟩
    · rintro ⟨sl, ex⟩ S' ⟨rfl, m, w4, e⟩
      subst e
      refine ⟨_, rfl, _, .inl rfl, by rw [List.length_map, List.length_map]; omega, ?_⟩
      rw [mw_ints]
      refine lcGo_pure (fun w => match w with | .d (.int i) => decide ((10 : Int) ^ (18 : Int).toNat ≤ i) | _ => false) id ?_ ?_ ?_
      · intro w hw A a
        obtain ⟨i, hi, rfl⟩ := List.mem_map.mp hw
        exact ⟨_, rfl, _, _, rfl, rfl, ⟨by decide, by decide, by decide⟩, _, _, rfl, rfl, _, rfl, a⟩
      · intro w hw hp A a
        exact ⟨_, rfl, a⟩
      · have e : ([] ++ ((cs.map W.int).filter fun w => match w with | .d (.int i) => decide ((10 : Int) ^ (18 : Int).toNat ≤ i) | _ => false).map id) = ((cs.filter fun i => decide ((10 : Int) ^ (18 : Int).toNat ≤ i)).map PyData.int).map W.d := by
          rw [List.nil_append, List.map_id, List.filter_map, List.map_map]; rfl
        refine ⟨_, e, _, ⟨_, rfl, rfl⟩, fun p hp => ?_⟩
        generalize hgs : (cs.filter fun i => decide ((10 : Int) ^ (18 : Int).toNat ≤ i)) = gs
        have hgl : gs.length ≤ 63 := by rw [← hgs]; exact Nat.le_trans (List.length_filter_le _ _) hcsl
        refine ⟨_, rfl, (show 2 ≤ 1000 by decide), fun q hq => ⟨_, Sub.refl _, ?_⟩⟩
        have hqp : p ≠ q := by rintro rfl; rw [put_same] at hq; cases hq
        refine hQ q p _ (by rw [← hq, put_ne hqp.symm]) hp ((Upto.put (Upto.refl) (by simp)).put (by simp)) ⟨hqp.symm, ⟨_, put_same⟩, gs.reverse, by rw [List.length_reverse]; exact hgl, ?_⟩
        rw [put_ne hqp, put_same, mw_ints, List.map_reverse]
theorem sem_law_any : ∀ ws S Q E, sp_law_any ws S Q E → rd_law_any (DQ Q) (start3 3 ws E) S := fun ws S Q E ⟨dl, d1, b, e, hb, hb2, hD, hQ⟩ => by
  subst e
  refine ⟨fun k τ S' => τ.sl = [some (.r dl), some (.int b), none] ∧ Upto [dl, d1] S S' ∧ Deal S' dl d1 ∧ ∃ ns : List Int, ns.length = k ∧ S' d1 = some (.lst (ns.map W.int)), ?_, ?_⟩
  · obtain ⟨ns, _, h⟩ := hD.low
    exact ⟨_, rfl, Upto.refl, hD, ns, rfl, h⟩
  rintro k ⟨sl, ex⟩ S' ⟨e, u, hD', ns, hk, h1⟩
  subst e
  obtain ⟨ne, ⟨m, ht⟩, ns', hl', h1'⟩ := id hD'
  rw [h1] at h1'
  have hl : ns.length ≤ 63 := by
    have z : ns.map W.int = ns'.map W.int := by injection (Option.some.inj h1')
    have z2 := congrArg List.length z
    rw [List.length_map, List.length_map] at z2
    omega
  have i0 : ixW S' 0 (.r dl) = some (.r d1) := by rw [ixW_r ht]; rfl
  have i1 : ixW S' 1 (.r dl) = some (.int m) := by rw [ixW_r ht]; rfl
  have vw : viewW S' (.r d1) = some (.list (ns.map PyData.int)) := view_lst (by rw [mw_ints]; exact h1)
  refine ⟨_, rfl, _, _, rfl, i0, [], rfl, by decide, .inr ⟨_, _, vw, rfl, shaped_intsL ns, shaped_intsL [], _, rfl, fun hc => ?_, fun hc => ?_⟩⟩
  · rw [eqv_nil] at hc
    have hn : ns ≠ [] := by simpa using hc
    have hpos : 0 < ns.length := List.length_pos_iff.mpr hn
    have hlast : (ns.map W.int)[(ns.map W.int).length - 1]? = some (.int (ns[ns.length - 1])) := by
      rw [List.length_map, List.getElem?_map, List.getElem?_eq_getElem (by omega)]; rfl
    have il : ixW S' (-1) (.r d1) = some (.int (ns[ns.length - 1])) := by rw [ixW_r h1]; exact atI_last hlast
    refine ⟨_, rfl, _, _, rfl, i0, _, rfl, _, _, rfl, il, .inr ⟨_, _, rfl, rfl, rfl, rfl, _, rfl, fun hz => ?_, fun hz => ?_⟩⟩
    · refine ⟨fun τ2 S2 => ∃ m', m' < k ∧ τ2.sl = [some (.r dl), some (.int b), none] ∧ Upto [dl, d1] S S2 ∧ Deal S2 dl d1 ∧ ∃ ns : List Int, ns.length = m' ∧ S2 d1 = some (.lst (ns.map W.int)), fun τ2 S2 h => h, ?_⟩
      refine ⟨_, rfl, _, _, rfl, i0, isLst_r h1, d1, _, _, rfl, rfl, h1, hlast, ns.length - 1, by omega, rfl, u.put (by simp), ⟨ne, ⟨m, by rw [put_ne ne]; exact ht⟩, ns.dropLast, by rw [List.length_dropLast]; omega, by rw [put_same, List.map_dropLast]⟩, ns.dropLast, by rw [List.length_dropLast], by rw [put_same, List.map_dropLast]⟩
    · -- the last is not 0
      refine ⟨_, rfl, _, _, rfl, i0, [], rfl, by decide, .inr ⟨_, _, vw, rfl, shaped_intsL ns, shaped_intsL [], _, rfl, fun _ => ?_, fun hc2 => ?_⟩⟩
      · generalize hx : ns[ns.length - 1] = x at *
        refine ⟨_, rfl, _, _, rfl, i0, isLst_r h1, d1, _, _, rfl, rfl, h1, hlast, x, rfl, ?_⟩
        have h2 : put S' d1 (.lst (ns.map W.int).dropLast) d1 = some (.lst (ns.map W.int).dropLast) := put_same
        have i2 : ixW (put S' d1 (.lst (ns.map W.int).dropLast)) 0 (.r dl) = some (.r d1) := by rw [ixW_r (by rw [put_ne ne]; exact ht)]; rfl
        refine ⟨_, rfl, _, _, rfl, i2, isLst_r h2, _, rfl, _, rfl, _, _, rfl, rfl, ⟨hb, hb2⟩, d1, _, _, rfl, rfl, h2, ?_, ?_⟩
        · rw [List.length_dropLast, List.length_map]; exact Nat.lt_of_le_of_lt (show ns.length - 1 ≤ 63 by omega) (by decide)
        refine ⟨_, rfl, _, rfl, _, _, rfl, rfl, hb, _, Sub.refl _, hQ _ _ (Int.emod_nonneg _ (by omega)) (Int.emod_lt_of_pos _ hb) ((u.put (by simp)).put (by simp)) ⟨ne, ⟨m, by rw [put_ne ne, put_ne ne]; exact ht⟩, ns.dropLast ++ [x / b], ?_, ?_⟩⟩
        · rw [List.length_append, List.length_dropLast, List.length_singleton]; omega
        · rw [put_same, List.map_append, List.map_dropLast]; rfl
      · rw [eqv_nil, hc] at hc2; cases hc2
  · -- nothing is left
    rw [eqv_nil] at hc
    refine ⟨fun z => (nomatch z), fun _ => ?_⟩
    refine ⟨_, rfl, _, _, rfl, i0, [], rfl, by decide, .inr ⟨_, _, vw, rfl, shaped_intsL ns, shaped_intsL [], _, rfl, fun hc2 => ?_, fun _ => ?_⟩⟩
    · rw [eqv_nil, hc] at hc2; cases hc2
    · have t2 : put S' dl (.lst ([W.r d1, W.int m].set 1 (.int ((m * 48271 + 83) % 2147483647)))) dl = some (.lst [.r d1, .int ((m * 48271 + 83) % 2147483647)]) := put_same
      have i2 : ixW (put S' dl (.lst ([W.r d1, W.int m].set 1 (.int ((m * 48271 + 83) % 2147483647))))) 1 (.r dl) = some (.int ((m * 48271 + 83) % 2147483647)) := by rw [ixW_r t2]; rfl
      refine ⟨_, rfl, _, _, rfl, i1, _, _, rfl, rfl, .inr ⟨by decide, by decide⟩, _, _, rfl, rfl, _, rfl, _, _, rfl, rfl, (show (0 : Int) < 2147483647 by decide), _, rfl, dl, _, _, 1, rfl, rfl, ht, rfl, ?_⟩
      exact ⟨_, rfl, _, _, rfl, i2, _, _, rfl, rfl, ⟨by decide, by decide⟩, _, rfl, _, rfl, _, _, rfl, rfl, hb, _, Sub.refl _, hQ _ _ (Int.emod_nonneg _ (by omega)) (Int.emod_lt_of_pos _ hb) (u.put (by simp)) ⟨ne, ⟨_, t2⟩, ns, hl, by rw [put_ne ne.symm]; exact h1⟩⟩
def rd_law_of : TS3 := (tRet3 (tOp3 gIx (tVar3 1) (tCall3 sp_law_any (tCons3 (tVar3 0) (tCons3 (tCB3 gLen (tCons3 (tVar3 1) tNil3)) tNil3)))))
--OF
theorem t : True := trivial

end H3

namespace H3
open PySem PySem.Spec L2
open PyProof.Rows hiding St

theorem un70 {k : Nat} {A : Around} (hr : Room k A) : A.units + 70 < cLine := by have := hr.un; omega
theorem un64 {k : Nat} {A : Around} (hr : Room k A) : A.units + 64 < cLine := by have := hr.un; omega
/-! ### data that is small -/
structure Fine (k w : Nat) (x : PyData) : Prop where
  lay : x.canLay0 = true
  dep : x.depth ≤ k
  sho : x.showable = true
  int : x.intsShort 60 = true
  wgt : x.weight ≤ w
theorem Fine.mono {k w k' w' : Nat} {x : PyData} (h : Fine k w x) (hk : k ≤ k' := by decide) (hw : w ≤ w' := by decide) : Fine k' w' x := ⟨h.lay, Nat.le_trans h.dep hk, h.sho, h.int, Nat.le_trans h.wgt hw⟩
theorem Fine.ofInt {i : Int} (h : i.natAbs < 10 ^ 50) : Fine 0 200 (.int i) := by
  have hl : i.natAbs.log2 < 190 := by
    by_cases h0 : i.natAbs = 0
    · rw [h0]; decide
    · exact (Nat.log2_lt h0).mpr (Nat.lt_of_lt_of_le h (by decide))
  refine ⟨rfl, Nat.le_refl _, decide_eq_true (show i.natAbs.log2 < 1920 by omega), decide_eq_true ?_, ?_⟩
  · have e := PySem.int_text_length_le10 (k := 50) (by decide) h
    show (Str.ofString (toString i)).length ≤ 60
    rw [PySem.ofString_length]; omega
  · show (if i == 0 then 0 else i.natAbs.log2 + 1) ≤ 200
    split <;> omega
theorem Fine.bool {b : Bool} : Fine 0 0 (.bool b) := ⟨rfl, Nat.le_refl _, rfl, rfl, Nat.le_refl _⟩
theorem Fine.none : Fine 0 0 .none := ⟨rfl, Nat.le_refl _, rfl, rfl, Nat.le_refl _⟩
theorem fine_all {k w : Nat} : ∀ {ds : List PyData}, (∀ x ∈ ds, Fine k w x) → PyData.canLayAll0 ds = true ∧ PyData.depthAll ds ≤ k ∧ PyData.showableAll ds = true ∧ PyData.intsShortAll 60 ds = true ∧ PyData.weightAll ds ≤ (w + 1) * ds.length
  | [], _ => ⟨rfl, Nat.zero_le _, rfl, rfl, Nat.zero_le _⟩
  | x :: ds, h => by
    have h0 := h x List.mem_cons_self
    obtain ⟨a, b, c, d, e⟩ := fine_all fun y hy => h y (List.mem_cons_of_mem _ hy)
    refine ⟨?_, ?_, ?_, ?_, ?_⟩
    · show (x.canLay0 && PyData.canLayAll0 ds) = true
      rw [h0.lay, a]; rfl
    · show max x.depth (PyData.depthAll ds) ≤ k
      exact Nat.max_le.mpr ⟨h0.dep, b⟩
    · show (x.showable && PyData.showableAll ds) = true
      rw [h0.sho, c]; rfl
    · show (x.intsShort 60 && PyData.intsShortAll 60 ds) = true
      rw [h0.int, d]; rfl
    · show x.weight + 1 + PyData.weightAll ds ≤ (w + 1) * (ds.length + 1)
      have := h0.wgt
      rw [Nat.mul_add, Nat.mul_one]; omega
theorem Fine.list {k w n : Nat} {ds : List PyData} (h : ∀ x ∈ ds, Fine k w x) (hn : (w + 1) * ds.length ≤ n) : Fine (k + 1) n (.list ds) := by
  obtain ⟨a, b, c, d, e⟩ := fine_all h
  exact ⟨a, Nat.succ_le_succ b, c, d, Nat.le_trans e hn⟩
theorem Fine.tuple {k w n : Nat} {ds : List PyData} (h : ∀ x ∈ ds, Fine k w x) (hn : (w + 1) * ds.length ≤ n) : Fine (k + 1) n (.tuple ds) := by
  obtain ⟨a, b, c, d, e⟩ := fine_all h
  exact ⟨a, Nat.succ_le_succ b, c, d, Nat.le_trans e hn⟩
theorem Fine.shaped {k w : Nat} {x : PyData} (h : Fine k w x) (hk : k ≤ 64 := by decide) : SeqAt.shaped x = true := by
  unfold SeqAt.shaped
  rw [h.lay, Bool.true_and]
  exact decide_eq_true (Nat.le_trans h.dep hk)
theorem Fine.len {k w : Nat} {x : PyData} (h : Fine k w x) (hw : w ≤ 200000 := by decide) : x.shown.length ≤ sizeLine := by
  have z := PyData.shown_le 60 (by decide) x (PyData.leavesShort_of_canLay0 60 x h.lay h.int)
  have h1 := h.wgt
  have e : sizeLine = 16777216 := by decide
  omega
/-- repr of such -/
theorem Fine.repr {k w : Nat} {x : PyData} {u : W} {S : Sto} {Q : K3} (h : Fine k w x) (hv : viewW S u = some x) (q : Q (.str x.shown) S) (hk : k ≤ 64 := by decide) (hw : w ≤ 200000 := by decide) : gRepr [u] S Q :=
  ⟨u, x, rfl, hv, h.sho, PyData.hasDict_of_canLay x h.lay, Nat.le_trans h.dep hk, h.len hw, q⟩
theorem repr_bl {b : Bool} {S : Sto} {Q : K3} (q : Q (.str (PyData.bool b).shown) S) : gRepr [.bl b] S Q := (Fine.bool (b := b)).repr rfl q
theorem shown_bl {a b : Bool} : (PyData.bool a).shown = (PyData.bool b).shown ↔ a = b := by
  cases a <;> cases b <;> simp <;> decide +kernel

/-! ### one of some things -/
def sq_law_of : Sp3 := fun ws S Q _ => ∃ (dl d1 : Addr) (w : W) (n : Nat), ws = [.r dl, w] ∧ lenW S w = some n ∧ 0 < n ∧ n.log2 < 9000 ∧ Deal S dl d1 ∧ ∀ (i : Int) S', 0 ≤ i → i < n → Upto [dl, d1] S S' → Deal S' dl d1 → ∃ x, ixW S' i w = some x ∧ Q x S'
def sp_law_of : Sp3 := fun ws S Q E => Bx (sq_law_of ws S Q E)
theorem len_law_of : ∀ ws S Q E, sp_law_of ws S Q E → ws.length = 2 := fun ws S Q E ⟨dl, d1, w, n, e, _⟩ => by rw [e]; rfl
theorem sem_law_of : ∀ ws S Q E, sp_law_of ws S Q E → rd_law_of (DQ Q) (start3 2 ws E) S := fun ws S Q E ⟨dl, d1, w, n, e, hn, h0, h9, hD, hQ⟩ => by
  subst e
  refine ⟨_, rfl, _, rfl, _, rfl, w, n, rfl, hn, dl, d1, n, rfl, by omega, by simpa using h9, hD, fun r S' r0 r1 u hD' => ?_⟩
  obtain ⟨x, hx, q⟩ := hQ r S' r0 r1 u hD'
  exact ⟨r, x, rfl, hx, _, Sub.refl _, q⟩
theorem law_of_list {dl d1 : Addr} {ds : List PyData} {S : Sto} {Q : K3} {E : X3} (hD : Deal S dl d1) (h0 : ds ≠ []) (hl : ds.length < 2 ^ 60) (q : ∀ d ∈ ds, ∀ S', Upto [dl, d1] S S' → Deal S' dl d1 → Q (.d d) S') : sp_law_of [.r dl, .lst ds] S Q E := by
  have hp := List.length_pos_iff.mpr h0
  refine ⟨dl, d1, _, ds.length, rfl, ?_, hp, ?_, hD, fun i S' i0 i1 u hD' => ?_⟩
  · show some (ds.map W.d).length = _
    rw [List.length_map]
  · exact Nat.lt_trans ((Nat.log2_lt (by omega)).mpr hl) (by decide)
  · obtain ⟨x, hx, hi⟩ := atI_of (xs := ds.map W.d) i0 (by rw [List.length_map]; exact i1)
    rw [List.getElem?_map] at hx
    cases hd : ds[i.toNat]? with
    | none => rw [hd] at hx; cases hx
    | some d =>
      rw [hd] at hx
      cases hx
      exact ⟨_, hi, q d (List.mem_of_getElem? hd) S' u hD'⟩
theorem law_of_tup {dl d1 : Addr} {ds : List PyData} {S : Sto} {Q : K3} {E : X3} (hD : Deal S dl d1) (h0 : ds ≠ []) (hl : ds.length < 2 ^ 60) (q : ∀ d ∈ ds, ∀ S', Upto [dl, d1] S S' → Deal S' dl d1 → Q (.d d) S') : sp_law_of [.r dl, .tup ds] S Q E := by
  have hp := List.length_pos_iff.mpr h0
  refine ⟨dl, d1, _, ds.length, rfl, ?_, hp, ?_, hD, fun i S' i0 i1 u hD' => ?_⟩
  · show some (ds.map W.d).length = _
    rw [List.length_map]
  · exact Nat.lt_trans ((Nat.log2_lt (by omega)).mpr hl) (by decide)
  · obtain ⟨x, hx, hi⟩ := atI_of (xs := ds.map W.d) i0 (by rw [List.length_map]; exact i1)
    rw [List.getElem?_map] at hx
    cases hd : ds[i.toNat]? with
    | none => rw [hd] at hx; cases hx
    | some d =>
      rw [hd] at hx
      cases hx
      exact ⟨_, hi, q d (List.mem_of_getElem? hd) S' u hD'⟩
/-- a number -/
theorem log_lt {b : Int} (h0 : 0 < b) (hb : b < 2 ^ 200) : b.natAbs.log2 < 9000 := by
  have h : b.natAbs < 2 ^ 200 := by omega
  exact Nat.lt_trans ((Nat.log2_lt (by omega)).mpr h) (by decide)
theorem law_any_lt {dl d1 : Addr} {b : Int} {S : Sto} {Q : K3} {E : X3} (hD : Deal S dl d1) (h0 : 0 < b) (hb : b < 2 ^ 200) (q : ∀ r S', 0 ≤ r → r < b → Upto [dl, d1] S S' → Deal S' dl d1 → Q (.int r) S') : sp_law_any [.r dl, .int b] S Q E :=
  ⟨dl, d1, b, rfl, h0, log_lt h0 hb, hD, q⟩
theorem mono_law_any {ws : List W} {S : Sto} {A B : K3} {E E' : X3} (m : ∀ w S, A w S → B w S) : sp_law_any ws S A E → sp_law_any ws S B E' := fun ⟨dl, d1, b, e, h1, h2, h3, q⟩ => ⟨dl, d1, b, e, h1, h2, h3, fun r S' a b c d => m _ _ (q r S' a b c d)⟩
theorem Upto.drp {as : List Addr} {S S1 : Sto} {a : Addr} (u : Upto (a :: as) S S1) (h : S a = none) : Upto as S (drp S1 a) := fun c hc => by
  by_cases e : c = a
  · subst e; rw [drp_same, h]
  · rw [drp_ne e]
    exact u c (by simp [e, hc])
theorem Upto.more {as bs : List Addr} {S S1 : Sto} (u : Upto as S S1) (h : ∀ a ∈ as, a ∈ bs) : Upto bs S S1 := fun c hc => u c fun q => hc (h c q)
theorem Upto.new {as : List Addr} {S S1 : Sto} {a : Addr} {o : SO} (u : Upto as S S1) : Upto (a :: as) S (H3.put S1 a o) := (u.more fun _ h => List.mem_cons_of_mem _ h).put List.mem_cons_self
theorem sub_drp {S : Sto} {a : Addr} : Sub (drp S a) S := fun b p h => by
  by_cases e : b = a
  · subst e; rw [drp_same] at h; cases h
  · rw [drp_ne e] at h; exact h
theorem Deal.drp {S : Sto} {dl d1 a : Addr} (h : Deal S dl d1) (h1 : a ≠ dl) (h2 : a ≠ d1) : Deal (drp S a) dl d1 := h.up' fun b e => drp_ne fun q => by
  subst q
  rcases e with e | e
  · exact h1 e
  · exact h2 e
theorem nodup_len {L M : List Int} (h1 : L.Nodup) (h2 : M.Nodup) (h : ∀ k, k ∈ L ↔ k ∈ M) : L.length = M.length :=
  Nat.le_antisymm (h1.length_le_of_subset fun k hk => (h k).mp hk) (h2.length_le_of_subset fun k hk => (h k).mpr hk)
end H3

namespace H3
open PySem PySem.Spec L2
open PyProof.Rows hiding St
/-! ### what the program's defs do -/
def btw : PyData → Int → Int → Bool
  | .int i, lo, hi => decide (lo ≤ i) && decide (i ≤ hi)
  | _, _, _ => false
def isI : PyData → Bool
  | .int _ => true
  | _ => false
def isMap : PyData → Bool
  | .tuple ds => decide (1 ≤ ds.length) && decide (ds.length ≤ 12) && ds.all fun d => btw d 0 (ds.length - 1)
  | _ => false
/-- data without dicts -/
def flatD : PyData → Bool
  | .dict _ => false
  | _ => true
def sq_is_int : Sp3 := fun ws S Q _ => ∃ d, ws = [.d d] ∧ flatD d = true ∧ Q (.bl (isI d)) S
def sp_is_int : Sp3 := fun ws S Q E => Bx (sq_is_int ws S Q E)
def sq_is_between : Sp3 := fun ws S Q _ => ∃ d lo hi, ws = [.d d, .int lo, .int hi] ∧ flatD d = true ∧ Q (.bl (btw d lo hi)) S
def sp_is_between : Sp3 := fun ws S Q E => Bx (sq_is_between ws S Q E)
def sq_is_map : Sp3 := fun ws S Q _ => ∃ d, ws = [.d d] ∧ d.canLay0 = true ∧ Q (.bl (isMap d)) S
def sp_is_map : Sp3 := fun ws S Q E => Bx (sq_is_map ws S Q E)
def sq_is_turning : Sp3 := fun ws S Q _ => ∃ ns : List Int, ws = [.tup (ns.map PyData.int)] ∧ ns.length ≤ 1000 ∧ ∀ L : List Int, L.Nodup → (∀ k, k ∈ L ↔ k ∈ ns) → Q (.bl (decide (L.length = ns.length))) S
def sp_is_turning : Sp3 := fun ws S Q E => Bx (sq_is_turning ws S Q E)
def sq_is_setting : Sp3 := fun ws S Q _ => ∃ ns : List Int, ws = [.tup (ns.map PyData.int)] ∧ ns.length ≤ 1000 ∧ ∀ L : List Int, L.Nodup → (∀ k, k ∈ L ↔ k ∈ ns) → Q (.bl (decide (L.length = 1))) S
def sp_is_setting : Sp3 := fun ws S Q E => Bx (sq_is_setting ws S Q E)
def sq_still : Sp3 := fun ws S Q _ => ∃ n : Int, ws = [.int n] ∧ 0 ≤ n ∧ n ≤ 1000 ∧ Q (.tup (rgD 0 n)) S
def sp_still : Sp3 := fun ws S Q E => Bx (sq_still ws S Q E)
theorem len_is_int : ∀ ws S Q E, sp_is_int ws S Q E → ws.length = 1 := fun ws S Q E ⟨d, e, _⟩ => by rw [e]; rfl
theorem len_is_between : ∀ ws S Q E, sp_is_between ws S Q E → ws.length = 3 := fun ws S Q E ⟨d, _, _, e, _⟩ => by rw [e]; rfl
theorem len_is_map : ∀ ws S Q E, sp_is_map ws S Q E → ws.length = 1 := fun ws S Q E ⟨d, e, _⟩ => by rw [e]; rfl
theorem len_is_turning : ∀ ws S Q E, sp_is_turning ws S Q E → ws.length = 1 := fun ws S Q E ⟨d, e, _⟩ => by rw [e]; rfl
theorem len_is_setting : ∀ ws S Q E, sp_is_setting ws S Q E → ws.length = 1 := fun ws S Q E ⟨d, e, _⟩ => by rw [e]; rfl
theorem len_still : ∀ ws S Q E, sp_still ws S Q E → ws.length = 1 := fun ws S Q E ⟨d, e, _⟩ => by rw [e]; rfl
def rd_is_int : TS3 := (tRet3 (tAndV3 (tCB3 gIsi (tCons3 (tVar3 0) (tCons3 (tC3 (.ty "int")) tNil3))) (tNotV3 (tCB3 gIsi (tCons3 (tVar3 0) (tCons3 (tC3 (.ty "bool")) tNil3))))))
theorem isi_int {d : PyData} (h : flatD d = true) : ∃ b, isiB d "int" = some b ∧ (b = false → isI d = false) ∧ (b = true → ∃ c, isiB d "bool" = some c ∧ isI d = !c) := by
  cases d with
  | none => exact ⟨false, show kitB "NoneType" "int" = _ by decide +kernel, fun _ => rfl, fun h => (nomatch h)⟩
  | bool b => exact ⟨true, show kitB "bool" "int" = _ by decide +kernel, fun h => (nomatch h), fun _ => ⟨true, show kitB "bool" "bool" = _ by decide +kernel, rfl⟩⟩
  | int i => exact ⟨true, show kitB "int" "int" = _ by decide +kernel, fun h => (nomatch h), fun _ => ⟨false, show kitB "int" "bool" = _ by decide +kernel, rfl⟩⟩
  | str x => exact ⟨false, show kitB "str" "int" = _ by decide +kernel, fun _ => rfl, fun h => (nomatch h)⟩
  | list l => exact ⟨false, show kitB "list" "int" = _ by decide +kernel, fun _ => rfl, fun h => (nomatch h)⟩
  | tuple l => exact ⟨false, show kitB "tuple" "int" = _ by decide +kernel, fun _ => rfl, fun h => (nomatch h)⟩
  | dict l => cases h
theorem sem_is_int : ∀ ws S Q E, sp_is_int ws S Q E → rd_is_int (DQ Q) (start3 1 ws E) S := fun ws S Q E ⟨d, e, hd, q⟩ => by
  subst e
  obtain ⟨b, hb, h0, h1⟩ := isi_int hd
  refine ⟨_, rfl, _, d, _, b, rfl, rfl, hb, b, rfl, fun e => ?_, fun e => ⟨_, Sub.refl _, by rw [← h0 e]; exact q⟩⟩
  obtain ⟨c, hc, e2⟩ := h1 e
  exact ⟨_, rfl, _, d, _, c, rfl, rfl, hc, c, rfl, _, Sub.refl _, by rw [← e2]; exact q⟩
def rd_is_between : TS3 := (tRet3 (tAndV3 (tCall3 sp_is_int (tCons3 (tVar3 0) tNil3)) (tChain3 gLe gLe (tVar3 1) (tVar3 0) (tVar3 2))))
theorem btw_of {d : PyData} {lo hi : Int} : isI d = false → btw d lo hi = false := fun h => by
  cases d <;> first | rfl | cases h
theorem sem_is_between : ∀ ws S Q E, sp_is_between ws S Q E → rd_is_between (DQ Q) (start3 3 ws E) S := fun ws S Q E ⟨d, lo, hi, e, hd, q⟩ => by
  subst e
  refine ⟨_, rfl, d, rfl, hd, isI d, rfl, fun e => ?_, fun e => ⟨_, Sub.refl _, by rw [← btw_of e]; exact q⟩⟩
  cases d with
  | int i =>
    refine ⟨_, rfl, _, rfl, _, _, rfl, rfl, _, rfl, fun h => ?_, fun h => ⟨_, Sub.refl _, ?_⟩⟩
    · refine ⟨_, rfl, _, _, rfl, rfl, _, Sub.refl _, ?_⟩
      have e : btw (.int i) lo hi = decide (i ≤ hi) := by show (decide (lo ≤ i) && decide (i ≤ hi)) = _; rw [h]; rfl
      show Q (.bl (decide (i ≤ hi))) S
      rw [← e]; exact q
    · have e : btw (.int i) lo hi = false := by show (decide (lo ≤ i) && decide (i ≤ hi)) = _; rw [h]; rfl
      rw [← e]; exact q
  | _ => cases e
def rd_is_map : TS3 := (tSeq3 (tIf3 (tOr3 (tNot3 (tB3 (tCB3 gIsi (tCons3 (tVar3 0) (tCons3 (tC3 (.ty "tuple")) tNil3))))) (tNot3 (tB3 (tChain3 gLe gLe (tC3 (.int 1)) (tCB3 gLen (tCons3 (tVar3 0) tNil3)) (tC3 (.int 12)))))) (tRet3 (tC3 (.bl false))) tNext3) (tRet3 (tCB3 gAll (tCons3 (tLcD3 (tSeqI3 (tVar3 0)) (gName3 1) tYes3 (tCall3 sp_is_between (tCons3 (tVar3 1) (tCons3 (tC3 (.int 0)) (tCons3 (tOp3 gSub (tCB3 gLen (tCons3 (tVar3 0) tNil3)) (tC3 (.int 1))) tNil3)))) [1]) tNil3))))
theorem canLayAll_mem : ∀ {ds : List PyData}, PyData.canLayAll0 ds = true → ∀ d ∈ ds, d.canLay0 = true
  | [], _, d, hd => by cases hd
  | x :: ds, h, d, hd => by
    have h : (x.canLay0 && PyData.canLayAll0 ds) = true := h
    rw [Bool.and_eq_true] at h
    rcases List.mem_cons.mp hd with e | e
    · rw [e]; exact h.1
    · exact canLayAll_mem h.2 d e
theorem flat_of {d : PyData} (h : d.canLay0 = true) : flatD d = true := by
  cases d <;> first | rfl | exact (nomatch h)
theorem isi_tup {d : PyData} (h : d.canLay0 = true) : ∃ b, isiB d "tuple" = some b ∧ (b = true → ∃ ds, d = .tuple ds) ∧ (b = false → ∀ ds, d ≠ .tuple ds) := by
  cases d with
  | none => exact ⟨false, show kitB "NoneType" "tuple" = _ by decide +kernel, fun h => (nomatch h), fun _ _ h => (nomatch h)⟩
  | bool b => exact ⟨false, show kitB "bool" "tuple" = _ by decide +kernel, fun h => (nomatch h), fun _ _ h => (nomatch h)⟩
  | int i => exact ⟨false, show kitB "int" "tuple" = _ by decide +kernel, fun h => (nomatch h), fun _ _ h => (nomatch h)⟩
  | str x => exact ⟨false, show kitB "str" "tuple" = _ by decide +kernel, fun h => (nomatch h), fun _ _ h => (nomatch h)⟩
  | list l => exact ⟨false, show kitB "list" "tuple" = _ by decide +kernel, fun h => (nomatch h), fun _ _ h => (nomatch h)⟩
  | tuple l => exact ⟨true, show kitB "tuple" "tuple" = _ by decide +kernel, fun _ => ⟨l, rfl⟩, fun h => (nomatch h)⟩
  | dict l => exact (nomatch h)
theorem isMap_no {d : PyData} (h : ∀ ds, d ≠ .tuple ds) : isMap d = false := by
  cases d <;> first | rfl | exact absurd rfl (h _)
theorem sem_is_map : ∀ ws S Q E, sp_is_map ws S Q E → rd_is_map (DQ Q) (start3 2 ws E) S := fun ws S Q E ⟨d, e, hd, q⟩ => by
  subst e
  obtain ⟨b, hb, h1, h0⟩ := isi_tup hd
  refine ⟨_, rfl, _, d, _, b, rfl, rfl, hb, _, rfl, fun e => ?_, fun e => ?_⟩
  · refine ⟨fun _ => ⟨_, Sub.refl _, ?_⟩, fun h => (nomatch h)⟩
    rw [← isMap_no (h0 (by simpa using e))]; exact q
  · obtain ⟨ds, rfl⟩ := h1 (by simpa using e)
    have hl : lenW S (.tup ds) = some ds.length := by show some (ds.map W.d).length = _; rw [List.length_map]
    refine ⟨_, rfl, _, _, rfl, hl, _, _, rfl, rfl, _, rfl, fun c => ?_, fun c => ?_⟩
    · refine ⟨_, _, rfl, rfl, _, rfl, ?_⟩
      refine ⟨fun c2 => ⟨_, Sub.refl _, ?_⟩, fun c2 => ?_⟩
      · have e : isMap (.tuple ds) = false := by
          have : ¬ ds.length ≤ 12 := by intro h; simp at c2; omega
          show (decide (1 ≤ ds.length) && decide (ds.length ≤ 12) && _) = false
          rw [decide_eq_false this, Bool.and_false, Bool.false_and]
        rw [← e]; exact q
      · have hl2 : ds.length ≤ 12 := by simp at c2; omega
        have hl1 : 1 ≤ ds.length := by simp at c; omega
        refine ⟨_, rfl, ds, .inr rfl, by rw [List.length_map]; omega, ?_⟩
        refine lcGo_map (fun w => match w with | .d x => .bl (btw x 0 (ds.length - 1)) | w => w) ?_ ?_
        · intro w hw A a
          obtain ⟨x, hx, rfl⟩ := List.mem_map.mp hw
          exact ⟨_, rfl, _, rfl, _, _, rfl, hl, _, _, rfl, rfl, x, _, _, rfl, flat_of (canLayAll_mem hd x hx), a⟩
        · refine ⟨(ds.map fun x => btw x 0 (ds.length - 1)).map PyData.bool, by rw [List.nil_append, List.map_map, List.map_map, List.map_map]; rfl, _, rfl, _, Sub.refl _, ?_⟩
          have e : isMap (.tuple ds) = (ds.map fun x => btw x 0 (ds.length - 1)).all id := by
            show (decide (1 ≤ ds.length) && decide (ds.length ≤ 12) && _) = _
            rw [decide_eq_true hl1, decide_eq_true hl2, Bool.true_and, Bool.true_and, List.all_map]; rfl
          rw [← e]; exact q
    · refine ⟨_, rfl, fun _ => ⟨_, Sub.refl _, ?_⟩, fun c2 => (nomatch c2)⟩
      have e : isMap (.tuple ds) = false := by
        have : ¬ 1 ≤ ds.length := by intro h; simp at c; omega
        show (decide (1 ≤ ds.length) && decide (ds.length ≤ 12) && _) = false
        rw [decide_eq_false this, Bool.false_and, Bool.false_and]
      rw [← e]; exact q
def rd_is_turning : TS3 := (tRet3 (tOp3 gEq (tLenSet3 (tVar3 0)) (tCB3 gLen (tCons3 (tVar3 0) tNil3))))
theorem lenW_tupI {S : Sto} {ns : List Int} : lenW S (.tup (ns.map PyData.int)) = some ns.length := by show some ((ns.map PyData.int).map W.d).length = _; rw [List.length_map, List.length_map]
theorem lenW_lstI {S : Sto} {ns : List Int} : lenW S (.lst (ns.map PyData.int)) = some ns.length := by show some ((ns.map PyData.int).map W.d).length = _; rw [List.length_map, List.length_map]
theorem sem_is_turning : ∀ ws S Q E, sp_is_turning ws S Q E → rd_is_turning (DQ Q) (start3 1 ws E) S := fun ws S Q E ⟨ns, e, hl, q⟩ => by
  subst e
  refine ⟨_, rfl, ns, rfl, hl, fun L nd mem => ⟨_, rfl, _, _, rfl, lenW_tupI, .inr ⟨_, _, rfl, rfl, rfl, rfl, _, Sub.refl _, ?_⟩⟩⟩
  have e : PyData.eqv (.int L.length) (.int ns.length) = decide (L.length = ns.length) := by rw [eqv_int]; exact decide_eq_decide.mpr (by omega)
  rw [e]
  exact q L nd mem
def rd_is_setting : TS3 := (tRet3 (tOp3 gEq (tLenSet3 (tVar3 0)) (tC3 (.int 1))))
theorem sem_is_setting : ∀ ws S Q E, sp_is_setting ws S Q E → rd_is_setting (DQ Q) (start3 1 ws E) S := fun ws S Q E ⟨ns, e, hl, q⟩ => by
  subst e
  refine ⟨_, rfl, ns, rfl, hl, fun L nd mem => .inr ⟨_, _, rfl, rfl, rfl, rfl, _, Sub.refl _, ?_⟩⟩
  have e : PyData.eqv (.int L.length) (.int 1) = decide (L.length = 1) := by rw [eqv_int]; exact decide_eq_decide.mpr (by omega)
  rw [e]
  exact q L nd mem
def rd_still : TS3 := (tRet3 (tTupRg3 (tRg13 (tVar3 0))))
theorem sem_still : ∀ ws S Q E, sp_still ws S Q E → rd_still (DQ Q) (start3 1 ws E) S := fun ws S Q E ⟨n, e, h0, h1, q⟩ => by
  subst e
  exact ⟨_, rfl, n, rfl, RgOk.of_le (by decide) (by omega) (by decide) h0, _, Sub.refl _, q⟩

end H3

namespace H3
open PySem PySem.Spec L2
open PyProof.Rows hiding St

/-! ### tuple.index; lists joined, repeated, cut, sorted -/
section
variable {X : Cx} {Ex : WX} {o e : Expr} {es : List Expr} {to : TE3} {t : TA3} {name : Str} {apos cpos : Pos} {id : String} {r3 : RM3} {r : V → List V → Hp → VK → Prop}
def tTM3 (r : RM3) (to : TE3) (t : TA3) : TE3 := fun τ S Q => to τ S fun w S1 => (∃ ds, w = .tup ds) ∧ t τ S1 fun ws S2 => r w ws S2 Q
theorem pe3_tm (slot : Slot "tuple" name id) (hty : typeOf (.builtin id) = pure (.type "method_descriptor")) (hm : MtR X id r) (l : MtL X.K r3 r) (ho : PE X o (LE X.K Ex to)) (ha : PA X (e :: es) (LA X.K Ex t))
    (mc : MCall X o name apos cpos e es := by exact ⟨rfl, rfl, rfl, rfl, rfl⟩) :
    PE X (.Call (.Attribute o name apos) (e :: es) [] cpos) (LE X.K Ex (tTM3 r3 to t)) :=
  pe_imp (pe_tm slot hty hm ho ha mc) fun σ H Q ⟨F, S, τ, Q3, R, Ev, h, k⟩ => ⟨F, S, τ, _, R, Ev, h, fun F1 S1 H1 w x s1 R1 r1 ⟨⟨ds, hl⟩, h1⟩ => by
    subst hl
    have r1' := r1
    cases (show Dp X.K F1.f x (.tuple ds) from r1) with
    | tup ht ha2 =>
      exact ⟨⟨_, _, rfl, ht.mono R1.same⟩, F1, S1, τ, _, R1, Ev.mono s1, h1, fun F2 S2 H2 ws vs s2 R2 r2 h2 => l F2 S2 H2 _ ws _ vs Q3 Q R2 (r1'.mono s2) r2 h2 (k.mono (s1.trans s2))⟩⟩
def gTIx : RM3 := fun w ws S Q => ∃ (ns : List Int) (k : Int), w = .tup (ns.map PyData.int) ∧ ws = [.int k] ∧ k ∈ ns ∧ Q (.int (ns.idxOf k : Nat)) S
theorem l_tix {K : PySem.W.Frag} : MtL K gTIx (fun x xs H Q => ∃ (p : Addr) (ns : List Int) (k : Int), x = .ref p ∧ xs = [.int k] ∧ SqT K H p (ns.map V.int) ∧ k ∈ ns ∧ Q (.int (ns.idxOf k : Nat)) H) := fun F S H w ws x vs Q3 Q R rw rs ⟨ns, k, e1, e2, hk, q⟩ kk => by
  subst e1 e2
  obtain ⟨v, rfl, rv⟩ := ws1 rs
  obtain ⟨_, a, us, rfl, hs, ha⟩ := tup_rep R rw rfl
  have e3 := ints_of ha
  subst e3
  exact ⟨a, ns, k, rfl, by rw [rep_int rv], hs, hk, kk F S H _ _ (Sm.refl F) R mk_int q⟩
end
section
variable {K : PySem.W.Frag}
theorem rep_flat {F : Fz} {ws : List W} {vs : List V} (h : RepWs K F ws vs) : ∀ n, RepWs K F (List.replicate n ws).flatten (List.replicate n vs).flatten
  | 0 => .nil
  | n + 1 => by
    simp only [List.replicate_succ, List.flatten_cons]
    exact rep_app h (rep_flat h n)
/-- xs * n, to be changed -/
def gRepM : R3 := fun w u S Q => ∃ a k ws, w = .r a ∧ u = .int k ∧ S a = some (.lst ws) ∧ -(2 ^ 63) ≤ k ∧ k < 2 ^ 63 ∧ ws.length * k.toNat ≤ sizeLine ∧ ∀ p, S p = none → Q (.r p) (put S p (.lst (List.replicate k.toNat ws).flatten))
theorem l_repM : OpL K gRepM rRep := fun F S H w u x y Q3 Q R rw ru ⟨a, n, ws, e1, e2, h, h1, h2, hz, q⟩ k => by
  subst e1 e2
  obtain ⟨xs, hx, rx⟩ := rd_lst R h
  exact ⟨a, n, xs, rw, rep_int ru, hx, h1, h2, by rw [← Paired.length rx]; exact hz, fun p hp => k _ _ _ (.r p) _ (Sm.refl F) (newMut R hp (rep_flat rx _)) (show V.ref p = V.ref p from rfl) (q p (R.freeS hp))⟩
/-- xs + ys, to be changed -/
def gCatM : R3 := fun w u S Q => ∃ a b ws us, w = .r a ∧ u = .r b ∧ S a = some (.lst ws) ∧ S b = some (.lst us) ∧ ws.length + us.length ≤ sizeLine ∧ ∀ p, S p = none → Q (.r p) (put S p (.lst (ws ++ us)))
theorem l_catM : OpL K gCatM rCat := fun F S H w u x y Q3 Q R rw ru ⟨a, b, ws, us, e1, e2, h, h2, hz, q⟩ k => by
  subst e1 e2
  obtain ⟨xs, hx, rx⟩ := rd_lst R h
  obtain ⟨ys, hy, ry⟩ := rd_lst R h2
  exact ⟨a, b, xs, ys, rw, ru, hx, hy, by rw [← Paired.length rx, ← Paired.length ry]; exact hz, fun p hp => k _ _ _ (.r p) _ (Sm.refl F) (newMut R hp (rep_app rx ry)) (show V.ref p = V.ref p from rfl) (q p (R.freeS hp))⟩
theorem rep_take {F : Fz} : ∀ {ws : List W} {vs : List V} (n : Nat), RepWs K F ws vs → RepWs K F (ws.take n) (vs.take n)
  | _, _, 0, _ => by simp; exact .nil
  | _, _, n + 1, .nil => by simp; exact .nil
  | _, _, n + 1, .cons a t => .cons a (rep_take n t)
theorem rep_drop {F : Fz} : ∀ {ws : List W} {vs : List V} (n : Nat), RepWs K F ws vs → RepWs K F (ws.drop n) (vs.drop n)
  | _, _, 0, h => by simpa using h
  | _, _, n + 1, .nil => by simp; exact .nil
  | _, _, n + 1, .cons a t => rep_drop n t
theorem rep_cut {F : Fz} {ws : List W} {vs : List V} (h : RepWs K F ws vs) (lo hi : Option Int) : RepWs K F (cutG ws lo hi) (cutV vs lo hi) := by
  unfold cutG cutV
  rw [Paired.length h]
  exact rep_take _ (rep_drop _ h)
/-- a list's slice, to be changed -/
def gSlM : W → Option Int → Option Int → Sto → K3 → Prop := fun w lo hi S Q => ∃ ds, viewW S w = some (.list ds) ∧ ∀ p, S p = none → Q (.r p) (put S p (.lst ((cutG ds lo hi).map W.d)))
theorem l_slM : SlL K gSlM (rSlL K) := fun F S H w x lo hi Q3 Q R rw ⟨ds, hd, q⟩ k => by
  obtain ⟨a, vs, rfl, hs, ha, _⟩ := list_rep R rw hd
  exact ⟨a, vs, rfl, hs, fun p hp => k _ _ _ (.r p) _ (Sm.refl F) (newMut R hp (repWs_of_all (dpAll_cut ha lo hi))) (show V.ref p = V.ref p from rfl) (q p (R.freeS hp))⟩
end

section
variable {X : Cx} {K : PySem.W.Frag}
/-- a list's or a tuple's slice, to stay -/
def rSlB (K : PySem.W.Frag) : V → Option Int → Option Int → Hp → VK → Prop := fun x lo hi H Q => rSlN K x lo hi H Q ∨ rSlL K x lo hi H Q
theorem sl_both : SlR X (rSlB X.K) := fun pins s σ H x v vl vu lo hi sl Q I rx hs pl pu h => h.elim (sl_tupN pins s σ H x v vl vu lo hi sl Q I rx hs pl pu) (sl_list pins s σ H x v vl vu lo hi sl Q I rx hs pl pu)
def gSlB : W → Option Int → Option Int → Sto → K3 → Prop := fun w lo hi S Q => gSlT w lo hi S Q ∨ gSlL w lo hi S Q
theorem l_slB : SlL K gSlB (rSlB K) := fun F S H w x lo hi Q3 Q R rw h k => h.imp (fun h => l_slT F S H w x lo hi Q3 Q R rw h k) (fun h => l_slL F S H w x lo hi Q3 Q R rw h k)
end
/-! ### sorted(xs) of data that are alike -/
/-- what stands where in the sorted list stood somewhere before -/
def rSortD (K : PySem.W.Frag) : List V → Hp → VK → Prop := fun vs H Q => ∃ (a : Addr) (xs : List V) (ds : List PyData), vs = [V.ref a] ∧ SqL K H a xs ∧ L2.DpAll K H xs ds ∧ PySem.W.AllAlike ds ∧ PySem.W.Sortable ds ∧ ds.length ≤ sizeLine ∧ (∀ d ∈ ds, d.depth ≤ 60) ∧
  ∀ (ys : List V) (p : Addr), Paired (fun y d => (y, d) ∈ xs.zip ds) ys (ds.mergeSort (PySem.W.dataLe false id)) → H p = none → Q (.ref p) (upd H p (.lst ys))
theorem each_reads {X : Cx} {pins : List (Addr × Obj)} {σ : L2.St} {H : Hp} {s : Shared} (I : Inv X pins σ H s) : ∀ {xs : List V} {us : List Value} {ds : List PyData}, L2.DpAll X.K H xs ds → Vals xs us → PySem.W.EachIs (fun v d => ∃ as, Reads s.heap v d as) us ds
  | _, _, _, .nil, .nil => .nil
  | _, _, _, .cons h t, .cons r rs => .cons (L2.Dp.reads I _ _ _ h r) (each_reads I t rs)
theorem each_pair {K : PySem.W.Frag} {H : Hp} {P : V → PyData → Prop} : ∀ {xs : List V} {us : List Value} {ds : List PyData}, (∀ p ∈ xs.zip ds, P p.1 p.2) → L2.DpAll K H xs ds → Vals xs us → PySem.W.EachIs (fun v d => ∃ x, RelV x v ∧ P x d) us ds
  | _, _, _, _, .nil, .nil => .nil
  | _, _, _, h, .cons _ t, .cons r rs => .cons ⟨_, r, h (_, _) List.mem_cons_self⟩ (each_pair (fun p hp => h p (List.mem_cons_of_mem _ hp)) t rs)
theorem each_out {P : V → PyData → Prop} : ∀ {us : List Value} {ds : List PyData}, PySem.W.EachIs (fun v d => ∃ x, RelV x v ∧ P x d) us ds → ∃ ys, Vals ys us ∧ Paired P ys ds
  | _, _, .nil => ⟨[], .nil, .nil⟩
  | _, _, .cons ⟨x, r, h⟩ t => by
    obtain ⟨ys, r2, h2⟩ := each_out t
    exact ⟨x :: ys, .cons r r2, .cons h h2⟩
theorem dpAllL_len {K : PySem.W.Frag} {H : Hp} : ∀ {vs : List V} {ds : List PyData}, L2.DpAll K H vs ds → vs.length = ds.length
  | _, _, .nil => rfl
  | _, _, .cons _ t => congrArg Nat.succ (dpAllL_len t)
theorem cr_sortD {X : Cx} (hu : X.A.units + 70 < cLine) : CallR X (.builtin "sorted") (rSortD X.K) := by
  rintro pins s σ H _ us Q I rr ⟨a, xs, ds, rfl, hs, hd, al, so, hz, dp, q⟩
  obtain ⟨its, rv, pl, _⟩ := I.list hs
  rw [Vals.ref1 rr]
  have hlen := dpAllL_len hd
  have e1 := each_pair (P := fun y d => (y, d) ∈ xs.zip ds) (fun p hp => hp) hd rv
  refine PySem.W.sorted_data (enc := id) (bs := ds) (vs := its) pl.isList e1 (each_reads I hd rv) (by rw [List.map_id]; exact al) (by rw [List.map_id]; exact so) hz (fun d hd => ?_) fun out ho hO => ?_
  · have := dp d hd
    show X.A.units + 2 + d.depth < cLine
    omega
  · obtain ⟨ys, r2, h2⟩ := each_out hO
    obtain ⟨ep, at'⟩ := PyProof.Rows.sortedAll_at s.heap its (List.toArray out)
    have hyl : ys.length ≤ sizeLine := by rw [r2.length, ho]; exact hz
    exact ⟨.ref _, _, I.laid (t' := s.toks) (o := .lst ys) (fun _ _ => PyProof.Rows.sortedAll_old) (Nat.le_succ _) ⟨hyl, out, ep, r2, at'⟩, rfl, q ys _ h2 (I.hok.fresh (Nat.le_succ _))⟩
def gSorted : RC3 := fun ws S Q => ∃ w ds, ws = [w] ∧ viewW S w = some (.list ds) ∧ PySem.W.AllAlike ds ∧ PySem.W.Sortable ds ∧ ds.length ≤ sizeLine ∧ (∀ d ∈ ds, d.depth ≤ 60) ∧ Q (.lst (ds.mergeSort (PySem.W.dataLe false id))) S
theorem dpAll_zip {K : PySem.W.Frag} {F : Hp} : ∀ {xs : List V} {ds : List PyData}, DpAll K F xs ds → ∀ p ∈ xs.zip ds, Dp K F p.1 p.2
  | _, _, .nil, p, h => by cases h
  | _, _, .cons a t, p, h => by
    cases List.mem_cons.mp h with
    | inl e => rw [e]; exact a
    | inr e => exact dpAll_zip t p e
theorem dpAll_paired {K : PySem.W.Frag} {F : Hp} {P : V → PyData → Prop} (h : ∀ v d, P v d → Dp K F v d) : ∀ {ys : List V} {ds : List PyData}, Paired P ys ds → DpAll K F ys ds
  | _, _, .nil => .nil
  | _, _, .cons a t => .cons (h _ _ a) (dpAll_paired h t)
theorem l_sorted {K : PySem.W.Frag} : CallL K gSorted (rSortD K) := fun F S H ws vs Q3 Q R r ⟨w, ds, e, hd, al, so, hz, dp, q⟩ k => by
  subst e
  obtain ⟨v, rfl, rv⟩ := ws1 r
  obtain ⟨a, us, rfl, hs, ha, _⟩ := list_rep R rv hd
  refine ⟨a, us, ds, rfl, hs, (dpAll_mono R.same ha).q, al, so, hz, dp, fun ys p hy hp => ?_⟩
  obtain ⟨s, R', rw'⟩ := newLst R hp (dpAll_paired (fun v d hm => dpAll_zip ha (v, d) hm) hy)
  exact k _ S _ _ _ s R' rw' q

/-! ### what stays in a store -/
/-- all that was there is there still, but at these places -/
def Kp (as : List Addr) (S S' : Sto) : Prop := ∀ b o, b ∉ as → S b = some o → S' b = some o
theorem Kp.refl {as : List Addr} {S : Sto} : Kp as S S := fun _ _ _ h => h
theorem Kp.trans {as : List Addr} {S S1 S2 : Sto} (a : Kp as S S1) (b : Kp as S1 S2) : Kp as S S2 := fun c o hc h => b c o hc (a c o hc h)
theorem Kp.more {as bs : List Addr} {S S1 : Sto} (a : Kp as S S1) (h : ∀ x ∈ as, x ∈ bs) : Kp bs S S1 := fun c o hc e => a c o (fun q => hc (h c q)) e
theorem Kp.put {as : List Addr} {S S1 : Sto} {p : Addr} {o : SO} (u : Kp as S S1) (h : p ∈ as) : Kp as S (H3.put S1 p o) := fun c v hc e => by
  rw [put_ne (fun q => hc (by rw [q]; exact h))]
  exact u c v hc e
theorem Kp.new {as : List Addr} {S S1 : Sto} {p : Addr} {o : SO} (u : Kp as S S1) (h : S1 p = none) : Kp as S (H3.put S1 p o) := fun c v hc e => by
  have e1 := u c v hc e
  rw [put_ne (fun q => by subst q; rw [h] at e1; cases e1)]
  exact e1
theorem Kp.wr {as : List Addr} {S S1 : Sto} {p : Addr} {o : SO} (u : Kp as S S1) (h : S p = none) : Kp as S (H3.put S1 p o) := fun c v hc e => by
  rw [put_ne (fun q => by subst q; rw [h] at e; cases e)]
  exact u c v hc e
theorem Kp.drp {as : List Addr} {S S1 : Sto} {p : Addr} (u : Kp as S S1) (h : S p = none) : Kp as S (H3.drp S1 p) := fun c v hc e => by
  rw [drp_ne (fun q => by subst q; rw [h] at e; cases e)]
  exact u c v hc e
theorem Upto.kp {as : List Addr} {S S1 : Sto} (u : Upto as S S1) : Kp as S S1 := fun c o hc e => by rw [u c hc]; exact e
theorem Kp.sub {S S1 : Sto} (u : Kp [] S S1) : Sub S S1 := fun c o e => u c o (by simp) e
/-- fresh later is fresh before -/
theorem Kp.none {as : List Addr} {S S1 : Sto} {p : Addr} (u : Kp as S S1) (h : S1 p = Option.none) (hp : p ∉ as) : S p = Option.none := by
  cases e : S p with
  | none => rfl
  | some o => rw [u p o hp e] at h; cases h
/-- of what a def leaves, only a deal's two places -/
def two (dl d1 : Addr) (S S' : Sto) : Sto := fun b => if b = dl ∨ b = d1 then S' b else S b
theorem two_sub {dl d1 : Addr} {S S' : Sto} (u : Kp [dl, d1] S S') : Sub (two dl d1 S S') S' := fun b o e => by
  unfold two at e
  split at e
  · exact e
  · rename_i h
    exact u b o (by simpa using h) e
theorem two_upto {dl d1 : Addr} {S S' : Sto} : Upto [dl, d1] S (two dl d1 S S') := fun b hb => if_neg (by simpa using hb)
theorem two_deal {dl d1 : Addr} {S S' : Sto} (h : Deal S' dl d1) : Deal (two dl d1 S S') dl d1 := h.up' fun b e => if_pos e
end H3

namespace H3
open PySem PySem.Spec L2
open PyProof.Rows hiding St

/-! ### turnings: plain law -/
def PmP (n : Nat) (a : List Nat) : Prop := a.length = n ∧ a.Nodup ∧ ∀ x ∈ a, x < n
instance {n : Nat} {a : List Nat} : Decidable (PmP n a) := by unfold PmP; infer_instance
def jn (a b : List Nat) : List Nat := a.map fun i => b.getD i 0
def iv (a : List Nat) : List Nat := (List.range a.length).map fun k => a.idxOf k
def cm (a b : List Nat) : List Nat := jn (jn a b) (jn (iv a) (iv b))
def cj (a b : List Nat) : List Nat := jn (jn (iv b) a) b
theorem nodup_map_on {α β : Type} (f : α → β) : ∀ {l : List α}, (∀ x ∈ l, ∀ y ∈ l, f x = f y → x = y) → l.Nodup → (l.map f).Nodup
  | [], _, _ => List.nodup_nil
  | x :: l, h, hn => by
    have ⟨h1, h2⟩ := List.nodup_cons.mp hn
    refine List.nodup_cons.mpr ⟨fun hm => ?_, nodup_map_on f (fun a ha b hb => h a (List.mem_cons_of_mem _ ha) b (List.mem_cons_of_mem _ hb)) h2⟩
    obtain ⟨y, hy, e⟩ := List.mem_map.mp hm
    have := h y (List.mem_cons_of_mem _ hy) x List.mem_cons_self e
    subst this
    exact h1 hy
theorem getD_lt {b : List Nat} {i : Nat} (h : i < b.length) : b.getD i 0 = b[i] := by rw [List.getD_eq_getElem?_getD, List.getElem?_eq_getElem h]; rfl
section
variable {n : Nat} {a b c : List Nat}
theorem PmP.mem (h : PmP n a) {k : Nat} (hk : k < n) : k ∈ a := by
  apply Classical.byContradiction
  intro hn
  have h1 : (k :: a).Nodup := List.nodup_cons.mpr ⟨hn, h.2.1⟩
  have h2 := h1.length_le_of_subset (l₂ := List.range n) fun x hx => by
    rw [List.mem_range]
    rcases List.mem_cons.mp hx with e | e
    · rw [e]; exact hk
    · exact h.2.2 x e
  rw [List.length_cons, List.length_range, h.1] at h2
  omega
theorem jn_ok (ha : PmP n a) (hb : PmP n b) : PmP n (jn a b) := by
  unfold jn
  refine ⟨by rw [List.length_map]; exact ha.1, nodup_map_on _ (fun x hx y hy e => ?_) ha.2.1, fun x hx => ?_⟩
  · have h1 : x < b.length := by rw [hb.1]; exact ha.2.2 x hx
    have h2 : y < b.length := by rw [hb.1]; exact ha.2.2 y hy
    rw [getD_lt h1, getD_lt h2] at e
    exact (List.getElem_inj hb.2.1).mp e
  · obtain ⟨i, hi, rfl⟩ := List.mem_map.mp hx
    have h1 : i < b.length := by rw [hb.1]; exact ha.2.2 i hi
    rw [getD_lt h1]
    exact hb.2.2 _ (List.getElem_mem h1)
theorem jn_assoc (ha : ∀ x ∈ a, x < b.length) : jn (jn a b) c = jn a (jn b c) := by
  unfold jn
  rw [List.map_map]
  refine List.map_congr_left fun i hi => ?_
  have h1 := ha i hi
  show c.getD (b.getD i 0) 0 = (b.map fun i => c.getD i 0).getD i 0
  rw [getD_lt (b := b.map fun i => c.getD i 0) (i := i) (by rw [List.length_map]; exact h1), List.getElem_map, getD_lt h1]
theorem hm_ok : PmP n (List.range n) := ⟨List.length_range, List.nodup_range, fun x hx => List.mem_range.mp hx⟩
theorem hm_jn (h : a.length = n) : jn (List.range n) a = a := by
  unfold jn
  apply List.ext_getElem
  · rw [List.length_map, List.length_range, h]
  · intro i h1 h2
    rw [List.getElem_map, List.getElem_range, getD_lt h2]
theorem jn_hm (h : ∀ x ∈ a, x < n) : jn a (List.range n) = a := by
  have e : ∀ i ∈ a, (List.range n).getD i 0 = id i := fun i hi => by
    have h1 := h i hi
    rw [getD_lt (by rw [List.length_range]; exact h1), List.getElem_range]; rfl
  unfold jn
  rw [List.map_congr_left e, List.map_id]
theorem iv_ok (h : PmP n a) : PmP n (iv a) := by
  unfold iv
  rw [h.1]
  refine ⟨by rw [List.length_map, List.length_range], nodup_map_on _ (fun x hx y hy e => ?_) List.nodup_range, fun x hx => ?_⟩
  · have h1 := h.mem (List.mem_range.mp hx)
    have h2 := h.mem (List.mem_range.mp hy)
    have e1 := List.getElem_idxOf (List.idxOf_lt_length_of_mem h1)
    have e2 := List.getElem_idxOf (List.idxOf_lt_length_of_mem h2)
    rw [← e1, ← e2]
    congr 1
  · obtain ⟨k, hk, rfl⟩ := List.mem_map.mp hx
    have := List.idxOf_lt_length_of_mem (h.mem (List.mem_range.mp hk))
    rw [h.1] at this
    exact this
theorem iv_getD {k : Nat} (hk : k < a.length) : (iv a).getD k 0 = a.idxOf k := by
  unfold iv
  rw [getD_lt (by rw [List.length_map, List.length_range]; exact hk), List.getElem_map, List.getElem_range]
theorem jn_iv (h : PmP n a) : jn a (iv a) = List.range n := by
  unfold jn
  apply List.ext_getElem
  · rw [List.length_map, List.length_range, h.1]
  · intro i h1 h2
    have hi : i < a.length := by rw [h.1]; simpa using h2
    rw [List.getElem_map, List.getElem_range]
    rw [iv_getD (Nat.lt_of_lt_of_eq (h.2.2 _ (List.getElem_mem hi)) h.1.symm)]
    exact h.2.1.idxOf_getElem i hi
theorem iv_jn (h : PmP n a) : jn (iv a) a = List.range n := by
  unfold jn iv
  rw [List.map_map, h.1]
  have e : ∀ k ∈ List.range n, ((fun i => a.getD i 0) ∘ fun k => a.idxOf k) k = id k := fun k hk => by
    have h1 := List.idxOf_lt_length_of_mem (h.mem (List.mem_range.mp hk))
    show a.getD (a.idxOf k) 0 = k
    rw [getD_lt h1, List.getElem_idxOf h1]
  rw [List.map_congr_left e, List.map_id]
end
/-- turnings of n states, as a group -/
def Pm (n : Nat) := { a : List Nat // PmP n a }
section
variable {n : Nat}
instance : Mul (Pm n) := ⟨fun a b => ⟨jn a.1 b.1, jn_ok a.2 b.2⟩⟩
instance : Inv (Pm n) := ⟨fun a => ⟨iv a.1, iv_ok a.2⟩⟩
instance : One (Pm n) := ⟨⟨List.range n, hm_ok⟩⟩
theorem pm_assoc (a b c : Pm n) : a * b * c = a * (b * c) := Subtype.ext (jn_assoc fun x hx => by rw [b.2.1]; exact a.2.2.2 x hx)
theorem pm_one_mul (a : Pm n) : 1 * a = a := Subtype.ext (hm_jn a.2.1)
theorem pm_mul_one (a : Pm n) : a * 1 = a := Subtype.ext (jn_hm a.2.2.2)
theorem pm_inv_mul (a : Pm n) : a⁻¹ * a = 1 := Subtype.ext (iv_jn a.2)
theorem pm_mul_inv (a : Pm n) : a * a⁻¹ = 1 := Subtype.ext (jn_iv a.2)
theorem pm_ic (a b : Pm n) : a⁻¹ * (a * b) = b := by rw [← pm_assoc, pm_inv_mul, pm_one_mul]
theorem pm_ci (a b : Pm n) : a * (a⁻¹ * b) = b := by rw [← pm_assoc, pm_mul_inv, pm_one_mul]
theorem pm_inv_of {a b : Pm n} (h : a * b = 1) : a⁻¹ = b := by
  have e := pm_ic a b
  rw [h, pm_mul_one] at e
  exact e
theorem pm_inv_rev (a b : Pm n) : (a * b)⁻¹ = b⁻¹ * a⁻¹ := pm_inv_of (by rw [pm_assoc, pm_ci, pm_mul_inv])
theorem pm_inv_inv (a : Pm n) : a⁻¹⁻¹ = a := pm_inv_of (pm_inv_mul a)
theorem pm_one_inv : (1 : Pm n)⁻¹ = 1 := pm_inv_of (pm_one_mul 1)
/-- powers -/
def pw (x : Pm n) : Nat → Pm n
  | 0 => 1
  | k + 1 => x * pw x k
theorem pw_sq (x : Pm n) : ∀ k, pw (x * x) k = pw x (2 * k)
  | 0 => rfl
  | k + 1 => by
    show x * x * pw (x * x) k = x * (x * pw x (2 * k))
    rw [pw_sq x k, pm_assoc]
theorem pw_two (x : Pm n) : pw x 2 = x * x := by
  show x * (x * 1) = _
  rw [pm_mul_one]
def cmP (a b : Pm n) : Pm n := a * b * (a⁻¹ * b⁻¹)
def cjP (a b : Pm n) : Pm n := b⁻¹ * a * b
theorem cm_inv (a b : Pm n) : (cmP a b)⁻¹ = cmP b a := by simp only [cmP, pm_inv_rev, pm_inv_inv, pm_assoc]
theorem cm_one_iff (a b : Pm n) : cmP a b = 1 ↔ a * b = b * a := by
  constructor
  · intro h
    have e : a * b * (a⁻¹ * b⁻¹) * (b * a) = a * b := by rw [pm_assoc (a * b), pm_assoc a⁻¹, pm_ic, pm_inv_mul, pm_mul_one]
    rw [show a * b * (a⁻¹ * b⁻¹) = 1 from h, pm_one_mul] at e
    exact e.symm
  · intro h
    show a * b * (a⁻¹ * b⁻¹) = 1
    rw [h, pm_assoc, pm_ci, pm_mul_inv]
theorem cm_self (a : Pm n) : cmP a a = 1 := (cm_one_iff a a).mpr rfl
theorem cm_one (a : Pm n) : cmP a 1 = 1 := (cm_one_iff a 1).mpr (by rw [pm_mul_one, pm_one_mul])
theorem one_cm (a : Pm n) : cmP 1 a = 1 := (cm_one_iff 1 a).mpr (by rw [pm_mul_one, pm_one_mul])
theorem cj_mul (a b : Pm n) : b * cjP a b = a * b := by simp only [cjP, pm_assoc, pm_ci]
theorem parts_l (a b m : Pm n) : cmP (a * b) m = cjP (cmP b m) a⁻¹ * cmP a m := by simp only [cmP, cjP, pm_inv_rev, pm_inv_inv, pm_assoc, pm_ic]
theorem parts_r (a b m : Pm n) : cmP m (a * b) = cmP m a * cjP (cmP m b) a⁻¹ := by simp only [cmP, cjP, pm_inv_rev, pm_inv_inv, pm_assoc, pm_ic]
theorem cj_pw (a b : Pm n) : cjP (pw a 2) b = pw (cjP a b) 2 := by
  rw [pw_two, pw_two]
  simp only [cjP, pm_assoc, pm_ci]
/-- folds -/
def foldP (a : Pm n) (as : List (Pm n)) : Pm n := as.foldl cmP a
theorem fold_one : ∀ (as : List (Pm n)), foldP (1 : Pm n) as = 1
  | [] => rfl
  | a :: as => by
    show foldP (cmP 1 a) as = 1
    rw [one_cm]; exact fold_one as
theorem fold_home : ∀ (as : List (Pm n)) (a : Pm n), as ≠ [] → (1 : Pm n) ∈ a :: as → foldP a as = 1
  | [], _, h, _ => absurd rfl h
  | b :: as, a, _, hm => by
    show foldP (cmP a b) as = 1
    cases (List.mem_cons.mp hm : (1 : Pm n) = a ∨ _) with
    | inl e => rw [← e, one_cm]; exact fold_one as
    | inr e =>
      cases List.mem_cons.mp e with
      | inl e => rw [← e, cm_one]; exact fold_one as
      | inr e => exact fold_home as _ (fun q => by subst q; cases e) (List.mem_cons_of_mem _ e)
end
theorem rgD_zero {m : Int} : rgD 0 m = ((List.range m.toNat).map fun i => ((i : Nat) : Int)).map PyData.int := by
  unfold rgD
  rw [List.map_map, Int.sub_zero]
  apply List.map_congr_left; intro i _
  show PyData.int (0 + (i : Nat)) = PyData.int (i : Nat)
  rw [Int.zero_add]
/-! as data -/
def ci (a : List Nat) : List Int := a.map fun k : Nat => (k : Int)
def ti (a : List Nat) : PyData := .tuple ((ci a).map PyData.int)
theorem ci_inj {a b : List Nat} : ci a = ci b ↔ a = b := by
  constructor
  · intro h
    have e : (ci a).map Int.toNat = (ci b).map Int.toNat := by rw [h]
    unfold ci at e
    simp only [List.map_map] at e
    have f : (Int.toNat ∘ fun k : Nat => (k : Int)) = id := by funext k; simp
    rw [f, List.map_id, List.map_id] at e
    exact e
  · intro h; rw [h]
theorem eqvAll_ints : ∀ ns ms : List Int, PyData.eqvAll (ns.map PyData.int) (ms.map PyData.int) = decide (ns = ms)
  | [], [] => rfl
  | [], _ :: _ => rfl
  | _ :: _, [] => rfl
  | n :: ns, m :: ms => by
    show (PyData.eqv (.int n) (.int m) && PyData.eqvAll (ns.map PyData.int) (ms.map PyData.int)) = _
    rw [eqvAll_ints ns ms, eqv_int, ← Bool.decide_and]
    exact decide_eq_decide.mpr (by simp)
theorem eqv_ti {a b : List Nat} : PyData.eqv (ti a) (ti b) = decide (a = b) := by
  show PyData.eqvAll ((ci a).map PyData.int) ((ci b).map PyData.int) = _
  rw [eqvAll_ints]
  exact decide_eq_decide.mpr ci_inj
theorem shaped_ti (a : List Nat) : SeqAt.shaped (ti a) = true := shaped_intsT _
theorem lay_ti (a : List Nat) : (ti a).canLay0 = true := canLayAll_map _ (fun _ => rfl) _
theorem fine_ti {a : List Nat} {n : Nat} (h : PmP n a) (hn : n ≤ 100) : Fine 1 30000 (ti a) := by
  refine Fine.tuple (k := 0) (w := 200) (fun x hx => ?_) ?_
  · obtain ⟨i, hi, rfl⟩ := List.mem_map.mp hx
    have ⟨k, hk, ek⟩ := List.mem_map.mp hi
    subst ek
    have := h.2.2 k hk
    exact Fine.ofInt (show (k : Int).natAbs < 10 ^ 50 by omega)
  · rw [List.length_map, ci, List.length_map, h.1]; omega
theorem len_ti {S : Sto} {a : List Nat} : lenW S (.d (ti a)) = some a.length := by
  show some (((ci a).map PyData.int).map W.d).length = _
  rw [List.length_map, List.length_map, ci, List.length_map]
theorem ix_ti {S : Sto} {a : List Nat} {i : Nat} (h : i < a.length) : ixW S (i : Int) (.d (ti a)) = some (.int (a.getD i 0 : Nat)) := by
  show atI (((ci a).map PyData.int).map W.d) (i : Int) = _
  apply atI_nat
  rw [List.getElem?_map, List.getElem?_map, ci, List.getElem?_map, List.getElem?_eq_getElem h, getD_lt h]; rfl
theorem rgD_ti {n : Nat} : rgD 0 (n : Int) = (ci (List.range n)).map PyData.int := by rw [rgD_zero]; rfl
end H3

namespace H3
open PySem PySem.Spec L2
open PyProof.Rows hiding St
/-! ### the program's turnings -/
def sq_joined : Sp3 := fun ws S Q _ => ∃ a b, ws = [.d (ti a), .d (ti b)] ∧ a.length ≤ 1000 ∧ (∀ x ∈ a, x < b.length) ∧ Q (.d (ti (jn a b))) S
def sp_joined : Sp3 := fun ws S Q E => Bx (sq_joined ws S Q E)
theorem len_joined : ∀ ws S Q E, sp_joined ws S Q E → ws.length = 2 := fun ws S Q E ⟨a, b, e, _⟩ => by rw [e]; rfl
def rd_joined : TS3 := (tRet3 (tCB3 gTuple (tCons3 (tLcD3 (tSeqI3 (tVar3 0)) (gName3 2) tYes3 (tOp3 gIx (tVar3 1) (tVar3 2)) [2]) tNil3)))
theorem mw_ti (a : List Nat) : ((ci a).map PyData.int).map W.d = a.map fun k => W.int (k : Nat) := by rw [ci, List.map_map, List.map_map]; rfl
theorem join_eq (a b : List Nat) : (a.map fun k => W.int (k : Nat)).map (fun w => match w with | .d (.int i) => W.int (b.getD i.toNat 0 : Nat) | w => w) = ((ci (jn a b)).map PyData.int).map W.d := by
  rw [mw_ti, jn, List.map_map, List.map_map]; rfl
theorem sem_joined : ∀ ws S Q E, sp_joined ws S Q E → rd_joined (DQ Q) (start3 3 ws E) S := fun ws S Q E ⟨a, b, e, hl, hb, q⟩ => by
  subst e
  refine ⟨_, rfl, _, .inr rfl, by rw [mw_ti, List.length_map]; omega, ?_⟩
  rw [mw_ti]
  refine lcGo_map (fun w => match w with | .d (.int i) => W.int (b.getD i.toNat 0 : Nat) | w => w) (fun w hw A h => ?_) ?_
  · obtain ⟨k, hk, rfl⟩ := List.mem_map.mp hw
    exact ⟨_, rfl, _, rfl, _, _, rfl, ix_ti (hb k hk), h⟩
  · exact ⟨_, join_eq a b, _, _, rfl, rfl, _, Sub.refl _, q⟩
/-- n states -/
def Tis (w : W) (ds : List PyData) : Prop := w = .lst ds ∨ w = .tup ds
def sq_joined_all : Sp3 := fun ws S Q _ => ∃ (n : Nat) (w : W) (as : List (List Nat)), ws = [.int n, w] ∧ Tis w (as.map ti) ∧ n ≤ 1000 ∧ (∀ a ∈ as, PmP n a) ∧ Q (.d (ti (as.foldl jn (List.range n)))) S
def sp_joined_all : Sp3 := fun ws S Q E => Bx (sq_joined_all ws S Q E)
theorem len_joined_all : ∀ ws S Q E, sp_joined_all ws S Q E → ws.length = 2 := fun ws S Q E ⟨n, w, as, e, _⟩ => by rw [e]; rfl
def rb_joined_all_0 : TS3 := (tSet3 2 (tCall3 sp_joined (tCons3 (tVar3 2) (tCons3 (tVar3 3) tNil3))))
def rd_joined_all : TS3 := (tSeq3 (tSet3 2 (tCall3 sp_still (tCons3 (tVar3 0) tNil3))) (tSeq3 (tFor3 (tSeqI3 (tVar3 1)) (gName3 3) rb_joined_all_0) (tRet3 (tVar3 2))))
theorem still_ti {n : Nat} {S : Sto} {Q : K3} {E : X3} (hn : n ≤ 1000) (q : Q (.d (ti (List.range n))) S) : sp_still [.int n] S Q E := ⟨n, rfl, by omega, by omega, by rw [rgD_ti]; exact q⟩
theorem jn_all_ok {n : Nat} : ∀ {as : List (List Nat)} {f : List Nat}, PmP n f → (∀ a ∈ as, PmP n a) → PmP n (as.foldl jn f)
  | [], _, h, _ => h
  | a :: as, f, h, ha => jn_all_ok (as := as) (jn_ok h (ha a List.mem_cons_self)) fun b hb => ha b (List.mem_cons_of_mem _ hb)
theorem join_P {n : Nat} {a b : List Nat} {S : Sto} {Q : K3} {E : X3} (ha : PmP n a) (hb : PmP n b) (hn : n ≤ 1000) (q : Q (.d (ti (jn a b))) S) : sp_joined [.d (ti a), .d (ti b)] S Q E :=
  ⟨a, b, rfl, by rw [ha.1]; exact hn, fun x hx => by rw [hb.1]; exact ha.2.2 x hx, q⟩
theorem get_map {α β : Type} {f : α → β} {l : List α} {i : Nat} {y : β} (h : (l.map f)[i]? = some y) : ∃ x, l[i]? = some x ∧ f x = y := by
  rw [List.getElem?_map] at h
  cases e : l[i]? with
  | none => rw [e] at h; exact nomatch h
  | some x => rw [e] at h; exact ⟨x, rfl, Option.some.inj h⟩
/-- a loop that folds -/
theorem fold_take {α β : Type} (f : β → α → β) (b : β) {l : List α} {i : Nat} {x : α} (h : l[i]? = some x) : f ((l.take i).foldl f b) x = (l.take (i + 1)).foldl f b := by
  rw [List.take_add_one, h, List.foldl_append]; rfl
theorem sem_joined_all : ∀ ws S Q E, sp_joined_all ws S Q E → rd_joined_all (DQ Q) (start3 4 ws E) S := fun ws S Q E ⟨n, w, as, e, hw, hn, ha, q⟩ => by
  subst e
  refine ⟨_, rfl, still_ti hn ⟨_, rfl, as.map ti, hw, ?_⟩⟩
  refine forGo_inv (fun i τ S' => S' = S ∧ ∃ w4, τ.sl = [some (.int n), some w, some (.d (ti ((as.take i).foldl jn (List.range n)))), w4]) ⟨rfl, _, rfl⟩ ?_ ?_
  · rintro i x ⟨sl, ex⟩ S' hx ⟨rfl, w4, e⟩
    subst e
    rw [List.map_map] at hx
    obtain ⟨a, h1, rfl⟩ := get_map hx
    have hm := List.mem_of_getElem? h1
    refine ⟨_, rfl, _, rfl, join_P (jn_all_ok hm_ok fun b hb => ha b (List.mem_of_mem_take hb)) (ha a hm) hn ⟨rfl, some (.d (ti a)), ?_⟩⟩
    rw [fold_take jn _ h1]; rfl
  · rintro ⟨sl, ex⟩ S' ⟨rfl, w4, e⟩
    subst e
    rw [List.length_map, List.length_map, List.take_length]
    exact ⟨_, rfl, _, Sub.refl _, q⟩
/-- turned back -/
def sq_need_turning : Sp3 := fun ws S Q _ => ∃ n a, ws = [.d (ti a)] ∧ PmP n a ∧ n ≤ 1000 ∧ Q .non S
def sp_need_turning : Sp3 := fun ws S Q E => Bx (sq_need_turning ws S Q E)
def sq_turned_back : Sp3 := fun ws S Q _ => ∃ n a, ws = [.d (ti a)] ∧ PmP n a ∧ n ≤ 1000 ∧ Q (.d (ti (iv a))) S
def sp_turned_back : Sp3 := fun ws S Q E => Bx (sq_turned_back ws S Q E)
theorem len_need_turning : ∀ ws S Q E, sp_need_turning ws S Q E → ws.length = 1 := fun ws S Q E ⟨n, a, e, _⟩ => by rw [e]; rfl
theorem len_turned_back : ∀ ws S Q E, sp_turned_back ws S Q E → ws.length = 1 := fun ws S Q E ⟨n, a, e, _⟩ => by rw [e]; rfl
def rd_need_turning : TS3 := (tIf3 (tNot3 (tB3 (tCall3 sp_is_turning (tCons3 (tVar3 0) tNil3)))) tNever3 tNext3)
theorem ci_nodup {a : List Nat} (h : a.Nodup) : (ci a).Nodup := nodup_map_on _ (fun x _ y _ e => by omega) h
theorem ci_len {a : List Nat} : (ci a).length = a.length := by rw [ci, List.length_map]
theorem sem_need_turning : ∀ ws S Q E, sp_need_turning ws S Q E → rd_need_turning (DQ Q) (start3 1 ws E) S := fun ws S Q E ⟨n, a, e, ha, hn, q⟩ => by
  subst e
  refine ⟨_, rfl, ci a, rfl, by rw [ci_len, ha.1]; exact hn, fun L h1 h2 => ⟨_, rfl, fun c => ?_, fun _ => ⟨_, Sub.refl _, q⟩⟩⟩
  rw [nodup_len h1 (ci_nodup ha.2.1) h2] at c
  simp at c
def rd_turned_back : TS3 := (tSeq3 (tDrop3 (tCall3 sp_need_turning (tCons3 (tVar3 0) tNil3))) (tRet3 (tCB3 gTuple (tCons3 (tLcD3 (tRgI1 (tCons3 (tCB3 gLen (tCons3 (tVar3 0) tNil3)) tNil3)) (gName3 1) tYes3 (tTM3 gTIx (tVar3 0) (tCons3 (tVar3 1) tNil3)) [1]) tNil3))))
theorem ci_mem {a : List Nat} {k : Nat} : (k : Int) ∈ ci a ↔ k ∈ a := by
  unfold ci
  rw [List.mem_map]
  constructor
  · rintro ⟨j, hj, e⟩
    have : j = k := by omega
    rw [← this]; exact hj
  · exact fun h => ⟨k, h, rfl⟩
theorem ci_idx (k : Nat) : ∀ (a : List Nat), (ci a).idxOf (k : Int) = a.idxOf k
  | [] => rfl
  | x :: a => by
    show ((x : Int) :: ci a).idxOf (k : Int) = _
    rw [List.idxOf_cons, List.idxOf_cons, ci_idx k a]
    by_cases h : x = k
    · subst h; simp
    · have h1 : ((x : Int) == (k : Int)) = false := by rw [beq_eq_false_iff_ne]; omega
      have h2 : (x == k) = false := by simpa using h
      rw [h1, h2]
theorem rgW_nat {n : Nat} : rgW 0 (n : Int).toNat = (List.range n).map fun k => W.int (k : Nat) := by
  unfold rgW
  rw [show (n : Int).toNat = n by omega]
  apply List.map_congr_left; intro i _
  show W.int (0 + (i : Nat)) = W.int (i : Nat)
  rw [Int.zero_add]
theorem sem_turned_back : ∀ ws S Q E, sp_turned_back ws S Q E → rd_turned_back (DQ Q) (start3 2 ws E) S := fun ws S Q E ⟨n, a, e, ha, hn, q⟩ => by
  subst e
  refine ⟨_, rfl, ⟨n, a, rfl, ha, hn, ?_⟩⟩
  refine ⟨_, rfl, _, _, rfl, len_ti, _, rfl, ⟨by omega, by have := ha.1; omega⟩, by rw [rgW_len]; have := ha.1; omega, ?_⟩
  rw [rgW_nat]
  refine lcGo_map (fun w => match w with | .d (.int i) => W.int (a.idxOf i.toNat : Nat) | w => w) (fun w hw A h => ?_) ?_
  · obtain ⟨k, hk, rfl⟩ := List.mem_map.mp hw
    have hk : k ∈ a := ha.mem (by have := List.mem_range.mp hk; rw [ha.1] at this; exact this)
    refine ⟨_, rfl, ⟨_, rfl⟩, _, rfl, ci a, (k : Int), rfl, rfl, ci_mem.mpr hk, ?_⟩
    rw [ci_idx]; exact h
  · refine ⟨(ci (iv a)).map PyData.int, ?_, _, _, rfl, rfl, _, Sub.refl _, q⟩
    rw [mw_ti, iv, List.nil_append, List.map_map, List.map_map]; rfl
/-- commutators -/
def sq_commutator : Sp3 := fun ws S Q _ => ∃ n a b, ws = [.d (ti a), .d (ti b)] ∧ PmP n a ∧ PmP n b ∧ n ≤ 1000 ∧ Q (.d (ti (cm a b))) S
def sp_commutator : Sp3 := fun ws S Q E => Bx (sq_commutator ws S Q E)
def sq_conjugate : Sp3 := fun ws S Q _ => ∃ n a b, ws = [.d (ti a), .d (ti b)] ∧ PmP n a ∧ PmP n b ∧ n ≤ 1000 ∧ Q (.d (ti (cj a b))) S
def sp_conjugate : Sp3 := fun ws S Q E => Bx (sq_conjugate ws S Q E)
theorem len_commutator : ∀ ws S Q E, sp_commutator ws S Q E → ws.length = 2 := fun ws S Q E ⟨n, a, b, e, _⟩ => by rw [e]; rfl
theorem len_conjugate : ∀ ws S Q E, sp_conjugate ws S Q E → ws.length = 2 := fun ws S Q E ⟨n, a, b, e, _⟩ => by rw [e]; rfl
def rd_commutator : TS3 := (tRet3 (tCall3 sp_joined (tCons3 (tCall3 sp_joined (tCons3 (tVar3 0) (tCons3 (tVar3 1) tNil3))) (tCons3 (tCall3 sp_joined (tCons3 (tCall3 sp_turned_back (tCons3 (tVar3 0) tNil3)) (tCons3 (tCall3 sp_turned_back (tCons3 (tVar3 1) tNil3)) tNil3))) tNil3))))
def rd_conjugate : TS3 := (tRet3 (tCall3 sp_joined (tCons3 (tCall3 sp_joined (tCons3 (tCall3 sp_turned_back (tCons3 (tVar3 1) tNil3)) (tCons3 (tVar3 0) tNil3))) (tCons3 (tVar3 1) tNil3))))
theorem sem_commutator : ∀ ws S Q E, sp_commutator ws S Q E → rd_commutator (DQ Q) (start3 2 ws E) S := fun ws S Q E ⟨n, a, b, e, ha, hb, hn, q⟩ => by
  subst e
  exact ⟨_, rfl, _, rfl, join_P ha hb hn ⟨_, rfl, ⟨n, a, rfl, ha, hn, ⟨_, rfl, ⟨n, b, rfl, hb, hn, join_P (iv_ok ha) (iv_ok hb) hn (join_P (jn_ok ha hb) (jn_ok (iv_ok ha) (iv_ok hb)) hn ⟨_, Sub.refl _, q⟩)⟩⟩⟩⟩⟩
theorem sem_conjugate : ∀ ws S Q E, sp_conjugate ws S Q E → rd_conjugate (DQ Q) (start3 2 ws E) S := fun ws S Q E ⟨n, a, b, e, ha, hb, hn, q⟩ => by
  subst e
  exact ⟨_, rfl, ⟨n, b, rfl, hb, hn, ⟨_, rfl, join_P (iv_ok hb) ha hn ⟨_, rfl, join_P (jn_ok (iv_ok hb) ha) hb hn ⟨_, Sub.refl _, q⟩⟩⟩⟩⟩
/-- powers -/
def sq_power : Sp3 := fun ws S Q _ => ∃ (n : Nat) (a : Pm n) (m : Nat), ws = [.d (ti a.1), .int m] ∧ n ≤ 1000 ∧ Q (.d (ti (pw a m).1)) S
def sp_power : Sp3 := fun ws S Q E => Bx (sq_power ws S Q E)
theorem len_power : ∀ ws S Q E, sp_power ws S Q E → ws.length = 2 := fun ws S Q E ⟨n, a, b, e, _⟩ => by rw [e]; rfl
def rd_power : TS3 := (tSeq3 (tPar3 2 3 (tCons3 (tCall3 sp_still (tCons3 (tCB3 gLen (tCons3 (tVar3 0) tNil3)) tNil3)) (tCons3 (tVar3 0) tNil3))) (tSeq3 (tWhile3 (tB3 (tOp3 gGt (tVar3 1) (tC3 (.int 0)))) (tSeq3 (tIf3 (tB3 (tOp3 gEq (tOp3 gMod (tVar3 1) (tC3 (.int 2))) (tC3 (.int 1)))) (tSet3 2 (tCall3 sp_joined (tCons3 (tVar3 2) (tCons3 (tVar3 3) tNil3)))) tNext3) (tPar3 3 1 (tCons3 (tCall3 sp_joined (tCons3 (tVar3 3) (tCons3 (tVar3 3) tNil3))) (tCons3 (tOp3 gDiv (tVar3 1) (tC3 (.int 2))) tNil3))))) (tRet3 (tVar3 2))))
theorem join_Pm {n : Nat} {a b : Pm n} {S : Sto} {Q : K3} {E : X3} (hn : n ≤ 1000) (q : Q (.d (ti (a * b).1)) S) : sp_joined [.d (ti a.1), .d (ti b.1)] S Q E := join_P a.2 b.2 hn q
theorem sem_power : ∀ ws S Q E, sp_power ws S Q E → rd_power (DQ Q) (start3 4 ws E) S := fun ws S Q E ⟨n, a, m, e, hn, q⟩ => by
  subst e
  refine ⟨_, rfl, _, _, rfl, len_ti, ?_⟩
  rw [a.2.1]
  refine still_ti hn ⟨_, rfl, _, _, rfl, ?_⟩
  refine ⟨fun k τ S' => S' = S ∧ ∃ (f s : Pm n) (w0 : Option W), τ.sl = [w0, some (.int (k : Nat)), some (.d (ti f.1)), some (.d (ti s.1))] ∧ f * pw s k = pw a m, ⟨m, rfl, (1 : Pm n), a, _, rfl, pm_one_mul _⟩, ?_⟩
  rintro k ⟨sl, ex⟩ S' ⟨rfl, f, s, w0, e, hp⟩
  subst e
  refine ⟨_, rfl, _, _, rfl, rfl, _, rfl, fun c => ?_, fun c => ?_⟩
  · have hk : 0 < k := by
      have : (0 : Int) < (k : Nat) := by simpa using c
      omega
    refine ⟨fun τ2 S2 => S2 = S' ∧ ∃ (f s : Pm n) (w0 : Option W), τ2.sl = [w0, some (.int (k / 2 : Nat)), some (.d (ti f.1)), some (.d (ti s.1))] ∧ f * pw s (k / 2) = pw a m, fun τ2 S2 ⟨h1, h2⟩ => ⟨k / 2, by omega, h1, h2⟩, ?_⟩
    refine ⟨_, rfl, _, _, rfl, rfl, (show (0 : Int) < 2 by decide), .inr ⟨_, _, rfl, rfl, rfl, rfl, _, rfl, fun c2 => ?_, fun c2 => ?_⟩⟩
    · rw [eqv_int] at c2
      have h2 : k = 2 * (k / 2) + 1 := by have := of_decide_eq_true c2; omega
      refine ⟨_, rfl, _, rfl, join_Pm hn ⟨_, rfl, _, rfl, join_Pm hn ⟨_, rfl, _, _, rfl, rfl, ⟨by decide, by decide⟩, _, _, rfl, rfl, f * s, s * s, w0, ?_, ?_⟩⟩⟩
      · rw [show ((k / 2 : Nat) : Int) = (k : Int) / 2 by omega]; rfl
      · rw [pw_sq, pm_assoc]
        rw [h2] at hp
        exact hp
    · rw [eqv_int] at c2
      have h2 : k = 2 * (k / 2) := by have := of_decide_eq_false c2; omega
      refine ⟨_, rfl, _, rfl, join_Pm hn ⟨_, rfl, _, _, rfl, rfl, ⟨by decide, by decide⟩, _, _, rfl, rfl, f, s * s, w0, ?_, ?_⟩⟩
      · rw [show ((k / 2 : Nat) : Int) = (k : Int) / 2 by omega]; rfl
      · rw [pw_sq]
        rw [h2] at hp
        exact hp
  · have hk : k = 0 := by
      have : ¬ (0 : Int) < (k : Nat) := by simpa using c
      omega
    subst hk
    have e : f = pw a m := by rw [← hp]; exact (pm_mul_one f).symm
    subst e
    exact ⟨_, rfl, _, Sub.refl _, q⟩

end H3

/-! H3s: sorted of lists and tuples of tuples, an empty one first; sorted of sets of ints. -/
namespace H3
open PySem PySem.Spec PySem.Calls PySem.W L2
open PyProof.Rows hiding St
/-! ### over the heap -/
section
variable {prog : Program} {w : World} {A : Around} {s : Shared} {E : Value → Shared → Prop}
/-- sorted of a list or tuple is the sort of a list laid for it -/
theorem srt_seq {T : String} {l : Addr} {o : Obj} {its : Array Value} {n : Nat} {kw : List (Str × Value)} {Q : Value → Shared → Prop} (hT : T = "list" ∨ T = "tuple") (ho : s.heap.get? l = some o) (hc : o.cls = .type T) (hd : o.data = .seq its n) (hz : its.size ≤ sizeLine)
    (h1 : argsOk "sorted" ⟨[.ref l], kw⟩) (h2 : ∀ x, argsOk "list.sort" ⟨[.ref x], kw⟩)
    (run : ∀ (g : Heap) (E2 : Value → Shared → Prop), (∀ b u, s.heap.get? b = some u → g.get? b = some u) →
      wpAny (model prog w) A.in1.in1 (Builtin.«list.sort» ⟨[.ref g.objs.size], kw⟩) (fun r t => r = .done (.ret .none) ∧ Q (.ref g.objs.size) t) E2 { s with heap := g.push (seqObj "list" its 0) }) :
    wpAny (model prog w) A (call (.builtin "sorted") [Value.ref l] kw) Q E s := by
  refine call_function_entry_kw kind_sorted plain_sorted entry_sorted h1 (by
    unfold Builtin.«sorted»
    refine wpAny_bind (m := checkCount "sorted" 1 1 _) (wpAny_pure (wpAny_bind (wpAny_collect_seq l hT ho hc hd (fun g kp => ?_) hz)))
    refine wpAny_bind (wpAny_newList ?_ (by rw [Array.length_toList]; exact hz))
    have laid : (g.push (seqObj "list" its 0)).get? g.objs.size = some (seqObj "list" its 0) := Heap.get?_push_size _ rfl
    rw [Array.toArray_toList]
    refine wpAny_bind (wpAny_holding (wpAny_call_entry_kw slot_list_sort ⟨_, laid, rfl⟩ entry_list_sort (wpAny_mono (run g _ kp) (fun r t ht => ?_) fun _ _ x => x) (h2 _)))
    obtain ⟨rfl, hq⟩ := ht
    exact ⟨.none, rfl, wpAny_pure ⟨_, rfl, hq⟩⟩)
theorem mapM_by {α β : Type} {M : Model} {f : α → Sem β} (g : α → β) : ∀ (l : List α) {Q : List β → Shared → Prop}, (∀ v ∈ l, ∀ (Q2 : β → Shared → Prop), Q2 (g v) s → wpAny M A (f v) Q2 E s) → Q (l.map g) s → wpAny M A (l.mapM f) Q E s
  | [], Q, _, h => by rw [List.mapM_nil]; exact wpAny_pure h
  | v :: l, Q, hf, h => by
    rw [List.mapM_cons]
    refine wpAny_bind (hf v List.mem_cons_self _ (wpAny_bind (mapM_by g l (Q := fun bs t => wpAny M A (pure (g v :: bs)) Q E t) (fun u hu => hf u (List.mem_cons_of_mem _ hu)) (wpAny_pure h))))
/-- the first item of a tuple's object -/
def headAt (h : Heap) : Value → Option Value
  | .ref a => match (h.get? a : Option Obj) with
    | some o => match o.data with
      | .seq its _ => its[0]?
      | _ => none
    | none => none
  | _ => none
theorem read_tup {h : Heap} {v : Value} {xs : List PyData} {as : List Addr} (r : Reads h v (.tuple xs) as) : ∃ (a : Addr) (o : Obj) (its : Array Value) (n : Nat), v = .ref a ∧ h.get? a = some o ∧ o.cls = .type "tuple" ∧ o.data = .seq its n ∧ ReadsAll h its.toList xs as := by
  cases r with
  | tuple h1 h2 h3 h4 => exact ⟨_, _, _, _, rfl, h1, h2, h3, h4⟩
/-- all tuples, the first empty: the keys are told to be of one type -/
theorem kind_void {vs : List Value} {ds : List PyData} {Q : SortKind → Shared → Prop} (e : EachIs (fun v d => ∃ as, Reads s.heap v d as) vs (.tuple [] :: ds)) (ht : ∀ d ∈ ds, ∃ xs, d = .tuple xs) (h : Q oneType' s) : wpAny (model prog w) A (keyKind' vs.toArray) Q E s := by
  have tup : ∀ v ∈ vs, ∃ (a : Addr) (o : Obj) (its : Array Value) (n : Nat), v = .ref a ∧ s.heap.get? a = some o ∧ o.cls = .type "tuple" ∧ o.data = .seq its n := fun v hv => by
    obtain ⟨d, hd, seen, r⟩ := e.left v hv
    obtain ⟨xs, rfl⟩ : ∃ xs, d = .tuple xs := by
      cases (List.mem_cons.mp hd : d = .tuple [] ∨ d ∈ ds) with
      | inl q => exact ⟨_, q⟩
      | inr q => exact ht d q
    obtain ⟨a, o, its, n, r1, r2, r3, r4, _⟩ := read_tup r
    exact ⟨a, o, its, n, r1, r2, r3, r4⟩
  cases e with
  | @cons v _ vs _ r t =>
    obtain ⟨as, r⟩ := r
    obtain ⟨a, o, its, n, rfl, r2, r3, r4, r5⟩ := read_tup r
    have empty : its[0]? = none := by
      have : its.toList = [] := by cases hi : its.toList with
        | nil => rfl
        | cons x l => rw [hi] at r5; cases r5
      rw [← Array.getElem?_toList, this]; rfl
    have z : headAt s.heap (.ref a) = none := by simp only [headAt, r2, r4]; exact empty
    have ty : ∀ u ∈ Value.ref a :: vs, ∀ (Q2 : Value → Shared → Prop), Q2 (.type "tuple") s → wpAny (model prog w) A (typeOf u) Q2 E s := fun u hu Q2 q => by
      obtain ⟨b, ob, _, _, rfl, w1, w2, _⟩ := tup u hu
      exact wpAny_typeOf (T := "tuple") ⟨ob, w1, w2⟩ q
    rw [keyKind'_eq, List.mapM_toArray]
    rw [map_eq_pure_bind]
    refine wpAny_bind (wpAny_bind (mapM_by (headAt s.heap) _ (fun u hu Q2 q => ?_) (wpAny_pure ?_)))
    · obtain ⟨b, ob, its, m, rfl, w1, w2, w3⟩ := tup u hu
      rw [kas_first_eq]
      refine wpAny_bind (ty _ hu _ ?_)
      have no : (Value.type "tuple" != Value.type "tuple") = false := by decide
      rw [if_neg (by rw [no]; exact Bool.false_ne_true)]
      refine wpAny_bind (listItems_at w1 w3 (wpAny_pure ?_))
      have : headAt s.heap (.ref b) = its[0]? := by simp only [headAt, w1, w3]
      rw [← this]; exact q
    · have f0 : ((Value.ref a :: vs).map (headAt s.heap)).toArray[0]? = some none := by simp [z]
      have nall : ¬ (((Value.ref a :: vs).map (headAt s.heap)).toArray.all fun x => x.isSome) = true := by simp [z]
      rw [if_neg nall, f0]
      rw [if_neg (by simp), oneTypeOnly'_eq, List.mapM_toArray, map_eq_pure_bind]
      refine wpAny_bind (wpAny_bind (wpAny_bind (mapM_by (fun _ => Value.type "tuple") _ ty (wpAny_pure ?_))))
      have t0 : ((Value.ref a :: vs).map fun _ => Value.type "tuple").toArray[0]? = some (Value.type "tuple") := by simp
      have tall : (((Value.ref a :: vs).map fun _ => Value.type "tuple").toArray.all fun x => x == Value.type "tuple") = true := by
        rw [List.all_toArray, List.all_map, List.all_eq_true]; exact fun _ _ => (by decide : (Value.type "tuple" == Value.type "tuple") = true)
      rw [t0]
      simp only [tall, if_true]
      refine wpAny_pure ?_
      exact wpAny_pure h
/-- one tuple against another, told to be of one type -/
theorem less_tup {x y : Value} {xs ys : List PyData} {as bs : List Addr} {Q : Bool → Shared → Prop} (ra : Reads s.heap x (.tuple xs) as) (rb : Reads s.heap y (.tuple ys) bs) (hal : alikeAll xs ys = true) (hu : A.units + min (PyData.tuple xs).depth (PyData.tuple ys).depth < cLine)
    (q : Q (dataLt (.tuple xs) (.tuple ys)) s) : wpAny (model prog w) A (oneLt' true x y) Q E s := by
  cases ra with
  | @tuple l o vs n _ _ a1 a2 a3 a4 =>
    cases rb with
    | @tuple l2 o2 vs2 n2 _ _ b1 b2 b3 b4 =>
      have s1 : vs.size = xs.length := by simpa using SeqAt.ReadsAll.length _ _ _ a4
      have s2 : vs2.size = ys.length := by simpa using SeqAt.ReadsAll.length _ _ _ b4
      rw [dataLt_tuple, ← firstLt_toks xs ys hal, ← s1, ← s2] at q
      rw [oneLt'_eq]
      simp only [if_true]
      refine wpAny_bind (wpAny_cRoomFor (SeqAt.room_here hu) ?_)
      obtain ⟨cls, dd, data, sl⟩ := o
      obtain ⟨cls2, dd2, data2, sl2⟩ := o2
      simp only at a2 a3 b2 b3
      subst a2 a3 b2 b3
      refine wpAny_bind (wpAny_callSpecialIfBound?_slot (T := "tuple") ⟨_, a1, rfl⟩ F.slot_tuple_lt (call_meets F.slot_tuple_lt ⟨_, a1, rfl⟩ F.entry_tuple_lt (F.args_tuple_lt_2 _ _) (SeqAt.tuple_ltAt l l2 vs vs2 n n2 dd dd2 sl sl2 (SeqAt.pairEq xs ys) (fun j => dataLt (xs.getD j .none) (ys.getD j .none))) ⟨a1, b1, fun j j1 j2 => ?_, fun j j1 j2 hj => ?_, wpAny_truthy_bool q⟩))
      · exact (eqAt_alikeAll xs ys A.in1 s vs.toList vs2.toList _ _ a4 b4 hal (SeqAt.room_in hu) j (by rw [Array.length_toList]; exact j1) (by rw [Array.length_toList]; exact j2) : _)
      · exact (rcLt_alikeAll xs ys A.in1 s vs.toList vs2.toList _ _ a4 b4 hal (SeqAt.room_in hu) j (by rw [Array.length_toList]; exact j1) (by rw [Array.length_toList]; exact j2) hj : _)
theorem sortsAt_void {vs : List Value} {ds : List PyData} (e : EachIs (fun v d => ∃ as, Reads s.heap v d as) vs (.tuple [] :: ds)) (hal : AllAlike (.tuple [] :: ds)) (ht : ∀ d ∈ ds, ∃ xs, d = .tuple xs) (hu : ∀ d ∈ PyData.tuple [] :: ds, A.units + d.depth < cLine) :
    SortsAt prog w A s (dataKind s.heap (.tuple [] :: ds)) vs := by
  have all : ∀ d ∈ PyData.tuple [] :: ds, ∃ xs, d = .tuple xs := fun d hd => by
    cases (List.mem_cons.mp hd : d = .tuple [] ∨ d ∈ ds) with
    | inl q => exact ⟨_, q⟩
    | inr q => exact ht d q
  refine ⟨fun v hv => ?_, oneType', fun E2 x y a b Q ka kb q => ?_, fun _ E2 Q q => kind_void e ht q⟩
  · obtain ⟨d, hd, seen, rd⟩ := e.left v hv
    exact ⟨keyToks d, dataKind_some hal hd rd⟩
  · obtain ⟨d, as, hd, rx, rfl⟩ := dataKind_inv ka
    obtain ⟨d2, as2, hd2, ry, rfl⟩ := dataKind_inv kb
    obtain ⟨xs, rfl⟩ := all d hd
    obtain ⟨ys, rfl⟩ := all d2 hd2
    rw [keyLt'_oneType]
    have both := hal _ hd _ hd2
    exact less_tup rx ry (by simpa [alike] using both) (Nat.lt_of_le_of_lt (Nat.add_le_add_left (Nat.min_le_left _ _) _) (hu _ hd)) q
end
end H3

/-! H3v: all(x in y for x in t): t a tuple, y a list or tuple that the test captures, all of them data. -/
namespace H3
open PySem PySem.Spec L2
open PyProof.Rows hiding St
/-! ### the code of a generator expression -/
section
variable {M : Model} {A : Around} {s : Shared} {E : Value → Shared → Prop}
/-- it is made anew and told in the def's table, or told there already -/
theorem genx_code {env : Env} {c P : Addr} {ps : Array Value} {gpos : Pos} {nm : Str} {scope : Scope} {Q : Value → Shared → Prop} (hc : env.code = .ref c) (cd : PySem.W.CodeHd s.heap c P) (hP : s.heap.get? P = some { cls := .none, data := .fields ps }) (ht : TriplesOk ps.toList)
    (go : ∀ (u : Value) (g : Heap) (tk : Nat) (more : Array Value), Heap.ExtBut P s.heap g → s.heap.objs.size ≤ g.objs.size → g.get? P = some { cls := .none, data := .fields (ps ++ more) } → TriplesOk (ps ++ more).toList → Q u { s with heap := g, toks := tk }) :
    wpAny M A (genexprCode env gpos nm scope) Q E s := by
  cases found : codeAmong gpos ps.toList with
  | some u => exact wpAny_genexprCode_hit hc (cd.code hP ht) found (go u s.heap s.toks #[] (.refl _ _) (Nat.le_refl _) (by rw [Array.append_empty]; exact hP) (by rw [Array.append_empty]; exact ht))
  | none =>
    refine wpAny_genexprCodeX hc (cd.code hP ht) (cd.tab hP) found fun c2 g tk ext lo hi co _ tab _ => go _ g tk _ ext (Nat.le_of_lt (Nat.lt_of_le_of_lt lo hi)) tab.2 ?_
    exact let ⟨_, _, _, _, _, _, _, _, _, _, _, _, _, _, _, _, _, _, _, ok, _⟩ := co; ok
end
/-! ### all over a row of places -/
theorem all_places {α : Type} (f : α → Bool) : ∀ l : List α, ((List.range l.length).all fun j => (l[j]?.map f).getD false) = l.all f
  | [] => rfl
  | a :: l => by
    rw [List.length_cons, List.range_succ_eq_map, List.all_cons, List.all_map, List.all_cons, ← all_places f l]
    rfl
theorem readsAll_at {h : Heap} : ∀ {vs : List Value} {ds : List PyData} {as : List Addr}, ReadsAll h vs ds as → ∀ {j : Nat} {v : Value}, vs[j]? = some v → ∃ d bs, ds[j]? = some d ∧ Reads h v d bs
  | _, _, _, .nil, _, _, e => nomatch e
  | _, _, _, .cons r _, 0, _, e => by cases e; exact ⟨_, _, rfl, r⟩
  | _, _, _, .cons _ rs, j + 1, _, e => readsAll_at rs (j := j) e
theorem reads_len {h : Heap} : ∀ {vs : List Value} {ds : List PyData} {as : List Addr}, ReadsAll h vs ds as → vs.length = ds.length
  | _, _, _, .nil => rfl
  | _, _, _, .cons _ rs => congrArg Nat.succ (reads_len rs)
/-- a list's, a tuple's, a dict's object -/
def Datum (o : Obj) : Prop := o.cls = .type "list" ∨ o.cls = .type "tuple" ∨ o.cls = .type "dict"
mutual
/-- what reads as data does so wherever such objects stand -/
theorem reads_at {h g : Heap} (k : ∀ b o, Datum o → h.get? b = some o → g.get? b = some o) : ∀ {v : Value} {d : PyData} {as : List Addr}, Reads h v d as → Reads g v d as
  | _, _, _, .list a b c r => .list (k _ _ (.inl b) a) b c (readsAll_in k r)
  | _, _, _, .tuple a b c r => .tuple (k _ _ (.inr (.inl b)) a) b c (readsAll_in k r)
  | _, _, _, .dict a b c r q => .dict (k _ _ (.inr (.inr b)) a) b c (readsAll_in k r) (readsAll_in k q)
  | _, _, _, .none => .none
  | _, _, _, .bool _ => .bool _
  | _, _, _, .int _ _ => .int _ _
  | _, _, _, .str _ _ => .str _ _
theorem readsAll_in {h g : Heap} (k : ∀ b o, Datum o → h.get? b = some o → g.get? b = some o) : ∀ {vs : List Value} {ds : List PyData} {as : List Addr}, ReadsAll h vs ds as → ReadsAll g vs ds as
  | _, _, _, .cons r q => .cons (reads_at k r) (readsAll_in k q)
  | _, _, _, .nil => .nil
end
/-- the data of a sequence -/
def seqOf : PyData → Option (List PyData)
  | .tuple l => some l
  | .list l => some l
  | _ => none
/-- item in sequence, by what they read as -/
theorem in_seq {prog : Program} {w : World} {A : Around} {E : Value → Shared → Prop} {s : Shared} {x y : Value} {d c : PyData} {l : List PyData} {as bs : List Addr} {Q : Value → Shared → Prop} (hs : seqOf c = some l) (ry : Reads s.heap y c as) (rx : Reads s.heap x d bs)
    (hl : PyData.canLayAll0 l = true) (sd : SeqAt.shaped d = true) (hu : A.units + 70 < cLine) (q : Q (.bool (l.any fun z => PyData.eqv z d)) s) : wpAny (model prog w) A (compareOp .In x y) Q E s := by
  cases c with
  | tuple l2 => cases hs; exact SeqAt.in_tuple_reads ry rx hl (SeqAt.canLay_of_shaped sd) (room_in sd hu) q
  | list l2 => cases hs; exact SeqAt.in_list_reads ry rx hl (SeqAt.canLay_of_shaped sd) (room_in sd hu) q
  | _ => cases hs
section
variable {X : Cx} {σ : L2.St} {H : Hp} {pins : List (Addr × Obj)} {s : Shared}
/-- what is told of t, of y, of the table at P -/
structure AllInAt (K : PySem.W.Frag) (P : Addr) (iy : Nat) (σ : L2.St) (H : Hp) (v : V) (ds l : List PyData) (ps : Array Value) : Prop where
  kept : ∃ (G : Hp) (u : V) (c : PyData), (∀ b o, G b = some o → H b = some o ∧ b ≠ P) ∧ Dp K G v (.tuple ds) ∧ σ[iy]? = some (some u) ∧ Dp K G u c ∧ seqOf c = some l
  flat : ∀ d ∈ ds, SeqAt.shaped d = true
  lay : PyData.canLayAll0 l = true
  tab : H P = some (.tbl ps)
  tri : TriplesOk ps.toList
def inAll (ds l : List PyData) : Bool := ds.all fun d => l.any fun z => PyData.eqv z d
def tAllIn (K : PySem.W.Frag) (P : Addr) (iy : Nat) (te : TE) : TE := fun σ H Q => te σ H fun v H1 => ∃ ds l ps, AllInAt K P iy σ H1 v ds l ps ∧ ∀ more : Array Value, TriplesOk (ps ++ more).toList → Q (.bl (inAll ds l)) (upd H1 P (.tbl (ps ++ more)))
/-- the statics' place is no table -/
theorem statics_ne {I : Inv X pins σ H s} {P : Addr} {ps : Array Value} (h : s.heap.get? P = some { cls := .none, data := .fields ps }) : cStatics ≠ P ∧ cStatics < s.heap.objs.size := by
  obtain ⟨mc, ⟨o, es, ep, ho, hd, r⟩, _⟩ := I.nolimit
  refine ⟨fun e => ?_, Heap.lt_size ho⟩
  subst e
  cases ho.symm.trans h
  cases hd
/-- the element's test in its own frame -/
theorem elt_in {A2 : Around} {E2 : Value → Shared → Prop} {scope : Scope} {cenv : Env} {x y : Str} {p1 p2 p3 : Pos} {s2 : Shared} {m2 : Str → Option Value} {cy : Addr} {v u : Value} {d c : PyData} {l : List PyData} {as bs : List Addr} (hk : cenv.scope.kind = .function) (hx : cenv.kindOf x = some .local) (hy : cenv.kindOf y = some .free)
    (hn : s2.heap.Ns cenv.locals m2) (hm : m2 x = some v) (hc : cenv.cells.lookup y = some cy) (cell : s2.heap.IsCell cy (some u)) (rv : Reads s2.heap v d as) (ru : Reads s2.heap u c bs) (hs : seqOf c = some l) (hl : PyData.canLayAll0 l = true) (sd : SeqAt.shaped d = true) (hu : A2.units + 70 < cLine)
    (nx : (x == ("__debug__" : Str)) = false) (ny : (y == ("__debug__" : Str)) = false) (nc : (y == ("__classdict__" : Str)) = false) :
    wpAny (model X.prog X.w) A2 (eval (.Compare (.Name x p1) [.In] [.Name y p2] p3) cenv) (fun z s3 => z = .bool (l.any fun z => PyData.eqv z d) ∧ Keeps s2 s3) E2 s2 :=
  wpAny_Compare1 (wpAny_Name (wpAny_loadName_local hk hx hn hm (wpAny_Name (wpAny_loadName_free hk hy hc cell (in_seq hs ru rv hl sd hu ⟨rfl, s2.heap, s2.toks, rfl, fun _ _ e => e⟩) nc) ny)) nx)
theorem pe_allIn {c P : Addr} {iter : Expr} {x y : Str} {px p p1 p2 p3 pos gpos : Pos} {scope : Scope} {te : TE} {k : Nat} (iy : Nat)
    (hr : Room k X.A) (hg : Gl X "all") (hm : X.mg "all" = none) (TB : GxR.TabB X.base X.mg c P) (hcode : X.env.code = .ref c) (S : GxR.GenS X.env scope x) (hi : PE X iter te)
    (hN : X.N[iy]? = some y) (hyc : X.env.scope.names.lookup y = some .cell) (hyf : scope.names.lookup y = some .free)
    (hs : ∀ v, genFold iter X.env v = pure v := by intro _; rfl)
    (hb : bootBuiltins "all" = some (.builtin "all") := by decide +kernel) (nx : (x == ("__debug__" : Str)) = false := by decide) (ny : (y == ("__debug__" : Str)) = false := by decide) (nc : (y == ("__classdict__" : Str)) = false := by decide)
    (he : starEach [.GeneratorExp (.Compare (.Name x p1) [.In] [.Name y p2] p3) [⟨.Name x px, iter, [], 0⟩] scope gpos] X.env = (false, eval (.GeneratorExp (.Compare (.Name x p1) [.In] [.Name y p2] p3) [⟨.Name x px, iter, [], 0⟩] scope gpos) X.env) :: starEach [] X.env := by rfl) :
    PE X (.Call (.Name "all" p) [.GeneratorExp (.Compare (.Name x p1) [.In] [.Name y p2] p3) [⟨.Name x px, iter, [], 0⟩] scope gpos] [] pos) (tAllIn X.K P iy te) := by
  constructor
  intro pins s σ H Q I h
  refine wpAny_Call_Name_kw (ld_blt I hg hm hb (PyProof.Rows.callWith_builtin1 (args_cons ?_ he) he rfl))
  refine wpAny_GeneratorExp_walksQD hr.hd S.co (closure_ok S.free) S.cell S.dot S.loc S.kind (by have := hr.dp; omega) (thn (hi.run pins s σ H _ I h) ?_) hs
  rintro xv s1 ⟨v, H1, I1, r1, ds, l, ps, T, fin⟩
  obtain ⟨G, u, cc, sm, dv, hσ, du, hl⟩ := T.kept
  have tabAt : s1.heap.get? P = some { cls := .none, data := .fields ps } := I1.hok P _ T.tab
  obtain ⟨av, rd⟩ := L2.Dp.reads I1 _ v xv (dp_mono (fun b o e => (sm b o e).1) dv).q r1
  obtain ⟨a, o, its, n, rfl, o1, o2, o3, _⟩ := read_tup rd
  have lens : P < s1.heap.objs.size := Heap.lt_size tabAt
  have aNe : a ≠ P := by rintro rfl; cases o1.symm.trans tabAt; cases o3
  have isT : s1.heap.IsTuple a its := ⟨o, o1, o2, n, o3⟩
  refine wpAny_pyIter_tuple isT ?_
  have I2 : Inv X pins σ H1 { s1 with heap := s1.heap.push { cls := .type "tuple_iterator", data := .fields #[.ref a, .int 0 0] } } := I1.kept (t' := s1.toks) fun b w e => Heap.get?_push_of_some _ e
  have start : (s1.heap.push { cls := .type "tuple_iterator", data := .fields #[.ref a, .int 0 0] }).IsTupleIter s1.heap.objs.size a 0 := ⟨_, Heap.get?_push_size _ rfl, rfl, rfl⟩
  have tab2 : (s1.heap.push { cls := .type "tuple_iterator", data := .fields #[.ref a, .int 0 0] }).get? P = some { cls := .none, data := .fields ps } := Heap.get?_push_of_some _ tabAt
  have size2 : (s1.heap.push { cls := .type "tuple_iterator", data := .fields #[.ref a, .int 0 0] }).objs.size = s1.heap.objs.size + 1 := Heap.size_push ..
  have old2 : ∀ b w, s1.heap.get? b = some w → (s1.heap.push { cls := .type "tuple_iterator", data := .fields #[.ref a, .int 0 0] }).get? b = some w := fun b w e => Heap.get?_push_of_some _ e
  have isT2 : (s1.heap.push { cls := .type "tuple_iterator", data := .fields #[.ref a, .int 0 0] }).IsTuple a its := isT.push _
  generalize s1.heap.push { cls := .type "tuple_iterator", data := .fields #[.ref a, .int 0 0] } = g2 at I2 start tab2 size2 isT2 old2 ⊢
  have stat := statics_ne (I := I1) tabAt
  refine ⟨I2.nolimit, genx_code hcode (TB.code.keeps fun b w e => I2.bk b w e) tab2 T.tri fun code g3 t3 more ext le tab3 tri3 => ?_⟩
  have J : Inv X pins σ (upd H1 P (.tbl (ps ++ more))) { s1 with heap := g3, toks := t3 } := GxR.inv_tab (s := { s1 with heap := g2 }) (g' := s1.gens) (d' := s1.drawn) I2 T.tab (fun b w hb e => ext b w hb e) tab3 I1.bare
  obtain ⟨bm, ob, b1, b2, b3, b4, b5, b6, b7, b8⟩ := TB.bm
  refine wpAny_builtinsFor (m := X.mg) (by rw [I1.ok.glob]; exact (I2.mod.glob.keeps I2.bk).extBut ext TB.gP) b1 b2 (ext _ _ b4 (I2.bk _ _ b5)) b6 b7 b8 ?_
  have up : Same G (upd H1 P (.tbl (ps ++ more))) := fun b w e => by rw [upd_ne (sm b w e).2]; exact (sm b w e).1
  obtain ⟨av2, rd3⟩ := L2.Dp.reads J _ v (.ref a) (dp_mono up dv).q r1
  obtain ⟨_, o', its', n', ea, p1', p2', p3', rds⟩ := read_tup rd3
  cases ea
  have eits : its' = its := by
    obtain ⟨o4, q1, q2, n4, q3⟩ := isT2
    cases (ext a o4 aNe q1).symm.trans p1'
    cases q3.symm.trans p3'
    rfl
  subst eits
  -- what y holds
  obtain ⟨m, hns, hlk⟩ := J.loc
  obtain ⟨yv, ry, look⟩ := hlk iy y u hN hσ (.inr (.inl hyc))
  obtain ⟨bv, rdy⟩ := L2.Dp.reads J _ u yv (dp_mono up du).q ry
  obtain ⟨cy, hcy, cell⟩ : ∃ cy, X.env.cells.lookup y = some cy ∧ g3.IsCell cy (some yv) := by
    rcases look with ⟨z, _⟩ | ⟨_, z⟩
    · cases hyc.symm.trans (show X.env.scope.names.lookup y = some .local from z)
    · exact z
  have inside : s1.heap.objs.size ≠ P := fun e => Nat.lt_irrefl _ (e ▸ lens)
  have fpOut : ∀ b ∈ [s1.heap.objs.size, a], b ≠ P := fun b hb => by
    rcases (by simpa using hb : b = s1.heap.objs.size ∨ b = a) with e | e <;> subst e
    · exact inside
    · exact aNe
  have aIn : a < g3.objs.size := Heap.lt_size p1'
  have iIn : s1.heap.objs.size < g3.objs.size := Nat.lt_of_lt_of_le (by rw [size2]; exact Nat.lt_succ_self _) le
  have walk : ∀ A2 : Around, A2.handled = none → Walks X.prog X.w A2 s1.heap.objs.size [s1.heap.objs.size, a] [s1.heap.objs.size] its'.size (fun i w => its'[i]? = some w) (fun i g => g.IsTupleIter s1.heap.objs.size a i ∧ g.IsTuple a its') := fun A2 h2 => Walks.tuple h2 _ _ (Nat.ne_of_lt (Heap.lt_size o1)) _
  have nl : its'.size = ds.length := by rw [← reads_len rds, Array.length_toList]
  refine ⟨s1.heap.objs.size, [s1.heap.objs.size, a], [s1.heap.objs.size], its'.size, _, _, fun _ => true, fun i z => ∃ d, ds[i]? = some d ∧ z = .bool (l.any fun z => PyData.eqv z d), rfl, walk, ?_, ?_, J.nolimit, ?_, ?_, ?_⟩
  · exact (walk X.A hr.hd).frame _ _ _ ⟨start, isT2⟩ fun b hb w e => ext b w (fpOut b hb) e
  · intro b hb
    rcases (by simpa using hb : b = s1.heap.objs.size ∨ b = a) with e | e <;> subst e
    · exact iIn
    · exact aIn
  · intro z
    have low := stat.2
    rw [List.mem_singleton.mp z] at low
    exact Nat.lt_irrefl _ low
  · intro href more2
    obtain ⟨oi, i1, i2, i3⟩ := start
    have iAt : g3.get? s1.heap.objs.size = some oi := ext _ _ inside i1
    constructor
    · intro A2 E2 i w s2 m2 _ _ _ _ _ _ _
      rw [List.forIn_nil]
      exact wpAny_pure ⟨rfl, s2.heap, s2.toks, rfl, fun _ _ e => e⟩
    · intro A2 E2 i w s2 m2 hA _ hU hw _ hn hm hk
      have keep : ∀ b ob, b ≠ s1.heap.objs.size → g3.get? b = some ob → s2.heap.get? b = some ob := fun b ob hb e => hk b (List.mem_range.mpr (Heap.lt_size e)) (fun z => hb (List.mem_singleton.mp z)) ob (more2 b ob e)
      have data : ∀ b ob, Datum ob → g3.get? b = some ob → s2.heap.get? b = some ob := fun b ob hd e => keep b ob (fun z => by
        subst z
        cases iAt.symm.trans e
        rcases hd with q | q | q <;> rw [i2] at q <;> exact absurd q (by decide)) e
      obtain ⟨d, bs, hd, rw1⟩ := readsAll_at rds (by rw [Array.getElem?_toList]; exact hw)
      obtain ⟨oc, c1, c2⟩ := cell
      have cell2 : s2.heap.IsCell cy (some yv) := ⟨oc, keep cy oc (fun z => by subst z; cases iAt.symm.trans c1; rw [i3] at c2; cases c2) c1, c2⟩
      have env2 : (cloFrom X.env.cells scope.names []).lookup y = some cy := NdefX.clo_has S.free (PySem.mem_of_lookup hyf) hcy
      have un := hr.un
      refine wpAny_mono (elt_in (X := X) (scope := scope) S.kind S.loc hyf hn hm env2 cell2 (reads_at data rw1) (reads_at data rdy) hl T.lay (T.flat d (List.mem_of_getElem? hd)) (by omega) nx ny nc) (fun z s3 q => ⟨⟨d, hd, q.1⟩, q.2⟩) fun _ _ e => e
  · intro g h5 tk5 gs bare lo5 sz5 kp5 W5 at5
    rw [GxR.passing_true, List.length_range] at W5
    refine args_nil (call_all_walkS (W5.in4_1.self 0 _ _ _ at5 ⟨g, _, _, _, _, _, _, fun j => (ds[j]?.map fun d => l.any fun z => PyData.eqv z d).getD false, rfl, W5.in4_1, at5, ?_, fun s' mv => ?_⟩))
    · rintro j z sj Qj Ej ⟨i, hij, d, hd, rfl⟩ q
      obtain ⟨_, ei⟩ := List.getElem?_eq_some_iff.mp hij
      have ji : j = i := by rw [← ei, List.getElem_range]
      subst ji
      have q2 : Qj ((ds[j]?.map fun d => l.any fun z => PyData.eqv z d).getD false) sj := q
      rw [hd] at q2
      exact wpAny_truthy_bool q2
    · have old : ∀ b w, b ≠ P → s1.heap.get? b = some w → g3.get? b = some w := fun b w hb e => ext b w hb (old2 b w e)
      have out : ∀ b, b < s1.heap.objs.size → b ∉ [g3.objs.size, s1.heap.objs.size] := fun b hb z => by
        have far : (s1.heap.objs.size : Nat) < g3.objs.size := iIn
        rcases (by simpa using z : b = g3.objs.size ∨ b = s1.heap.objs.size) with e | e <;> rw [e] at hb
        · exact Nat.lt_asymm far hb
        · exact Nat.lt_irrefl _ hb
      have J2 := GxR.inv_tab (more := more) (h' := s'.heap) (g' := s'.gens) (d' := s'.drawn) (t' := s'.toks) I1 T.tab (fun b w hb e => mv.heap b w (out b (Heap.lt_size e)) (kp5 b w (old b w hb e))) (mv.heap P _ (out P lens) (kp5 P _ tab3)) (AllBare.movedS (I1.bare.push bare) mv)
      have same : ({ s1 with heap := s'.heap, gens := s'.gens, drawn := s'.drawn, toks := s'.toks } : Shared) = s' := GxR.sh_eta s1 s' mv.os
      rw [same] at J2
      refine ⟨.bl (inAll ds l), _, J2, ?_, fin more tri3⟩
      show Value.bool _ = Value.bool _
      rw [nl, all_places]
      rfl
end
/-! ### over values -/
theorem put_self {S : Sto} {P : Addr} {o : SO} (h : S P = some o) : put S P o = S := funext fun b => by
  by_cases e : b = P
  · subst e; rw [put_same, h]
  · rw [put_ne e]
/-- a table's words, as the heap has them -/
theorem tab_of {K : PySem.W.Frag} {F : Fz} {S : Sto} {H : Hp} {P : Addr} {q : Option Str} (R : Rel K F S H) (h : S P = some (.tb q)) : ∃ ps : Array Value, H P = some (.tbl ps) ∧ TriplesOk ps.toList ∧ ∀ b o, F.f b = some o → H b = some o ∧ b ≠ P := by
  obtain ⟨_, o, ho, ps, rfl, t, _⟩ := R.st P _ h
  refine ⟨ps, ho, t, fun b o e => ⟨(R.fz b o e).1, fun z => ?_⟩⟩
  subst z
  cases (R.fz b o e).2.1.symm.trans h
def tAllIn3 (P : Addr) (iy : Nat) (te : TE3) : TE3 := fun τ S Q => te τ S fun w S1 => ∃ ds c l, w = .tup ds ∧ τ.sl[iy]? = some (some (.d c)) ∧ seqOf c = some l ∧ (∀ d ∈ ds, SeqAt.shaped d = true) ∧ PyData.canLayAll0 l = true ∧ S1 P = some (.tb none) ∧ Q (.bl (inAll ds l)) S1
section
variable {X : Cx} {Ex : WX}
theorem pe3_allIn {c P : Addr} {iter : Expr} {x y : Str} {px p p1 p2 p3 pos gpos : Pos} {scope : Scope} {te : TE3} {k : Nat} (iy : Nat)
    (hr : Room k X.A) (hg : Gl X "all") (hm : X.mg "all" = none) (TB : GxR.TabB X.base X.mg c P) (hcode : X.env.code = .ref c) (S : GxR.GenS X.env scope x) (hi : PE X iter (LE X.K Ex te))
    (hN : X.N[iy]? = some y) (hyc : X.env.scope.names.lookup y = some .cell) (hyf : scope.names.lookup y = some .free)
    (hs : ∀ v, genFold iter X.env v = pure v := by intro _; rfl) (nx : (x == ("__debug__" : Str)) = false := by decide) (ny : (y == ("__debug__" : Str)) = false := by decide) (nc : (y == ("__classdict__" : Str)) = false := by decide)
    (he : starEach [.GeneratorExp (.Compare (.Name x p1) [.In] [.Name y p2] p3) [⟨.Name x px, iter, [], 0⟩] scope gpos] X.env = (false, eval (.GeneratorExp (.Compare (.Name x p1) [.In] [.Name y p2] p3) [⟨.Name x px, iter, [], 0⟩] scope gpos) X.env) :: starEach [] X.env := by rfl) :
    PE X (.Call (.Name "all" p) [.GeneratorExp (.Compare (.Name x p1) [.In] [.Name y p2] p3) [⟨.Name x px, iter, [], 0⟩] scope gpos] [] pos) (LE X.K Ex (tAllIn3 P iy te)) :=
  pe_imp (pe_allIn iy hr hg hm TB hcode S hi hN hyc hyf hs (by decide +kernel) nx ny nc he) fun σ H Q ⟨F, S, τ, Q3, R, Ev, h, k⟩ => ⟨F, S, τ, _, R, Ev, h, fun F1 S1 H1 w v s1 R1 r1 ⟨ds, d, l, e, hτ, hl, fl, lay, tb, q⟩ => by
    subst e
    obtain ⟨ps, hP, ht, sm⟩ := tab_of R1 tb
    obtain ⟨u, hu, ru⟩ := Ev.sl.2 iy _ hτ
    refine ⟨ds, l, ps, ⟨⟨F1.f, u, d, sm, r1, hu, RepW.mono s1 ru, hl⟩, fl, lay, hP, ht⟩, fun more tri => ?_⟩
    have R2 : Rel X.K F1 S1 (upd H1 P (.tbl (ps ++ more))) := by
      have := R1.write (q := .tb none) tb (o := .tbl (ps ++ more)) ⟨_, rfl, tri, fun x hx => nomatch hx⟩
      rwa [put_self tb] at this
    exact k F1 S1 _ _ _ s1 R2 mk_bl q⟩
end
end H3

/-! H3w: defs that tell code objects in a table: the head's facts, the law's end. -/
namespace H3
open PySem PySem.Spec L2
open PyProof.Rows hiding St
/-! ### the head's facts -/
/-- the tables of the code objects among these -/
def tabsIn (g : Addr → Option Obj) (as : List Addr) : List Addr := as.flatMap fun a => match g a with
  | some ⟨.type cn, _, .fields vs, _⟩ => if cn == "code" then (match (vs[11]? : Option Value) with
    | some (.ref P) => [P]
    | _ => []) else []
  | _ => []
/-- all but those -/
def noTabs (g : Addr → Option Obj) (as : List Addr) : List Addr := as.filter fun a => !(tabsIn g as).contains a
def isStr : Value → Bool
  | .str _ _ => true
  | _ => false
def isInt : Value → Bool
  | .int _ _ => true
  | _ => false
def isBool : Value → Bool
  | .bool _ => true
  | _ => false
def bareTab : Option Obj → Bool
  | some ⟨.none, none, .fields ws, sl⟩ => ws.isEmpty && sl.isEmpty
  | _ => false
/-- the def at f has a code object with an empty table of its own -/
def tabB (g : Addr → Option Obj) (K : PySem.W.Frag) (f : Addr) : Bool := match K.lookup f with
  | some ⟨_, _, .func fnD, _⟩ => (match fnD.code with
    | .ref c => (match g c with
      | some ⟨.type cn, _, .fields vs, _⟩ => (match (vs[11]? : Option Value) with
        | some (.ref P) => (cn == "code" && isStr (vs.getD 18 .none)) && ((isInt (vs.getD 7 .none) && isBool (vs.getD 9 .none)) && (isInt (vs.getD 10 .none) && (decide (c ≠ P) && (bareTab (g P) && (K.lookup P).isNone))))
        | _ => false)
      | _ => false)
    | _ => false)
  | _ => false
def tabOf (g : Addr → Option Obj) (K : PySem.W.Frag) (f : Addr) : Addr × Addr := match K.lookup f with
  | some ⟨_, _, .func fnD, _⟩ => (match fnD.code with
    | .ref c => (match g c with
      | some ⟨_, _, .fields ws, _⟩ => (match (ws[11]? : Option Value) with
        | some (.ref P) => (c, P)
        | _ => (0, 0))
      | _ => (0, 0))
    | _ => (0, 0))
  | _ => (0, 0)
def apart : List Addr → Bool
  | [] => true
  | a :: l => !l.contains a && apart l
theorem apart_ok : ∀ {l : List Addr}, apart l = true → l.Nodup
  | [], _ => .nil
  | a :: l, h => by
    obtain ⟨h1, h2⟩ := Bool.and_eq_true_iff.mp (show (!l.contains a && apart l) = true from h)
    refine List.nodup_cons.mpr ⟨fun m => ?_, apart_ok h2⟩
    rw [List.contains_iff_mem.mpr m] at h1
    cases h1
/-- told of a def with a table: its code object, the table -/
def TabAt (K : PySem.W.Frag) (h : Heap) (f c P : Addr) : Prop :=
  (∃ oc od fd sl, K.lookup f = some ⟨oc, od, .func fd, sl⟩ ∧ fd.code = .ref c) ∧ PySem.W.CodeHd h c P ∧ h.get? P = some { cls := .none, data := .fields #[] } ∧ K.lookup P = none
theorem isStr_ok {v : Value} (h : isStr v = true) : ∃ x t, v = .str x t := by cases v <;> first | exact ⟨_, _, rfl⟩ | cases h
theorem isInt_ok {v : Value} (h : isInt v = true) : ∃ x t, v = .int x t := by cases v <;> first | exact ⟨_, _, rfl⟩ | cases h
theorem isBool_ok {v : Value} (h : isBool v = true) : ∃ b, v = .bool b := by cases v <;> first | exact ⟨_, rfl⟩ | cases h
theorem bareTab_ok {o : Option Obj} (h : bareTab o = true) : o = some { cls := .none, data := .fields #[] } := by
  unfold bareTab at h
  split at h
  · rename_i ws sl
    obtain ⟨none1, none2⟩ := Bool.and_eq_true_iff.mp h
    rw [Array.isEmpty_iff] at none1 none2
    subst none1 none2
    rfl
  · cases h
theorem tabB_ok {h : Heap} {K : PySem.W.Frag} {f : Addr} (e : tabB h.get? K f = true) : TabAt K h f (tabOf h.get? K f).1 (tabOf h.get? K f).2 := by
  unfold tabB at e
  split at e
  · rename_i oc od fd sl hf
    split at e
    · rename_i c hc
      split at e
      · rename_i cn dd vs sl2 ho
        split at e
        · rename_i P hP
          simp only [Bool.and_eq_true, decide_eq_true_eq] at e
          obtain ⟨⟨e1, e2⟩, ⟨e3, e4⟩, e5, e6, e7, e8⟩ := e
          obtain ⟨x, tx, q1⟩ := isStr_ok e2
          obtain ⟨y, ty, q2⟩ := isInt_ok e3
          obtain ⟨b, q3⟩ := isBool_ok e4
          obtain ⟨z, tz, q4⟩ := isInt_ok e5
          have cc := beq_iff_eq.mp e1
          subst cc
          have p11 : vs.getD 11 .none = .ref P := by rw [Array.getD_eq_getD_getElem?, hP]; rfl
          have here : tabOf h.get? K f = (c, P) := by simp only [tabOf, hf, hc, ho, hP]
          rw [here]
          exact ⟨⟨_, _, _, _, hf, hc⟩, ⟨_, vs, x, tx, y, ty, b, z, tz, ho, rfl, rfl, hP, p11, q1, q2, q3, q4, e6⟩, bareTab_ok e7, Option.isNone_iff_eq_none.mp e8⟩
        · cases e
      · cases e
    · cases e
  · cases e
theorem TabAt.keeps {K : PySem.W.Frag} {h h' : Heap} {f c P : Addr} (t : TabAt K h f c P) (k : ∀ b o, h.get? b = some o → h'.get? b = some o) : TabAt K h' f c P := ⟨t.1, t.2.1.keeps k, k _ _ t.2.2.1, t.2.2.2⟩
abbrev AlT : Type := He.AlD × Bool
/-- fa, fn as He.hookD has them; tn: the defs with tables -/
def obsT (n : Nat) (fa : List He.Fa) (fn : List He.DefD) (tn : List (Str × Option Str)) (g : Addr → Option Obj) : AlT :=
  (fun K : PySem.W.Frag => (He.obsD fa fn K, (tn.all fun p => tabB g K (He.fAd K p)) && apart (tn.map fun p => (tabOf g K (He.fAd K p)).2))) (He.frG g (noTabs g (He.asD g n)))
/-- the tables cs of the defs tn -/
structure Tabs (K : PySem.W.Frag) (h : Heap) (tn : List (Str × Option Str)) (cs : List (Addr × Addr)) : Prop where
  all : Paired (fun p c => TabAt K h (He.fAd K p) c.1 c.2) tn cs
  apart : (cs.map (·.2)).Nodup
theorem paired_map {α β : Type} {R : α → β → Prop} (f : α → β) : ∀ l : List α, (∀ a ∈ l, R a (f a)) → Paired R l (l.map f)
  | [], _ => .nil
  | a :: l, h => .cons (h a List.mem_cons_self) (paired_map f l fun b hb => h b (List.mem_cons_of_mem _ hb))
def hookT (n : Nat) (fa : List He.Fa) (fn : List He.DefD) (tn : List (Str × Option Str)) : PySem.W.Hook where
  α := AlT
  obs := fun s => obsT n fa fn tn s.heap.get?
  val := fun _ => (He.valD fn, true)
  says := fun _ h => ∃ K : PySem.W.Frag, K.In h ∧ He.SaysD fa fn K ∧ ∃ cs, Tabs K h tn cs
  of := fun _ s e => by
    have e1 := congrArg (fun z : AlT => z.1) e
    obtain ⟨e2, e3⟩ := Bool.and_eq_true_iff.mp (congrArg (fun z : AlT => z.2) e)
    exact ⟨_, He.frG_in, e1, _, paired_map _ tn fun p hp => tabB_ok (List.all_eq_true.mp e2 p hp), by rw [List.map_map]; exact apart_ok e3⟩
  keeps := fun _ _ _ ⟨K, i, c, cs, t⟩ k => ⟨K, PySem.W.Frag.In.keeps i k, c, cs, Paired.mapP t.all fun _ _ q => q.keeps k, t.apart⟩
theorem obsT_eq {n : Nat} {fa : List He.Fa} {fn : List He.DefD} {tn : List (Str × Option Str)} {g : Addr → Option Obj} {s : Shared} (h : ∀ a, g a = s.heap.get? a) : obsT n fa fn tn g = (hookT n fa fn tn).obs s := by
  obtain rfl : g = s.heap.get? := funext h
  rfl
/-! ### a law's end, with tables -/
section
variable {P : Program} {w : World} {K : PySem.W.Frag} {mg mb : Str → Option Value} {k : Nat} {fa a : Addr} {cs : List (Addr × Addr)} {fd : FuncData} {x : Str} {sp : Sp} {s₁ : Shared} {vs : List Value} {ns : List Int}
/-- where nothing but the script and the tables may be tracked -/
theorem law_coreT {H : Hp} (KX : K.In s₁.heap) (hns : s₁.heap.Ns mainGlobals mg) (hb : s₁.heap.Ns builtinsNs mb) (hbb : ∀ x : Str, x ≠ "__name__" → mb x = bootBuiltins x) (hlim : s₁.heap.NoLimit) (hg : s₁.gens = #[])
    (hm : ∃ (bm : Addr) (ob : Obj), mg "__builtins__" = some (.ref bm) ∧ bm ≠ builtinsNs ∧ s₁.heap.get? bm = some ob ∧ ob.cls = .type "module" ∧ ob.dict = some builtinsNs ∧ ob.data = .plain)
    (tab : ∀ p ∈ cs, PySem.W.CodeHd s₁.heap p.1 p.2 ∧ s₁.heap.get? p.2 = some { cls := .none, data := .fields #[] } ∧ K.lookup p.2 = none)
    (ha : s₁.heap.get? a = some { cls := .type "list", data := .seq vs.toArray }) (hr : Room k callerA) (F : ∀ base : Heap, K.In base → base.Ns mainGlobals mg → (∀ p ∈ cs, GxR.TabB base mg p.1 p.2) → FnG P w K mg base (L2.CX P w) k fa fd [x] sp)
    (hbind : ∀ (s : Shared) (u : Value), BindsTo s fd ⟨[u], []⟩ [(x, u)]) (hH : ∀ p ∈ cs, H p.2 = some (.tbl #[])) (hO : ∀ b, b ∉ cs.map (·.2) → H b = none ∨ b = a ∧ ∃ o us, H b = some (.frz o (.lst us)))
    (hsp : sp [.ref a] H (fun v _ => v = .bl true) fun _ _ _ => False) (hok : HOk P w H s₁.heap) (hK : H a ≠ none → K.lookup a = none) : LawEnd P w fa a s₁ := by
  have atTab : ∀ b, b ∈ cs.map (·.2) → s₁.heap.get? b = some { cls := .none, data := .fields #[] } ∧ K.lookup b = none := fun b m => by
    obtain ⟨p, at_, rfl⟩ := List.mem_map.mp m
    exact (tab p at_).2
  have free : ∀ b o, s₁.heap.get? b = some o → o.data ≠ .fields #[] → o.data ≠ .seq vs.toArray → H b = none := fun b o e n1 n2 => by
    have nb : b ∉ cs.map (·.2) := fun h => by
      cases e.symm.trans (atTab b h).1
      exact n1 rfl
    rcases hO b nb with z | ⟨rfl, _⟩
    · exact z
    · cases e.symm.trans ha
      exact (n2 rfl).elim
  have see : ∀ b o, s₁.heap.get? b = some o → o.data ≠ .fields #[] → o.data ≠ .seq vs.toArray → (hidT s₁.heap H).get? b = some o := fun b o e n1 n2 => hidT_get e (free b o e n1 n2)
  have space : ∀ {b : Addr} {m : Str → Option Value}, s₁.heap.Ns b m → (hidT s₁.heap H).Ns b m := fun {b m} ⟨o, es, ep, e, d, r⟩ => ⟨o, es, ep, see b o e (by rw [d]; exact fun z => nomatch z) (by rw [d]; exact fun z => nomatch z), d, r⟩
  have known : K.In (hidT s₁.heap H) := fun b o e => by
    refine hidT_get (KX b o e) ?_
    by_cases nb : b ∈ cs.map (·.2)
    · cases e.symm.trans (atTab b nb).2
    · rcases hO b nb with z | ⟨rfl, fo, us, z⟩
      · exact z
      · cases e.symm.trans (hK (by rw [z]; exact fun q => nomatch q))
  have tables : ∀ p ∈ cs, GxR.TabB (hidT s₁.heap H) mg p.1 p.2 := fun p hp => by
    obtain ⟨⟨o, us, x1, t1, x2, t2, x3, x4, t4, c1, c2, c3, c4, c5⟩, e0, _⟩ := tab p hp
    refine ⟨⟨o, us, x1, t1, x2, t2, x3, x4, t4, see _ _ c1 (fun z => ?_) (by rw [c3]; exact fun z => nomatch z), c2, c3, c4, c5⟩, ?_, fun z => ?_⟩
    · rw [c3] at z
      cases z
      simp at c4
    · obtain ⟨bm, ob, b1, b2, b3, b4, b5, b6⟩ := hm
      refine ⟨bm, ob, b1, b2, fun z => ?_, fun z => ?_, see _ _ b3 (by rw [b6]; exact fun z => nomatch z) (by rw [b6]; exact fun z => nomatch z), b4, b5, b6⟩
      · obtain ⟨o2, es, ep, q, d, _⟩ := hns
        subst z
        cases q.symm.trans b3
        rw [b6] at d
        cases d
      · subst z
        cases e0.symm.trans b3
        cases b6
    · obtain ⟨o2, es, ep, q, d, _⟩ := hns
      rw [z, e0] at q
      cases q
      cases d
  obtain ⟨mc, l1, l2⟩ := hlim
  have e0 : Env0 P w K mg (hidT s₁.heap H) callerA [] s₁ H :=
    { frames := rfl, mod := ⟨known, space hns, ⟨mb, space hb, hbb⟩, ⟨mc, space l1, l2⟩⟩, bs := fun b o e => of_hidT e, bsz := Nat.le_of_eq (hidT_size _ _), funs := trivial, frf := fun b z => absurd z (by simp [frs]), hok := hok, bare := .of_eq hg }
  refine codeAny_mono ((F _ known (space hns) tables).run callerA [] s₁ H ⟨[.ref a], []⟩ [.ref a] [.ref a] _ _ rfl hr e0 (hbind s₁ (.ref a)) (.cons rfl .nil) hsp) fun r s' h => ?_
  match r, h with
  | .error e, ⟨_, _, _, _, _, _, _, _, _, _, _, _, no⟩ => exact no.elim
  | .ok .next, h => exact h.elim
  | .ok .brk, h => exact h.elim
  | .ok .cont, h => exact h.elim
  | .ok (.ret u), ⟨v, G, sky, bare, un, hok', r', q⟩ =>
    cases (show v = .bl true from q)
    cases (show u = Value.bool true from r')
    have stays : ∀ b o, s₁.heap.get? b = some o → b ∉ cs.map (·.2) → s'.heap.get? b = some o := fun b o e nb => by
      rcases hO b nb with z | ⟨_, fo, us, z⟩
      · exact un.keep b o e z (by simp [frs]) (by simp)
      · have after := (hok' b _ (un.frzs b fo _ z)).1
        cases e.symm.trans (hok b _ z).1
        exact after
    have grows : ∀ p ∈ cs, ∃ more : Array Value, s'.heap.get? p.2 = some { cls := .none, data := .fields (#[] ++ more) } := fun p hp => by
      obtain ⟨added, z⟩ := un.tbls p.2 #[] (hH p hp)
      exact ⟨added, hok' p.2 _ z⟩
    refine ⟨rfl, ⟨fun b o e => ?_, fun b o e => ?_⟩, sky, bare⟩ <;> by_cases nb : b ∈ cs.map (·.2)
    · obtain ⟨p, hp, rfl⟩ := List.mem_map.mp nb
      obtain ⟨more, z⟩ := grows p hp
      cases e.symm.trans (tab p hp).2.1
      exact .inr (.inl ⟨((tab p hp).1.tab (tab p hp).2.1).isCodeTable, rfl, #[], more, rfl, z⟩)
    · exact .inl (stays b o e nb)
    · obtain ⟨p, hp, rfl⟩ := List.mem_map.mp nb
      obtain ⟨more, z⟩ := grows p hp
      exact ⟨_, z⟩
    · exact ⟨o, stays b o e nb⟩
end
/-! ### a law over values, with tables -/
def tblAt (cs : List (Addr × Addr)) (i : Nat) : Addr := (cs.getD i (0, 0)).2
/-- the store in the beginning: the tables -/
def tabSto : List (Addr × Addr) → List (Option Str) → Sto
  | c :: cs, q :: qs => put (tabSto cs qs) c.2 (.tb q)
  | _, _ => fun _ => none
theorem tabSto_in : ∀ {cs : List (Addr × Addr)} {qs : List (Option Str)} {b : Addr} {o : SO}, tabSto cs qs b = some o → b ∈ cs.map (·.2) ∧ ∃ q, o = .tb q
  | [], _, _, _, h => nomatch h
  | _ :: _, [], _, _, h => nomatch h
  | c :: cs, q :: qs, b, o, h => by
    by_cases e : b = c.2
    · subst e
      rw [show tabSto (c :: cs) (q :: qs) = put (tabSto cs qs) c.2 (.tb q) from rfl, put_same] at h
      cases h
      exact ⟨List.mem_cons_self, q, rfl⟩
    · rw [show tabSto (c :: cs) (q :: qs) = put (tabSto cs qs) c.2 (.tb q) from rfl, put_ne e] at h
      exact (tabSto_in h).imp (List.mem_cons_of_mem _) id
theorem tabSto_at : ∀ {cs : List (Addr × Addr)} {qs : List (Option Str)}, cs.length = qs.length → (cs.map (·.2)).Nodup → ∀ {i : Nat} {q : Option Str}, qs[i]? = some q → tabSto cs qs (tblAt cs i) = some (.tb q)
  | [], [], _, _, _, _, h => nomatch h
  | c :: cs, q0 :: qs, hl, nd, 0, q, h => by
    cases h
    exact put_same
  | c :: cs, q0 :: qs, hl, nd, i + 1, q, h => by
    have ⟨n1, n2⟩ := List.nodup_cons.mp nd
    have rest := tabSto_at (cs := cs) (qs := qs) (Nat.succ.inj hl) n2 (i := i) h
    have ne : tblAt cs i ≠ c.2 := fun e => n1 (by show c.2 ∈ cs.map (·.2); rw [← e]; exact (tabSto_in rest).1)
    show put (tabSto cs qs) c.2 (.tb q0) (tblAt cs i) = _
    rw [put_ne ne]
    exact rest
theorem walk3T {l : PySem.W.OpenLaw} {k : Nat} {q : Program} {loose : List Str} {XP : (Str → Option Value) → Heap → Prop} {YP : World → Heap → Prop} {d : DefRec} {x : Str} (hn : l.most = some 63) (hdf : d.params.defaults = []) (hr : Room k callerA) (qs : List (Option Str)) (sp : (Nat → Addr) → Sp3)
    (F : ∀ (w : World) (mg : Str → Option Value) (fa : Addr) (h : Heap), YP w h → h.Ns mainGlobals mg → mg d.name = some (.ref fa) → ∃ (K : PySem.W.Frag) (fd : FuncData) (cs : List (Addr × Addr)), K.In h ∧ cs.length = qs.length ∧ (cs.map (·.2)).Nodup ∧ (∀ p ∈ cs, PySem.W.CodeHd h p.1 p.2 ∧ h.get? p.2 = some { cls := .none, data := .fields #[] } ∧ K.lookup p.2 = none) ∧ (∀ (s : Shared) (u : Value), BindsTo s fd ⟨[u], []⟩ [(x, u)]) ∧
      ∀ base : Heap, K.In base → base.Ns mainGlobals mg → (∀ p ∈ cs, GxR.TabB base mg p.1 p.2) → FnG l.prog w K mg base (L2.CX l.prog w) k fa fd [x] (LSp K (sp (tblAt cs))))
    (hsp : ∀ (tb : Nat → Addr) (S : Sto) (ns : List Int), ns.length ≤ 63 → (∀ i q, qs[i]? = some q → S (tb i) = some (.tb q)) → sp tb [.lst (ns.map PyData.int)] S (fun w _ => w = .bl true) X0) :
    PySem.W.WalkO q loose XP YP l.row.toRowW d [] (fun g us => PySem.call g us) := by
  apply Att.attach_call hn hdf
  intro w s₀ s₁ mg mb fa o pm cd doc a vs ns G Y ho hd hcd hmg hobj hints hlen hg
  obtain ⟨K, fd, cs, KX, hl, nd, tab, hb, hF⟩ := F w mg fa _ Y G.T.g hmg
  have fits : ns.length ≤ sizeLine := Nat.le_trans hlen (by decide)
  have rv := vals_ints hints
  have aOut : a ∉ cs.map (·.2) := fun m => by
    obtain ⟨p, hp, at_⟩ := List.mem_map.mp m
    have bare := (tab p hp).2.1
    rw [at_] at bare
    cases bare.symm.trans hobj
  have run : ∀ H : Hp, (∀ p ∈ cs, H p.2 = some (.tbl #[])) → (∀ b, b ∉ cs.map (·.2) → H b = none ∨ b = a ∧ ∃ o us, H b = some (.frz o (.lst us))) → SqL K H a (ns.map V.int) → HOk l.prog w H s₁.heap → (H a ≠ none → K.lookup a = none) → LawEnd l.prog w fa a s₁ := fun H h1 h2 h3 h4 h5 => by
    refine law_coreT KX G.T.g G.T.b G.T.builtins G.T.nolimit hg G.T.bmain tab hobj hr hF hb h1 h2 ?_ h4 h5
    have da : ∀ us : List Int, DpAll K (fun b => if b ∈ cs.map (·.2) then none else H b) (us.map V.int) (us.map PyData.int) := fun us => by
      induction us with
      | nil => exact .nil
      | cons n us ih => exact .cons (.int n) ih
    have h3' : SqL K (fun b => if b ∈ cs.map (·.2) then none else H b) a (ns.map V.int) := by
      rcases h3 with (z | ⟨o, z⟩) | z
      · exact .inl (.inl ((if_neg aOut).trans z))
      · exact .inl (.inr ⟨o, (if_neg aOut).trans z⟩)
      · exact .inr z
    refine ⟨⟨fun _ => none, fun b => if b ∈ cs.map (·.2) then none else H b⟩, tabSto cs qs, [.lst (ns.map PyData.int)], fun w _ => w = .bl true, X0, ⟨fun b o e => ?_, fun b p e => ?_, (fun a o e => (nomatch e))⟩, .cons (show Dp K _ (.ref a) (.list (ns.map PyData.int)) from .lst h3' (da ns)) .nil, hsp _ _ ns hlen fun i q e => tabSto_at hl nd e, ?_, H3.KX.no⟩
    · have e : (if b ∈ cs.map (·.2) then none else H b) = some o := e
      by_cases m : b ∈ cs.map (·.2)
      · rw [if_pos m] at e; cases e
      · rw [if_neg m] at e
        refine ⟨e, ?_, rfl⟩
        cases z : tabSto cs qs b with
        | none => rfl
        | some u => exact absurd (tabSto_in z).1 m
    · obtain ⟨m, q, rfl⟩ := tabSto_in e
      obtain ⟨c, hc, rfl⟩ := List.mem_map.mp m
      exact ⟨rfl, _, h1 c hc, #[], rfl, trivial, fun x hx pos cv z => nomatch z⟩
    · intro F' S' H' w v _ _ r q
      subst q
      exact rep_bl r
  have tabOk : ∀ b, b ∈ cs.map (·.2) → s₁.heap.get? b = some { cls := .none, data := .fields #[] } := fun b m => by
    obtain ⟨p, hp, rfl⟩ := List.mem_map.mp m
    exact (tab p hp).2.1
  cases hk : K.lookup a with
  | some u =>
    cases (KX a u hk).symm.trans hobj
    refine run (fun b => if b ∈ cs.map (·.2) then some (.tbl #[]) else none) (fun p hp => if_pos (List.mem_map_of_mem hp)) (fun b m => .inl (if_neg m)) (.inr ⟨_, vs.toArray, _, hk, rfl, rfl, rfl, by rw [List.size_toArray, hints.length]; exact fits, by simpa using rv⟩) (fun b o e => ?_) fun z => absurd (if_neg aOut) z
    by_cases m : b ∈ cs.map (·.2)
    · cases (if_pos m).symm.trans e
      exact tabOk b m
    · cases (if_neg m).symm.trans e
  | none =>
    refine run (fun b => if b ∈ cs.map (·.2) then some (.tbl #[]) else if b = a then some (.frz { cls := .type "list", data := .seq vs.toArray } (.lst (ns.map V.int))) else none) (fun p hp => if_pos (List.mem_map_of_mem hp)) (fun b m => ?_) (.inl (.inr ⟨{ cls := .type "list", data := .seq vs.toArray }, (if_neg aOut).trans (if_pos rfl)⟩)) (fun b o e => ?_) fun _ => hk
    · by_cases z : b = a
      · exact .inr ⟨z, _, _, (if_neg m).trans (if_pos z)⟩
      · exact .inl ((if_neg m).trans (if_neg z))
    · by_cases m : b ∈ cs.map (·.2)
      · cases (if_pos m).symm.trans e
        exact tabOk b m
      · have e2 := (if_neg m).symm.trans e
        by_cases z : b = a
        · cases (if_pos z).symm.trans e2
          subst z
          exact ⟨hobj, (List.length_map (as := ns) V.int).symm ▸ fits, vs, _, rv, hobj⟩
        · cases (if_neg z).symm.trans e2
/-! ### words for the printed texts -/
theorem Tabs.len {K : PySem.W.Frag} {h : Heap} {tn : List (Str × Option Str)} {cs : List (Addr × Addr)} (t : Tabs K h tn cs) : tn.length = cs.length := Paired.length t.all
theorem paired_at {α β : Type} {R : α → β → Prop} : ∀ {as : List α} {bs : List β}, Paired R as bs → ∀ {i : Nat} {a : α}, as[i]? = some a → ∃ b, bs[i]? = some b ∧ R a b
  | _, _, .nil, _, _, h => nomatch h
  | _, _, .cons r _, 0, _, h => by cases h; exact ⟨_, rfl, r⟩
  | _, _, .cons _ rs, i + 1, _, h => paired_at rs (i := i) h
theorem Tabs.at {K : PySem.W.Frag} {h : Heap} {tn : List (Str × Option Str)} {cs : List (Addr × Addr)} (t : Tabs K h tn cs) (i : Nat) {p : Str × Option Str} (e : tn[i]? = some p) : ∃ c, cs[i]? = some c ∧ TabAt K h (He.fAd K p) c.1 c.2 := paired_at t.all e
theorem paired_mem {α β : Type} {R : α → β → Prop} : ∀ {as : List α} {bs : List β}, Paired R as bs → ∀ b ∈ bs, ∃ a, R a b
  | _, _, .cons r rs, b, m => by
    rcases List.mem_cons.mp m with e | m
    · exact ⟨_, e ▸ r⟩
    · exact paired_mem rs b m
theorem Tabs.each {K : PySem.W.Frag} {h : Heap} {tn : List (Str × Option Str)} {cs : List (Addr × Addr)} (t : Tabs K h tn cs) : ∀ p ∈ cs, PySem.W.CodeHd h p.1 p.2 ∧ h.get? p.2 = some { cls := .none, data := .fields #[] } ∧ K.lookup p.2 = none := fun p hp => (paired_mem t.all p hp).elim fun _ q => q.2
theorem code_of {K : PySem.W.Frag} {h : Heap} {x q : Str} {st : Stmt} {f c P : Addr} {fd : FuncData} (F : MtP K x q st f fd) (t : TabAt K h f c P) : fd.code = .ref c := by
  obtain ⟨_, _, _, _, _, _, _, _, _, _, rfl, lk, _⟩ := F.ex
  obtain ⟨⟨_, _, fn, _, e, hc⟩, _⟩ := t
  cases lk.symm.trans e
  exact hc
theorem tab_at {base : Heap} {mg : Str → Option Value} {cs : List (Addr × Addr)} (T : ∀ p ∈ cs, GxR.TabB base mg p.1 p.2) {i : Nat} {c : Addr × Addr} (h : cs[i]? = some c) : GxR.TabB base mg c.1 (tblAt cs i) := by
  have e : tblAt cs i = c.2 := by
    unfold tblAt
    rw [List.getD_eq_getElem?_getD, h]
    rfl
  rw [e]
  exact T c (List.mem_of_getElem? h)
/-- the scope of a generator expression whose captured names are cells of the def -/
theorem genS_by {env : Env} {n : Nat} {sc scope : Scope} {x : Str} (he : env.cells = cellsFrom n sc.names []) (hk : scope.kind = .function) (co : scope.isCoroutine = false) (cell : ∀ y ∈ scope.names, y.2 ≠ .cell) (dot : scope.names.lookup (".0" : Str) = some NameKind.local) (loc : scope.names.lookup x = some .local)
    (fr : ∀ y ∈ scope.names, y.2 = .free → sc.names.lookup y.1 = some .cell) : GxR.GenS env scope x :=
  ⟨hk, co, cell, dot, loc, fun y m e => by
    rw [he]
    exact Option.isSome_iff_exists.mp (PySem.W.cellsFrom_some sc.names n [] (.inl (fr y m e)))⟩
end H3

/-! H3x: sorted of a new set of ints. -/
namespace H3
open PySem PySem.Spec PySem.W L2
open PyProof.Rows hiding St
section
variable {prog : Program} {w : World} {A : Around} {s : Shared} {E : Value → Shared → Prop}
theorem ints_each {h : Heap} : ∀ {vs : List Value} {ns : List Int}, IntsAre vs ns → EachIs (fun v i => (∃ t, v = .int i t) ∧ ∃ as, Reads h v (.int i) as) vs ns
  | _, _, .nil => .nil
  | _, _, .cons n t r => .cons ⟨⟨t, rfl⟩, [], .int n t⟩ (ints_each r)
theorem each_ints : ∀ {vs : List Value} {ns : List Int}, EachIs (fun v i => ∃ t, v = .int i t) vs ns → IntsAre vs ns
  | _, _, .nil => .nil
  | _, _, .cons ⟨t, e⟩ r => e ▸ .cons _ t (each_ints r)
theorem int_le : (dataLe false fun i : Int => PyData.int i) = fun a b : Int => decide (a ≤ b) := dataLe_int id
theorem rises {l : List Int} (nd : l.Nodup) : (l.mergeSort (dataLe false fun i : Int => PyData.int i)).Pairwise (· < ·) := by
  rw [int_le]
  have up : (l.mergeSort fun a b : Int => decide (a ≤ b)).Pairwise fun a b => decide (a ≤ b) = true := List.pairwise_mergeSort (le := fun a b : Int => decide (a ≤ b)) (fun a b c h1 h2 => by simp only [decide_eq_true_eq] at *; omega) (fun a b => by simp only [Bool.or_eq_true, decide_eq_true_eq]; omega) l
  refine lt_of_le_nodup _ (up.imp fun h => of_decide_eq_true h) ((List.mergeSort_perm l _).nodup_iff.mpr nd)
/-- sorted(a set of ints), as many as there may be -/
theorem sorted_ints_set {a : Addr} {S : Int → Bool} {n : Nat} {Q : Value → Shared → Prop} (R : SetR w s.heap a S n) (hh : A.handled = none) (hu : A.units + 10 < cLine)
    (hQ : ∀ (t : Shared) (p : Addr) (out : Array Value) (c : Nat) (ns : List Int), (∀ b o, s.heap.get? b = some o → t.heap.get? b = some o) → t.gens = s.gens → t.os = s.os → s.heap.objs.size ≤ p → t.heap.get? p = some (seqObj "list" out c) →
      IntsAre out.toList ns → ns.Pairwise (· < ·) → (∀ k, k ∈ ns ↔ S k = true) → ns.length = n → Q (.ref p) t) :
    wpAny (model prog w) A (call (.builtin "sorted") [.ref a]) Q E s := by
  obtain ⟨o, es, ep, tb, ho, hex, hd, good, nd, mem, room, fits, hn, ris, led⟩ := R
  refine Calls.call_function_entry kind_sorted plain_sorted entry_sorted (args_sorted1 _) (by
    unfold Builtin.«sorted»
    refine wpAny_bind (m := checkCount "sorted" 1 1 _) (wpAny_pure (wpAny_bind (collect_set (A := A.in1) hh ⟨o, ho, hex.1, hd⟩ fits room ris led fun s1 vs k1 low g1 o1 pm => ?_)))
    have areI : IntsAre vs (vs.map Builtin.Re.reRawOf) := L2.ints_of vs fun v hv => by
      obtain ⟨en, hen, q⟩ := List.mem_map.mp (pm.mem_iff.mp hv)
      obtain ⟨i, t, h1, _⟩ := good en hen
      exact ⟨i, t, q ▸ h1⟩
    have same : (vs.map Builtin.Re.reRawOf).Perm (es.toList.map keyOf) := by
      have same := pm.map Builtin.Re.reRawOf
      rwa [List.map_map] at same
    generalize vs.map Builtin.Re.reRawOf = ns at areI same
    have lens : ns.length = n := by rw [same.length_eq, List.length_map, Array.length_toList, hn]
    have lv : vs.length = n := areI.length.trans lens
    have small : vs.length ≤ sizeLine := by rw [lv, ← hn]; exact fits_of_scanBound room
    refine wpAny_bind (wpAny_newList ?_ small)
    have laid : (s1.heap.push (seqObj "list" vs.toArray 0)).get? s1.heap.objs.size = some (seqObj "list" vs.toArray 0) := Heap.get?_push_size _ rfl
    have rdAll : ∀ h : Heap, EachIs (fun v d => ∃ as, Reads h v d as) vs (ns.map PyData.int) := fun h => each_map (R := fun v d => ∃ as, Reads h v d as) PyData.int ((ints_each (h := h) areI).mono fun _ _ q => q.2)
    have alikes : AllAlike (ns.map PyData.int) := .of fun _ _ => by simp [alike]
    refine wpAny_bind (wpAny_holding (wpAny_call_entry slot_list_sort ⟨_, laid, rfl⟩ entry_list_sort (list_sort_vals (κ := dataKind (sortingHeap (s1.heap.push (seqObj "list" vs.toArray 0)) s1.heap.objs.size vs) (ns.map PyData.int)) laid
      (SortsAt.data (s := { s1 with heap := sortingHeap (s1.heap.push (seqObj "list" vs.toArray 0)) s1.heap.objs.size vs }) (rdAll _) alikes (.others fun _ => ⟨fun z => (nomatch z), fun _ z => (nomatch z)⟩) fun d hd => ?_) small ⟨_, rfl, ?_⟩) (args_list_sort _)))
    · obtain ⟨i, _, rfl⟩ := List.mem_map.mp hd
      show A.units + 1 + 1 + PyData.depth (.int i) < cLine
      simp only [PyData.depth]
      omega
    · have out := sortVals_data (h' := sortingHeap (s1.heap.push (seqObj "list" vs.toArray 0)) s1.heap.objs.size vs) (enc := fun i : Int => PyData.int i) false ((ints_each (h := s1.heap) areI).mono fun _ _ q => q.1) ((ints_each (h := _) areI).mono fun _ _ q => q.2) alikes
      obtain ⟨c, hc⟩ := sortedHeap_at (vs := vs) (out := (sortVals (dataKind (sortingHeap (s1.heap.push (seqObj "list" vs.toArray 0)) s1.heap.objs.size vs) (ns.map PyData.int)) false vs vs).toArray) laid
      have perm : (ns.mergeSort (dataLe false fun i : Int => PyData.int i)).Perm (es.toList.map keyOf) := (List.mergeSort_perm ns _).trans same
      refine wpAny_pure ⟨_, rfl, hQ _ s1.heap.objs.size _ c (ns.mergeSort (dataLe false fun i : Int => PyData.int i)) (fun b u e => ?_) g1 o1 low hc (by rw [List.toList_toArray]; exact each_ints out) (rises (same.nodup_iff.mpr nd)) (fun k => by rw [perm.mem_iff, ← mem k]) ?_⟩
      · have q := k1 b u e
        have lt := Heap.lt_size q
        exact (sortedHeap_old (Nat.ne_of_lt lt) (by rw [size_push']; exact Nat.lt_succ_of_lt lt)).trans (Heap.get?_push_of_some _ q)
      · rw [(List.mergeSort_perm ns _).length_eq, lens])
end
/-! ### the rule -/
section
variable {X : Cx} {Ex : WX} {a : Expr}
def tSortSetV (K : PySem.W.Frag) (ta : TE) : TE := fun σ H Q => ta σ H fun v H1 => ∃ (l : Addr) (ns : List Int), v = .ref l ∧ SqT K H1 l (ns.map V.int) ∧ ns.length ≤ 1000 ∧ ∀ (L : List Int) (p : Addr), L.Pairwise (· < ·) → (∀ k, k ∈ L ↔ k ∈ ns) → H1 p = none → Q (.ref p) (upd H1 p (.lst (L.map V.int)))
theorem pe_sortSetV {ta : TE} {p p2 q pos : Pos} {k : Nat} (hr : Room k X.A) (hc : X.calm = true) (hg : Gl X "sorted") (hm : X.mg "sorted" = none) (hg2 : Gl X "set") (hm2 : X.mg "set" = none) (ha : PE X a ta) (hb : bootBuiltins "sorted" = some (.builtin "sorted") := by decide +kernel)
    (na : starEach [a] X.env = (false, eval a X.env) :: starEach [] X.env := by rfl) : PE X (.Call (.Name "sorted" p) [.Call (.Name "set" p2) [a] [] q] [] pos) (tSortSetV X.K ta) := by
  constructor
  intro pins s σ H Q I h
  refine Call_ (ld_blt I hg hm hb (callWith_builtin1 (args_cons (Call_ (ld_blt I hg2 hm2 boot_set (callWith_type1 (args_cons (thn (ha.run pins s σ H _ I h) ?_) na) na rfl))) rfl) rfl rfl))
  rintro v s1 ⟨x, H1, I1, r1, l, ns, rfl, hs, hl, q1⟩
  cases (show v = .ref l from r1)
  obtain ⟨its, rv, pt, _⟩ := I1.tuple hs
  have numbers : IntsAre its.toArray.toList ns := ints_of_vals rv
  refine args_nil (call_set_tupI ns (I1.ok.hd hc) (show s1.heap.IsTuple l its.toArray from pt) numbers (by unfold scanBound; omega) fun g tk c R hcn kp => args_nil ?_)
  have un := hr.un
  refine sorted_ints_set (s := { s1 with heap := g, toks := tk }) R (I1.ok.hd hc) (by omega) fun t p out e L k2 g2 o2 low hp hL up mem len => ?_
  have small : (L.map V.int).length ≤ sizeLine := by rw [List.length_map, len, sizeLine_eq]; omega
  have all : ∀ b o, s1.heap.get? b = some o → t.heap.get? b = some o := fun b o z => k2 b o (kp b o z)
  have far : s1.heap.objs.size ≤ p := by
    refine Nat.le_of_not_lt fun z => ?_
    have in1 : ∃ o, s1.heap.objs[p]? = some o := ⟨_, Array.getElem?_eq_getElem z⟩
    have grown : s1.heap.objs.size ≤ g.objs.size := Nat.le_of_lt R.lt
    exact Nat.lt_irrefl _ (Nat.lt_of_lt_of_le z (Nat.le_trans grown low))
  have free : H1 p = none := I1.hok.fresh far
  have J : Inv X pins σ (upd H1 p (.lst (L.map V.int))) { s1 with heap := t.heap, gens := t.gens, drawn := t.drawn, toks := t.toks } :=
    I1.call (ch := []) (Un.laid all far free) (I1.hok.laid all far ⟨small, out.toList, e, vals_of_ints hL, hp⟩) (by rw [g2]; exact I1.bare) (fun _ z => nomatch z)
  rw [GxR.sh_eta s1 t o2] at J
  exact ⟨.ref p, _, J, rfl, q1 L p up (fun k => by rw [mem k]; simp) free⟩
variable {ta : TE3}
def tSortSet3 (ta : TE3) : TE3 := fun τ S Q => ta τ S fun w S1 => ∃ ns : List Int, w = .tup (ns.map PyData.int) ∧ ns.length ≤ 1000 ∧ ∀ L : List Int, L.Pairwise (· < ·) → (∀ k, k ∈ L ↔ k ∈ ns) → Q (.lst (L.map PyData.int)) S1
theorem dp_ints {K : PySem.W.Frag} {G : Hp} : ∀ ns : List Int, DpAll K G (ns.map V.int) (ns.map PyData.int)
  | [] => .nil
  | n :: ns => .cons (.int n) (dp_ints ns)
theorem pe3_sortSet {p p2 q pos : Pos} {k : Nat} (hr : Room k X.A) (hc : X.calm = true) (hg : Gl X "sorted") (hm : X.mg "sorted" = none) (hg2 : Gl X "set") (hm2 : X.mg "set" = none) (ha : PE X a (LE X.K Ex ta))
    (na : starEach [a] X.env = (false, eval a X.env) :: starEach [] X.env := by rfl) : PE X (.Call (.Name "sorted" p) [.Call (.Name "set" p2) [a] [] q] [] pos) (LE X.K Ex (tSortSet3 ta)) :=
  pe_imp (pe_sortSetV hr hc hg hm hg2 hm2 ha (by decide +kernel) na) fun σ H Q ⟨F, S, τ, Q3, R, Ev, h, k⟩ => ⟨F, S, τ, _, R, Ev, h, fun F1 S1 H1 w v s1 R1 r1 ⟨ns, e, hl, q⟩ => by
    subst e
    obtain ⟨_, a, vs, rfl, ht, ha⟩ := tup_rep R1 r1 (show viewW S1 (.tup (ns.map PyData.int)) = some (.tuple (ns.map PyData.int)) from rfl)
    have e2 := ints_of ha
    subst e2
    refine ⟨a, ns, rfl, ht, hl, fun L p up mem hp => ?_⟩
    obtain ⟨s2, R2, rw2⟩ := newLst R1 hp (dp_ints L)
    exact k _ _ _ _ _ (s1.trans s2) R2 rw2 (q L up mem)⟩
end
section
variable {K : PySem.W.Frag}
/-- xs + ys of data, to stay -/
def gCatL : R3 := fun w u S Q => ∃ a b, viewW S w = some (.list a) ∧ viewW S u = some (.list b) ∧ a.length + b.length ≤ sizeLine ∧ Q (.lst (a ++ b)) S
def rCatL (K : PySem.W.Frag) : R2 := fun x y H Q => ∃ (l m : Addr) (vs us : List V), x = .ref l ∧ y = .ref m ∧ SqL K H l vs ∧ SqL K H m us ∧ vs.length + us.length ≤ sizeLine ∧ ∀ p, H p = none → Q (.ref p) (upd H p (.lst (vs ++ us)))
theorem op_catL {X : Cx} : OpR X (binaryOp .Add) (rCatL X.K) := by
  rintro pins s σ H _ _ v u Q I rx ry ⟨l, m, vs, us, rfl, rfl, hl, hm, hz, q⟩
  cases (show v = .ref l from rx)
  cases (show u = .ref m from ry)
  obtain ⟨ia, va, ⟨⟨c1, d1, t1, s1⟩, n1, e1, q1, q2, q3⟩, _⟩ := I.list hl
  obtain ⟨ib, vb, ⟨⟨c2, d2, t2, s2⟩, n2, e2, w1, w2, w3⟩, _⟩ := I.list hm
  simp only at q1 q2 q3 w1 w2 w3
  subst q1 q2 q3 w1 w2 w3
  have fits : ia.toArray.size + ib.toArray.size ≤ sizeLine := by rw [List.size_toArray, List.size_toArray, ← va.length, ← vb.length]; exact hz
  refine concat_meets ⟨_, e1, rfl⟩ ⟨_, e2, rfl⟩ noFill_list_add seq_list_add F.slot_list_add F.entry_list_add (F.args_list_add_2 _ _) (list_addW l m ia.toArray ib.toArray n1 n2 none none s1 s2 fits) ⟨e1, e2, ?_⟩
  have ea : ia.toArray ++ ib.toArray = (ia ++ ib).toArray := by simp
  rw [ea]
  exact ⟨.ref _, _, I.lnew (t' := s.toks) (va.append vb) (by rw [List.length_append]; exact hz), rfl, q _ I.fresh⟩
theorem l_catL : OpL K gCatL (rCatL K) := fun F S H w u x y Q3 Q R rw ru ⟨a, b, h1, h2, hz, q⟩ k => by
  obtain ⟨l, vs, rfl, hl, da, _⟩ := list_rep R rw h1
  obtain ⟨m, us, rfl, hm, db, _⟩ := list_rep R ru h2
  refine ⟨l, m, vs, us, rfl, rfl, hl, hm, by rw [dpAllL_len da.q, dpAllL_len db.q]; exact hz, fun p hp => ?_⟩
  obtain ⟨s, R', rw'⟩ := newLst R hp (dpAll_app da db)
  exact k _ S _ _ _ s R' rw' q
end
/-! ### sorted of a list or a tuple -/
/-- what can be sorted -/
def SrtOk (ds : List PyData) : Prop := AllAlike ds ∧ (PySem.W.Sortable ds ∨ ∃ ts, ds = .tuple [] :: ts ∧ ∀ d ∈ ts, ∃ xs, d = .tuple xs)
theorem sortsAt_ok {prog : Program} {w : World} {A : Around} {s : Shared} {vs : List Value} {ds : List PyData} (e : EachIs (fun v d => ∃ as, Reads s.heap v d as) vs ds) (h : SrtOk ds) (hu : ∀ d ∈ ds, A.units + d.depth < cLine) : SortsAt prog w A s (dataKind s.heap ds) vs := by
  rcases h with ⟨al, so | ⟨ts, rfl, ht⟩⟩
  · exact SortsAt.data e al so hu
  · exact sortsAt_void e al ht hu
def rSortV (K : PySem.W.Frag) : List V → Hp → VK → Prop := fun vs H Q => ∃ (a : Addr) (xs : List V) (ds : List PyData), vs = [V.ref a] ∧ (SqL K H a xs ∨ SqT K H a xs) ∧ L2.DpAll K H xs ds ∧ SrtOk ds ∧ ds.length ≤ sizeLine ∧ (∀ d ∈ ds, d.depth ≤ 60) ∧
  ∀ (ys : List V) (p : Addr), Paired (fun y d => (y, d) ∈ xs.zip ds) ys (ds.mergeSort (dataLe false id)) → H p = none → Q (.ref p) (upd H p (.lst ys))
theorem cr_sortV {X : Cx} (hu : X.A.units + 70 < cLine) : CallR X (.builtin "sorted") (rSortV X.K) := by
  rintro pins s σ H _ us Q I rr ⟨a, xs, ds, rfl, hs, hd, ok, hz, dp, q⟩
  rw [Vals.ref1 rr]
  obtain ⟨its, rv, T, o, n, hT, ho, hc, hdt⟩ : ∃ (its : List Value) (_ : Vals xs its) (T : String) (o : Obj) (n : Nat), (T = "list" ∨ T = "tuple") ∧ s.heap.get? a = some o ∧ o.cls = .type T ∧ o.data = .seq its.toArray n := by
    rcases hs with h | h
    · obtain ⟨its, rv, ⟨o, n, h1, h2, _, h3⟩, _⟩ := I.list h
      exact ⟨its, rv, "list", o, n, .inl rfl, h1, h2, h3⟩
    · obtain ⟨its, rv, ⟨o, h1, h2, n, h3⟩, _⟩ := I.tuple h
      exact ⟨its, rv, "tuple", o, n, .inr rfl, h1, h2, h3⟩
  have lens : its.length = ds.length := by rw [← rv.length, dpAllL_len hd]
  have fits : its.toArray.size ≤ sizeLine := by rw [List.size_toArray, lens]; exact hz
  refine srt_seq hT ho hc hdt fits (args_sorted1 _) (fun _ => args_list_sort _) fun g E2 kp => ?_
  have I1 : Inv X pins σ H { s with heap := g } := I.kept (t' := s.toks) kp
  have laid : (g.push (seqObj "list" its.toArray 0)).get? g.objs.size = some (seqObj "list" its.toArray 0) := Heap.get?_push_size _ rfl
  have later : ∀ b u, g.get? b = some u → (sortingHeap (g.push (seqObj "list" its.toArray 0)) g.objs.size its).get? b = some u := fun b u e => sortingHeap_old (Nat.ne_of_lt (Heap.lt_size e)) (Heap.get?_push_of_some _ e)
  have rd : EachIs (fun v d => ∃ as, Reads (sortingHeap (g.push (seqObj "list" its.toArray 0)) g.objs.size its) v d as) its ds := (each_reads I1 hd rv).mono fun v d ⟨as, r⟩ => ⟨as, PyProof.Rows.Reads.keeps later r⟩
  have out := sortVals_data (h' := sortingHeap (g.push (seqObj "list" its.toArray 0)) g.objs.size its) (enc := id) false (each_pair (P := fun y d => (y, d) ∈ xs.zip ds) (fun p hp => hp) hd rv) rd (by rw [List.map_id]; exact ok.1)
  rw [List.map_id] at out
  refine list_sort_vals (s := { s with heap := g.push (seqObj "list" its.toArray 0) }) laid (sortsAt_ok (s := { s with heap := sortingHeap (g.push (seqObj "list" its.toArray 0)) g.objs.size its }) rd ok fun d hm => ?_) (by rw [lens]; exact hz) ⟨rfl, ?_⟩
  · have := dp d hm
    show X.A.units + 1 + 1 + d.depth < cLine
    omega
  · obtain ⟨ys, r2, h2⟩ := each_out out
    generalize sortVals (dataKind (sortingHeap (g.push (seqObj "list" its.toArray 0)) g.objs.size its) ds) false its its = res at r2 out
    obtain ⟨ep, at'⟩ := sortedHeap_at (vs := its) (out := res.toArray) laid
    have small : ys.length ≤ sizeLine := by rw [Paired.length h2, List.length_mergeSort]; exact hz
    exact ⟨.ref _, _, I1.laid (t' := s.toks) (o := .lst ys) (fun b u e => (sortedHeap_old (Nat.ne_of_lt (Heap.lt_size e)) (by rw [size_push']; exact Nat.lt_succ_of_lt (Heap.lt_size e))).trans (Heap.get?_push_of_some _ e)) (Nat.le_refl _) ⟨small, res, ep, r2, at'⟩, rfl, q ys _ h2 (I1.hok.fresh (Nat.le_refl _))⟩
def gSortV : RC3 := fun ws S Q => ∃ w ds, ws = [w] ∧ itemsW S w = some ds ∧ SrtOk ds ∧ ds.length ≤ sizeLine ∧ (∀ d ∈ ds, d.depth ≤ 60) ∧ Q (.lst (ds.mergeSort (dataLe false id))) S
theorem l_sortV {K : PySem.W.Frag} : CallL K gSortV (rSortV K) := fun F S H ws vs Q3 Q R r ⟨w, ds, e, hd, ok, hz, dp, q⟩ k => by
  subst e
  obtain ⟨v, rfl, rv⟩ := ws1 r
  obtain ⟨a, us, rfl, hs, ha, _⟩ := items_rep R rv hd
  refine ⟨a, us, ds, rfl, hs.imp id And.left, (dpAll_mono R.same ha).q, ok, hz, dp, fun ys p hy hp => ?_⟩
  obtain ⟨s2, R2, rw2⟩ := newLst R hp (dpAll_paired (fun v d hm => dpAll_zip ha (v, d) hm) hy)
  exact k _ S _ _ _ s2 R2 rw2 q
end H3

namespace Lk24
open PySem PySem.Spec L2 H3
open PyProof.Rows hiding St
def top (i : Nat) : Stmt := PySem.Challenge.pw_handsaway_k24_whole_two_factors_past_one.main.body.getD i (.Pass ⟨0, 0, 0, 0⟩)
abbrev s_law_any : Stmt := top 20
abbrev N_law_any : List Str := ["deal", "bound", "rest"]
abbrev P_law_any : List Str := ["deal", "bound"]
theorem sc_law_any : FnScope N_law_any P_law_any (defScope s_law_any) := ⟨rfl, rfl, rfl, by decide +kernel, rfl, by decide +kernel, by decide +kernel⟩
abbrev s_law_join : Stmt := top 22
abbrev N_law_join : List Str := ["one", "other", "state"]
abbrev P_law_join : List Str := ["one", "other"]
theorem sc_law_join : FnScope N_law_join P_law_join (defScope s_law_join) := ⟨rfl, rfl, rfl, by decide +kernel, rfl, by decide +kernel, by decide +kernel⟩
abbrev s_law_all : Stmt := top 28
abbrev N_law_all : List Str := ["some", "states", "found", "one"]
abbrev P_law_all : List Str := ["some", "states"]
theorem sc_law_all : FnScope N_law_all P_law_all (defScope s_law_all) := ⟨rfl, rfl, rfl, by decide +kernel, rfl, by decide +kernel, by decide +kernel⟩
abbrev s_law_back : Stmt := top 23
abbrev N_law_back : List Str := ["one", "found", "state"]
abbrev P_law_back : List Str := ["one"]
theorem sc_law_back : FnScope N_law_back P_law_back (defScope s_law_back) := ⟨rfl, rfl, rfl, by decide +kernel, rfl, by decide +kernel, by decide +kernel⟩
abbrev s_law_due : Stmt := top 29
abbrev N_law_due : List Str := ["one", "other", "states", "more", "both", "lot", "h", "ahead", "g", "hand"]
abbrev P_law_due : List Str := ["one", "other", "states"]
theorem sc_law_due : FnScope N_law_due P_law_due (defScope s_law_due) := ⟨rfl, rfl, rfl, by decide +kernel, rfl, by decide +kernel, by decide +kernel⟩
abbrev s_law_of : Stmt := top 21
abbrev N_law_of : List Str := ["deal", "some"]
abbrev P_law_of : List Str := ["deal", "some"]
theorem sc_law_of : FnScope N_law_of P_law_of (defScope s_law_of) := ⟨rfl, rfl, rfl, by decide +kernel, rfl, by decide +kernel, by decide +kernel⟩
abbrev s_law_lot : Stmt := top 27
abbrev N_law_lot : List Str := ["deal", "turn", "lot", "hand", "one"]
abbrev P_law_lot : List Str := ["deal", "turn"]
theorem sc_law_lot : FnScope N_law_lot P_law_lot (defScope s_law_lot) := ⟨rfl, rfl, rfl, by decide +kernel, rfl, by decide +kernel, by decide +kernel⟩
abbrev s_law_shown : Stmt := top 26
abbrev N_law_shown : List Str := ["factors", "lot", "states", "found", "one", "turning", "hand"]
abbrev P_law_shown : List Str := ["factors", "lot", "states"]
theorem sc_law_shown : FnScope N_law_shown P_law_shown (defScope s_law_shown) := ⟨rfl, rfl, rfl, by decide +kernel, rfl, by decide +kernel, by decide +kernel⟩
abbrev s_law_shuffled : Stmt := top 24
abbrev N_law_shuffled : List Str := ["deal", "states", "turn", "left", "found"]
abbrev P_law_shuffled : List Str := ["deal", "states"]
theorem sc_law_shuffled : FnScope N_law_shuffled P_law_shuffled (defScope s_law_shuffled) := ⟨rfl, rfl, rfl, by decide +kernel, rfl, by decide +kernel, by decide +kernel⟩
abbrev s_law_source : Stmt := top 19
abbrev N_law_source : List Str := ["script", "cells", "blend", "cell"]
abbrev P_law_source : List Str := ["script"]
theorem sc_law_source : FnScope N_law_source P_law_source (defScope s_law_source) := ⟨rfl, rfl, rfl, by decide +kernel, rfl, by decide +kernel, by decide +kernel⟩
abbrev s_law_subsets : Stmt := top 30
abbrev N_law_subsets : List Str := ["lot", "some", "hand", "one"]
abbrev P_law_subsets : List Str := ["lot"]
theorem sc_law_subsets : FnScope N_law_subsets P_law_subsets (defScope s_law_subsets) := ⟨rfl, rfl, rfl, by decide +kernel, rfl, by decide +kernel, by decide +kernel⟩
abbrev s_law_turnings : Stmt := top 25
abbrev N_law_turnings : List Str := ["deal", "known", "some", "by", "states", "one", "turn"]
abbrev P_law_turnings : List Str := ["deal"]
theorem sc_law_turnings : FnScope N_law_turnings P_law_turnings (defScope s_law_turnings) := ⟨rfl, rfl, rfl, by decide +kernel, rfl, by decide +kernel, by decide +kernel⟩
abbrev s_joined : Stmt := top 6
abbrev N_joined : List Str := ["one", "other", "state"]
abbrev P_joined : List Str := ["one", "other"]
theorem sc_joined : FnScope N_joined P_joined (defScope s_joined) := ⟨rfl, rfl, rfl, by decide +kernel, rfl, by decide +kernel, by decide +kernel⟩
abbrev s_is_turning : Stmt := top 4
abbrev N_is_turning : List Str := ["one"]
abbrev P_is_turning : List Str := ["one"]
theorem sc_is_turning : FnScope N_is_turning P_is_turning (defScope s_is_turning) := ⟨rfl, rfl, rfl, by decide +kernel, rfl, by decide +kernel, by decide +kernel⟩
abbrev s_need_turning : Stmt := top 8
abbrev N_need_turning : List Str := ["one"]
abbrev P_need_turning : List Str := ["one"]
theorem sc_need_turning : FnScope N_need_turning P_need_turning (defScope s_need_turning) := ⟨rfl, rfl, rfl, by decide +kernel, rfl, by decide +kernel, by decide +kernel⟩
abbrev s_turned_back : Stmt := top 9
abbrev N_turned_back : List Str := ["one", "state"]
abbrev P_turned_back : List Str := ["one"]
theorem sc_turned_back : FnScope N_turned_back P_turned_back (defScope s_turned_back) := ⟨rfl, rfl, rfl, by decide +kernel, rfl, by decide +kernel, by decide +kernel⟩
abbrev s_commutator : Stmt := top 11
abbrev N_commutator : List Str := ["one", "other"]
abbrev P_commutator : List Str := ["one", "other"]
theorem sc_commutator : FnScope N_commutator P_commutator (defScope s_commutator) := ⟨rfl, rfl, rfl, by decide +kernel, rfl, by decide +kernel, by decide +kernel⟩
abbrev s_conjugate : Stmt := top 12
abbrev N_conjugate : List Str := ["one", "other"]
abbrev P_conjugate : List Str := ["one", "other"]
theorem sc_conjugate : FnScope N_conjugate P_conjugate (defScope s_conjugate) := ⟨rfl, rfl, rfl, by decide +kernel, rfl, by decide +kernel, by decide +kernel⟩
abbrev s_is_within : Stmt := top 14
abbrev N_is_within : List Str := ["lesser", "lot"]
abbrev P_is_within : List Str := ["lesser", "lot"]
theorem sc_is_within : FnScope N_is_within P_is_within (defScope s_is_within) := ⟨rfl, rfl, rfl, by decide +kernel, rfl, by decide +kernel, by decide +kernel⟩
abbrev s_still : Stmt := top 5
abbrev N_still : List Str := ["states"]
abbrev P_still : List Str := ["states"]
theorem sc_still : FnScope N_still P_still (defScope s_still) := ⟨rfl, rfl, rfl, by decide +kernel, rfl, by decide +kernel, by decide +kernel⟩
abbrev s_passed : Stmt := top 17
abbrev N_passed : List Str := ["one", "other", "more", "lot", "turning", "ahead", "first"]
abbrev P_passed : List Str := ["one", "other"]
theorem sc_passed : FnScope N_passed P_passed (defScope s_passed) := ⟨rfl, rfl, rfl, by decide +kernel, rfl, by decide +kernel, by decide +kernel⟩
abbrev s_joined_all : Stmt := top 7
abbrev N_joined_all : List Str := ["states", "maps", "found", "one"]
abbrev P_joined_all : List Str := ["states", "maps"]
theorem sc_joined_all : FnScope N_joined_all P_joined_all (defScope s_joined_all) := ⟨rfl, rfl, rfl, by decide +kernel, rfl, by decide +kernel, by decide +kernel⟩
abbrev s_shown_of : Stmt := top 15
abbrev N_shown_of : List Str := ["states", "factors", "lot", "one", "turning"]
abbrev P_shown_of : List Str := ["states", "factors", "lot"]
theorem sc_shown_of : FnScope N_shown_of P_shown_of (defScope s_shown_of) := ⟨rfl, rfl, rfl, by decide +kernel, rfl, by decide +kernel, by decide +kernel⟩
abbrev s_law : Stmt := top 31
abbrev N_law : List Str := ["script", "deal", "some", "states", "turn", "told", "lot", "again", "one", "other", "due", "hand"]
abbrev P_law : List Str := ["script"]
theorem sc_law : FnScope N_law P_law (defScope s_law) := ⟨rfl, rfl, rfl, by decide +kernel, rfl, by decide +kernel, by decide +kernel⟩
structure Txt (K : PySem.W.Frag) (mg : Str → Option Value) where
  f_law_any : Addr
  d_law_any : FuncData
  F_law_any : FnP K "_law_any" s_law_any f_law_any d_law_any
  m_law_any : mg "_law_any" = some (.ref f_law_any)
  f_law_join : Addr
  d_law_join : FuncData
  F_law_join : FnP K "_law_join" s_law_join f_law_join d_law_join
  m_law_join : mg "_law_join" = some (.ref f_law_join)
  f_law_all : Addr
  d_law_all : FuncData
  F_law_all : FnP K "_law_all" s_law_all f_law_all d_law_all
  m_law_all : mg "_law_all" = some (.ref f_law_all)
  f_law_back : Addr
  d_law_back : FuncData
  F_law_back : FnP K "_law_back" s_law_back f_law_back d_law_back
  m_law_back : mg "_law_back" = some (.ref f_law_back)
  f_law_due : Addr
  d_law_due : FuncData
  F_law_due : FnP K "_law_due" s_law_due f_law_due d_law_due
  m_law_due : mg "_law_due" = some (.ref f_law_due)
  f_law_of : Addr
  d_law_of : FuncData
  F_law_of : FnP K "_law_of" s_law_of f_law_of d_law_of
  m_law_of : mg "_law_of" = some (.ref f_law_of)
  f_law_lot : Addr
  d_law_lot : FuncData
  F_law_lot : FnP K "_law_lot" s_law_lot f_law_lot d_law_lot
  m_law_lot : mg "_law_lot" = some (.ref f_law_lot)
  f_law_shown : Addr
  d_law_shown : FuncData
  F_law_shown : FnP K "_law_shown" s_law_shown f_law_shown d_law_shown
  m_law_shown : mg "_law_shown" = some (.ref f_law_shown)
  f_law_shuffled : Addr
  d_law_shuffled : FuncData
  F_law_shuffled : FnP K "_law_shuffled" s_law_shuffled f_law_shuffled d_law_shuffled
  m_law_shuffled : mg "_law_shuffled" = some (.ref f_law_shuffled)
  f_law_source : Addr
  d_law_source : FuncData
  F_law_source : FnP K "_law_source" s_law_source f_law_source d_law_source
  m_law_source : mg "_law_source" = some (.ref f_law_source)
  f_law_subsets : Addr
  d_law_subsets : FuncData
  F_law_subsets : FnP K "_law_subsets" s_law_subsets f_law_subsets d_law_subsets
  m_law_subsets : mg "_law_subsets" = some (.ref f_law_subsets)
  f_law_turnings : Addr
  d_law_turnings : FuncData
  F_law_turnings : FnP K "_law_turnings" s_law_turnings f_law_turnings d_law_turnings
  m_law_turnings : mg "_law_turnings" = some (.ref f_law_turnings)
  f_joined : Addr
  d_joined : FuncData
  F_joined : FnP K "joined" s_joined f_joined d_joined
  m_joined : mg "joined" = some (.ref f_joined)
  f_is_turning : Addr
  d_is_turning : FuncData
  F_is_turning : FnP K "is_turning" s_is_turning f_is_turning d_is_turning
  m_is_turning : mg "is_turning" = some (.ref f_is_turning)
  f_need_turning : Addr
  d_need_turning : FuncData
  F_need_turning : FnP K "need_turning" s_need_turning f_need_turning d_need_turning
  m_need_turning : mg "need_turning" = some (.ref f_need_turning)
  f_turned_back : Addr
  d_turned_back : FuncData
  F_turned_back : FnP K "turned_back" s_turned_back f_turned_back d_turned_back
  m_turned_back : mg "turned_back" = some (.ref f_turned_back)
  f_commutator : Addr
  d_commutator : FuncData
  F_commutator : FnP K "commutator" s_commutator f_commutator d_commutator
  m_commutator : mg "commutator" = some (.ref f_commutator)
  f_conjugate : Addr
  d_conjugate : FuncData
  F_conjugate : FnP K "conjugate" s_conjugate f_conjugate d_conjugate
  m_conjugate : mg "conjugate" = some (.ref f_conjugate)
  f_is_within : Addr
  d_is_within : FuncData
  F_is_within : FnP K "is_within" s_is_within f_is_within d_is_within
  m_is_within : mg "is_within" = some (.ref f_is_within)
  f_still : Addr
  d_still : FuncData
  F_still : FnP K "still" s_still f_still d_still
  m_still : mg "still" = some (.ref f_still)
  f_passed : Addr
  d_passed : FuncData
  F_passed : FnP K "passed" s_passed f_passed d_passed
  m_passed : mg "passed" = some (.ref f_passed)
  f_joined_all : Addr
  d_joined_all : FuncData
  F_joined_all : FnP K "joined_all" s_joined_all f_joined_all d_joined_all
  m_joined_all : mg "joined_all" = some (.ref f_joined_all)
  f_shown_of : Addr
  d_shown_of : FuncData
  F_shown_of : FnP K "shown_of" s_shown_of f_shown_of d_shown_of
  m_shown_of : mg "shown_of" = some (.ref f_shown_of)
  f_law : Addr
  d_law : FuncData
  F_law : FnP K "law" s_law f_law d_law
  m_law : mg "law" = some (.ref f_law)
  z_len : mg "len" = none
  z_set : mg "set" = none
  z_range : mg "range" = none
  z_tuple : mg "tuple" = none
  z_all : mg "all" = none
  z_sorted : mg "sorted" = none
  z_int : mg "int" = none
  z_abs : mg "abs" = none
  z_list : mg "list" = none
  z_repr : mg "repr" = none
theorem b_law_any {K : PySem.W.Frag} {f : Addr} {fd : FuncData} (F : FnP K "_law_any" s_law_any f fd) : Binds K fd P_law_any [] := F.bindsN fun _ _ _ _ _ _ us hl => match us, hl with | [_, _], _ => rfl
theorem b_law_join {K : PySem.W.Frag} {f : Addr} {fd : FuncData} (F : FnP K "_law_join" s_law_join f fd) : Binds K fd P_law_join [] := F.bindsN fun _ _ _ _ _ _ us hl => match us, hl with | [_, _], _ => rfl
theorem b_law_all {K : PySem.W.Frag} {f : Addr} {fd : FuncData} (F : FnP K "_law_all" s_law_all f fd) : Binds K fd P_law_all [] := F.bindsN fun _ _ _ _ _ _ us hl => match us, hl with | [_, _], _ => rfl
theorem b_law_back {K : PySem.W.Frag} {f : Addr} {fd : FuncData} (F : FnP K "_law_back" s_law_back f fd) : Binds K fd P_law_back [] := F.bindsN fun _ _ _ _ _ _ us hl => match us, hl with | [_], _ => rfl
theorem b_law_due {K : PySem.W.Frag} {f : Addr} {fd : FuncData} (F : FnP K "_law_due" s_law_due f fd) : Binds K fd P_law_due [] := F.bindsN fun _ _ _ _ _ _ us hl => match us, hl with | [_, _, _], _ => rfl
theorem b_law_of {K : PySem.W.Frag} {f : Addr} {fd : FuncData} (F : FnP K "_law_of" s_law_of f fd) : Binds K fd P_law_of [] := F.bindsN fun _ _ _ _ _ _ us hl => match us, hl with | [_, _], _ => rfl
theorem b_law_lot {K : PySem.W.Frag} {f : Addr} {fd : FuncData} (F : FnP K "_law_lot" s_law_lot f fd) : Binds K fd P_law_lot [] := F.bindsN fun _ _ _ _ _ _ us hl => match us, hl with | [_, _], _ => rfl
theorem b_law_shown {K : PySem.W.Frag} {f : Addr} {fd : FuncData} (F : FnP K "_law_shown" s_law_shown f fd) : Binds K fd P_law_shown [] := F.bindsN fun _ _ _ _ _ _ us hl => match us, hl with | [_, _, _], _ => rfl
theorem b_law_shuffled {K : PySem.W.Frag} {f : Addr} {fd : FuncData} (F : FnP K "_law_shuffled" s_law_shuffled f fd) : Binds K fd P_law_shuffled [] := F.bindsN fun _ _ _ _ _ _ us hl => match us, hl with | [_, _], _ => rfl
theorem b_law_source {K : PySem.W.Frag} {f : Addr} {fd : FuncData} (F : FnP K "_law_source" s_law_source f fd) : Binds K fd P_law_source [] := F.bindsN fun _ _ _ _ _ _ us hl => match us, hl with | [_], _ => rfl
theorem b_law_subsets {K : PySem.W.Frag} {f : Addr} {fd : FuncData} (F : FnP K "_law_subsets" s_law_subsets f fd) : Binds K fd P_law_subsets [] := F.bindsN fun _ _ _ _ _ _ us hl => match us, hl with | [_], _ => rfl
theorem b_law_turnings {K : PySem.W.Frag} {f : Addr} {fd : FuncData} (F : FnP K "_law_turnings" s_law_turnings f fd) : Binds K fd P_law_turnings [] := F.bindsN fun _ _ _ _ _ _ us hl => match us, hl with | [_], _ => rfl
theorem b_joined {K : PySem.W.Frag} {f : Addr} {fd : FuncData} (F : FnP K "joined" s_joined f fd) : Binds K fd P_joined [] := F.bindsN fun _ _ _ _ _ _ us hl => match us, hl with | [_, _], _ => rfl
theorem b_is_turning {K : PySem.W.Frag} {f : Addr} {fd : FuncData} (F : FnP K "is_turning" s_is_turning f fd) : Binds K fd P_is_turning [] := F.bindsN fun _ _ _ _ _ _ us hl => match us, hl with | [_], _ => rfl
theorem b_need_turning {K : PySem.W.Frag} {f : Addr} {fd : FuncData} (F : FnP K "need_turning" s_need_turning f fd) : Binds K fd P_need_turning [] := F.bindsN fun _ _ _ _ _ _ us hl => match us, hl with | [_], _ => rfl
theorem b_turned_back {K : PySem.W.Frag} {f : Addr} {fd : FuncData} (F : FnP K "turned_back" s_turned_back f fd) : Binds K fd P_turned_back [] := F.bindsN fun _ _ _ _ _ _ us hl => match us, hl with | [_], _ => rfl
theorem b_commutator {K : PySem.W.Frag} {f : Addr} {fd : FuncData} (F : FnP K "commutator" s_commutator f fd) : Binds K fd P_commutator [] := F.bindsN fun _ _ _ _ _ _ us hl => match us, hl with | [_, _], _ => rfl
theorem b_conjugate {K : PySem.W.Frag} {f : Addr} {fd : FuncData} (F : FnP K "conjugate" s_conjugate f fd) : Binds K fd P_conjugate [] := F.bindsN fun _ _ _ _ _ _ us hl => match us, hl with | [_, _], _ => rfl
theorem b_is_within {K : PySem.W.Frag} {f : Addr} {fd : FuncData} (F : FnP K "is_within" s_is_within f fd) : Binds K fd P_is_within [] := F.bindsN fun _ _ _ _ _ _ us hl => match us, hl with | [_, _], _ => rfl
theorem b_still {K : PySem.W.Frag} {f : Addr} {fd : FuncData} (F : FnP K "still" s_still f fd) : Binds K fd P_still [] := F.bindsN fun _ _ _ _ _ _ us hl => match us, hl with | [_], _ => rfl
theorem b_passed {K : PySem.W.Frag} {f : Addr} {fd : FuncData} (F : FnP K "passed" s_passed f fd) : Binds K fd P_passed [] := F.bindsN fun _ _ _ _ _ _ us hl => match us, hl with | [_, _], _ => rfl
def gw_passed_0 {α : Type} : List α → List α := fun | [a0, a1] => [a1, a0] | l => l
theorem kb_passed_0 {K : PySem.W.Frag} {f : Addr} {fd : FuncData} (F : FnP K "passed" s_passed f fd) : KwTo fd P_passed ["other", "one"] gw_passed_0 where
  to := fun s ws hl => by
    obtain ⟨_, _, dV, _, _, _, _, _, _, _, rfl, _, _, dfl, _⟩ := F.ex
    rcases dfl with ⟨_, rfl⟩ | ⟨no, _⟩
    · match ws, hl with
      | [a0, a1], _ => exact .of_eq rfl
    · exact absurd rfl no
  rel := fun {zs ws} hl r => by
    match zs, ws, hl, r with
    | [_, _], [_, _], _, .cons r0 (.cons r1 .nil) => exact .cons r1 (.cons r0 .nil)
theorem kw_passed_0 (K : PySem.W.Frag) (F : Fz) (ws : List W) (vs : List V) (hl : ws.length = ["other", "one"].length) (r : RepWs K F ws vs) : RepWs K F (gw_passed_0 ws) (gw_passed_0 vs) := by
  match ws, vs, hl, r with
  | [_, _], [_, _], _, .cons r0 (.cons r1 .nil) => exact .cons r1 (.cons r0 .nil)
theorem b_joined_all {K : PySem.W.Frag} {f : Addr} {fd : FuncData} (F : FnP K "joined_all" s_joined_all f fd) : Binds K fd P_joined_all [] := F.bindsN fun _ _ _ _ _ _ us hl => match us, hl with | [_, _], _ => rfl
theorem b_shown_of {K : PySem.W.Frag} {f : Addr} {fd : FuncData} (F : FnP K "shown_of" s_shown_of f fd) : Binds K fd P_shown_of [] := F.bindsN fun _ _ _ _ _ _ us hl => match us, hl with | [_, _, _], _ => rfl
theorem b_law {K : PySem.W.Frag} {f : Addr} {fd : FuncData} (F : FnP K "law" s_law f fd) : Binds K fd P_law [] := F.bindsN fun _ _ _ _ _ _ us hl => match us, hl with | [_], _ => rfl
def dd_law_any : He.DefD := ⟨("_law_any", none), "_law_any", "_law_any", defArgs s_law_any, defBody s_law_any, defScope s_law_any, [], []⟩
def dd_law_join : He.DefD := ⟨("_law_join", none), "_law_join", "_law_join", defArgs s_law_join, defBody s_law_join, defScope s_law_join, [], []⟩
def dd_law_all : He.DefD := ⟨("_law_all", none), "_law_all", "_law_all", defArgs s_law_all, defBody s_law_all, defScope s_law_all, [], []⟩
def dd_law_back : He.DefD := ⟨("_law_back", none), "_law_back", "_law_back", defArgs s_law_back, defBody s_law_back, defScope s_law_back, [], []⟩
def dd_law_due : He.DefD := ⟨("_law_due", none), "_law_due", "_law_due", defArgs s_law_due, defBody s_law_due, defScope s_law_due, [], []⟩
def dd_law_of : He.DefD := ⟨("_law_of", none), "_law_of", "_law_of", defArgs s_law_of, defBody s_law_of, defScope s_law_of, [], []⟩
def dd_law_lot : He.DefD := ⟨("_law_lot", none), "_law_lot", "_law_lot", defArgs s_law_lot, defBody s_law_lot, defScope s_law_lot, [], []⟩
def dd_law_shown : He.DefD := ⟨("_law_shown", none), "_law_shown", "_law_shown", defArgs s_law_shown, defBody s_law_shown, defScope s_law_shown, [], []⟩
def dd_law_shuffled : He.DefD := ⟨("_law_shuffled", none), "_law_shuffled", "_law_shuffled", defArgs s_law_shuffled, defBody s_law_shuffled, defScope s_law_shuffled, [], []⟩
def dd_law_source : He.DefD := ⟨("_law_source", none), "_law_source", "_law_source", defArgs s_law_source, defBody s_law_source, defScope s_law_source, [], []⟩
def dd_law_subsets : He.DefD := ⟨("_law_subsets", none), "_law_subsets", "_law_subsets", defArgs s_law_subsets, defBody s_law_subsets, defScope s_law_subsets, [], []⟩
def dd_law_turnings : He.DefD := ⟨("_law_turnings", none), "_law_turnings", "_law_turnings", defArgs s_law_turnings, defBody s_law_turnings, defScope s_law_turnings, [], []⟩
def dd_joined : He.DefD := ⟨("joined", none), "joined", "joined", defArgs s_joined, defBody s_joined, defScope s_joined, [], []⟩
def dd_is_turning : He.DefD := ⟨("is_turning", none), "is_turning", "is_turning", defArgs s_is_turning, defBody s_is_turning, defScope s_is_turning, [], []⟩
def dd_need_turning : He.DefD := ⟨("need_turning", none), "need_turning", "need_turning", defArgs s_need_turning, defBody s_need_turning, defScope s_need_turning, [], []⟩
def dd_turned_back : He.DefD := ⟨("turned_back", none), "turned_back", "turned_back", defArgs s_turned_back, defBody s_turned_back, defScope s_turned_back, [], []⟩
def dd_commutator : He.DefD := ⟨("commutator", none), "commutator", "commutator", defArgs s_commutator, defBody s_commutator, defScope s_commutator, [], []⟩
def dd_conjugate : He.DefD := ⟨("conjugate", none), "conjugate", "conjugate", defArgs s_conjugate, defBody s_conjugate, defScope s_conjugate, [], []⟩
def dd_is_within : He.DefD := ⟨("is_within", none), "is_within", "is_within", defArgs s_is_within, defBody s_is_within, defScope s_is_within, [], []⟩
def dd_still : He.DefD := ⟨("still", none), "still", "still", defArgs s_still, defBody s_still, defScope s_still, [], []⟩
def dd_passed : He.DefD := ⟨("passed", none), "passed", "passed", defArgs s_passed, defBody s_passed, defScope s_passed, [], []⟩
def dd_joined_all : He.DefD := ⟨("joined_all", none), "joined_all", "joined_all", defArgs s_joined_all, defBody s_joined_all, defScope s_joined_all, [], []⟩
def dd_shown_of : He.DefD := ⟨("shown_of", none), "shown_of", "shown_of", defArgs s_shown_of, defBody s_shown_of, defScope s_shown_of, [], []⟩
def dd_law : He.DefD := ⟨("law", none), "law", "law", defArgs s_law, defBody s_law, defScope s_law, [], []⟩
def fnl : List He.DefD := [dd_law_any, dd_law_join, dd_law_all, dd_law_back, dd_law_due, dd_law_of, dd_law_lot, dd_law_shown, dd_law_shuffled, dd_law_source, dd_law_subsets, dd_law_turnings, dd_joined, dd_is_turning, dd_need_turning, dd_turned_back, dd_commutator, dd_conjugate, dd_is_within, dd_still, dd_passed, dd_joined_all, dd_shown_of, dd_law]
def fal : List He.Fa := [.glo "_law_any", .glo "_law_join", .glo "_law_all", .glo "_law_back", .glo "_law_due", .glo "_law_of", .glo "_law_lot", .glo "_law_shown", .glo "_law_shuffled", .glo "_law_source", .glo "_law_subsets", .glo "_law_turnings", .glo "joined", .glo "is_turning", .glo "need_turning", .glo "turned_back", .glo "commutator", .glo "conjugate", .glo "is_within", .glo "still", .glo "passed", .glo "joined_all", .glo "shown_of", .glo "law", .free "len", .free "set", .free "range", .free "tuple", .free "all", .free "sorted", .free "int", .free "abs", .free "list", .free "repr"]
abbrev R : PySem.W.OpenRow := PySem.W.OpenLaw.row PySem.Challenge.rw_handsaway_k24_whole_two_factors_past_one
def tnl : List (Str × Option Str) := [("is_within", none)]
def qsl : List (Option Str) := [none]
abbrev hk : PySem.W.Hook := hookT 4 fal fnl tnl
def ob (s : PySem.W.SharedT) : AlT := obsT 4 fal fnl tnl (HandSHeadRun.getT s)
theorem seen_eq (sh : PySem.W.SharedT) : ob sh = hk.obs sh.abs := obsT_eq (HandSHeadRun.getT_eq sh)
def loose : List PySem.Str := ["is_turning", "still", "joined", "joined_all", "need_turning", "turned_back", "commutator", "conjugate", "is_within", "shown_of", "passed", "_law_source", "_law_any", "_law_of", "_law_join", "_law_back", "_law_shuffled", "_law_turnings", "_law_shown", "_law_lot", "_law_all", "_law_due", "_law_subsets", "HandError", "Refused"]
theorem run (w : World) : HandSHeadRun.RunEq R (PySem.W.view R.prog [31]) hk ob 2000 loose w := by
  intro os
  kernel_rfl
end Lk24

namespace Lk24
open PySem PySem.Spec L2 H3
open PyProof.Rows hiding St
/-! draws, the second kind -/
def sq_law_source : Sp3 := fun ws S Q _ => ∃ (ns : List Int), ws = [.lst (ns.map PyData.int)] ∧ ns.length ≤ 63 ∧ ∀ dl d1 S', S dl = none → S d1 = none → Upto [dl, d1] S S' → Deal S' dl d1 → Q (.r dl) S'
def sp_law_source : Sp3 := fun ws S Q E => Bx (sq_law_source ws S Q E)
theorem len_law_source : ∀ ws S Q E, sp_law_source ws S Q E → ws.length = 1 := fun ws S Q E ⟨ns, e, _⟩ => by rw [e]; rfl
def rb_law_source_0 : TS3 := (tSet3 2 (tOp3 gMod (tCB3 gInt (tCons3 (tOp3 gAdd (tOp3 gAdd (tOp3 gMul (tVar3 2) (tC3 (.int 48271))) (tOp3 gMod (tVar3 3) (tC3 (.int 2147483549)))) (tC3 (.int 41))) tNil3)) (tC3 (.int 2147483647))))
def rd_law_source : TS3 := (tSeq3 (tSet3 1 (tLcD3 (tSeqI3 (tSl3 gSlL (tVar3 0) tNoP3 (tPart3 (tC3 (.int 63))))) (gName3 3) tYes3 (tCB3 gAbs (tCons3 (tCB3 gInt (tCons3 (tVar3 3) tNil3)) tNil3)) [3])) (tSeq3 (tSet3 2 (tC3 (.int 60917))) (tSeq3 (tFor3 (tSeqI3 (tVar3 1)) (gName3 3) rb_law_source_0) (tRet3 (tLstM3 (tCons3 (tRevM3 (tLcD3 (tSeqI3 (tVar3 1)) (gName3 3) (tB3 (tOp3 gGe (tVar3 3) (tOp3 gPow (tC3 (.int 10)) (tC3 (.int 18))))) (tVar3 3) [3])) (tCons3 (tVar3 2) tNil3)))))))
theorem sem_law_source : ∀ ws S Q E, sp_law_source ws S Q E → rd_law_source (DQ Q) (start3 4 ws E) S := fun ws S Q E ⟨ns, e, hl, hQ⟩ => by
  subst e
  refine ⟨_, rfl, _, rfl, ns.map PyData.int, rfl, _, .inl rfl, ?_, ?_⟩
  · rw [List.length_map]
    have z := cutG_none_len (ns.map PyData.int) (some 63)
    rw [List.length_map] at z
    omega
  rw [cutG_map, mw_ints]
  have hcl := cutG_none_len ns (some 63)
  refine lcGo_map (fun w => match w with | .d (.int i) => .int (if i < 0 then -i else i) | w => w) ?_ ?_
  · intro w hw A a
    obtain ⟨i, hi, rfl⟩ := List.mem_map.mp hw
    exact ⟨_, rfl, i, rfl, i, rfl, a⟩
  · refine ⟨((cutG ns none (some 63)).map fun i => if i < 0 then -i else i).map PyData.int, by rw [List.map_map, List.map_map, List.map_map]; rfl, ?_⟩
    generalize hcs : ((cutG ns none (some 63)).map fun i => if i < 0 then -i else i) = cs
    have hcsl : cs.length ≤ 63 := by rw [← hcs, List.length_map]; omega
    refine ⟨_, rfl, _, .inl rfl, ?_⟩
    refine forGo_inv (fun _ τ S' => S' = S ∧ ∃ m w, τ.sl = [some (.lst (ns.map PyData.int)), some (.lst (cs.map PyData.int)), some (.int m), w]) ⟨rfl, _, _, rfl⟩ ?_ ?_
    · rintro i w ⟨sl, ex⟩ S' hw ⟨rfl, m, w4, e⟩
      subst e
      rw [mw_ints, List.getElem?_map] at hw
      obtain ⟨n, hn, rfl⟩ : ∃ n, cs[i]? = some n ∧ W.int n = w := by
        cases h : cs[i]? with
        | none => rw [h] at hw; cases hw
        | some n => rw [h] at hw; exact ⟨n, rfl, Option.some.inj hw⟩
      exact ⟨_, rfl, _, _, rfl, rfl, .inr ⟨by decide, by decide⟩, _, rfl, _, _, rfl, rfl, (show (0 : Int) < 2147483549 by decide), _, _, rfl, rfl, _, _, rfl, rfl, _, rfl, _, _, rfl, rfl, (show (0 : Int) < 2147483647 by decide), rfl, _, _, rfl⟩
    · rintro ⟨sl, ex⟩ S' ⟨rfl, m, w4, e⟩
      subst e
      refine ⟨_, rfl, _, .inl rfl, by rw [List.length_map, List.length_map]; omega, ?_⟩
      rw [mw_ints]
      refine lcGo_pure (fun w => match w with | .d (.int i) => decide ((10 : Int) ^ (18 : Int).toNat ≤ i) | _ => false) id ?_ ?_ ?_
      · intro w hw A a
        obtain ⟨i, hi, rfl⟩ := List.mem_map.mp hw
        exact ⟨_, rfl, _, _, rfl, rfl, ⟨by decide, by decide, by decide⟩, _, _, rfl, rfl, _, rfl, a⟩
      · intro w hw hp A a
        exact ⟨_, rfl, a⟩
      · have e : ([] ++ ((cs.map W.int).filter fun w => match w with | .d (.int i) => decide ((10 : Int) ^ (18 : Int).toNat ≤ i) | _ => false).map id) = ((cs.filter fun i => decide ((10 : Int) ^ (18 : Int).toNat ≤ i)).map PyData.int).map W.d := by
          rw [List.nil_append, List.map_id, List.filter_map, List.map_map]; rfl
        refine ⟨_, e, _, ⟨_, rfl, rfl⟩, fun p hp => ?_⟩
        generalize hgs : (cs.filter fun i => decide ((10 : Int) ^ (18 : Int).toNat ≤ i)) = gs
        have hgl : gs.length ≤ 63 := by rw [← hgs]; exact Nat.le_trans (List.length_filter_le _ _) hcsl
        refine ⟨_, rfl, (show 2 ≤ 1000 by decide), fun q hq => ⟨_, Sub.refl _, ?_⟩⟩
        have hqp : p ≠ q := by rintro rfl; rw [put_same] at hq; cases hq
        refine hQ q p _ (by rw [← hq, put_ne hqp.symm]) hp ((Upto.put (Upto.refl) (by simp)).put (by simp)) ⟨hqp.symm, ⟨_, put_same⟩, gs.reverse, by rw [List.length_reverse]; exact hgl, ?_⟩
        rw [put_ne hqp, put_same, mw_ints, List.map_reverse]
def rd_law_any : TS3 := (tSeq3 (tWhile3 (tAnd3 (tB3 (tOp3 gNe (tOp3 gIx (tVar3 0) (tC3 (.int 0))) (tLstD3 tNil3))) (tB3 (tOp3 gEq (tOp3 gIx (tOp3 gIx (tVar3 0) (tC3 (.int 0))) (tNeg3 (tC3 (.int 1)))) (tC3 (.int 0))))) (tDrop3 (tBM03 gPop (tOp3 gIx (tVar3 0) (tC3 (.int 0)))))) (tSeq3 (tIf3 (tB3 (tOp3 gNe (tOp3 gIx (tVar3 0) (tC3 (.int 0))) (tLstD3 tNil3))) (tSeq3 (tSet3 2 (tCB3 gInt (tCons3 (tBM03 gPop (tOp3 gIx (tVar3 0) (tC3 (.int 0)))) tNil3))) (tSeq3 (tDrop3 (tBM3 gAppend (tOp3 gIx (tVar3 0) (tC3 (.int 0))) (tCons3 (tOp3 gDiv (tVar3 2) (tVar3 1)) tNil3))) (tRet3 (tOp3 gMod (tVar3 2) (tVar3 1))))) tNext3) (tSeq3 (tAsg3 (tOp3 gMod (tCB3 gInt (tCons3 (tOp3 gAdd (tOp3 gMul (tOp3 gIx (tVar3 0) (tC3 (.int 1))) (tC3 (.int 48271))) (tC3 (.int 41))) tNil3)) (tC3 (.int 2147483647))) (gSub3 (tVar3 0) (tC3 (.int 1)) gSetL)) (tRet3 (tOp3 gMod (tCB3 gInt (tCons3 (tOp3 gDiv (tOp3 gIx (tVar3 0) (tC3 (.int 1))) (tC3 (.int 64))) tNil3)) (tVar3 1))))))
theorem sem_law_any : ∀ ws S Q E, sp_law_any ws S Q E → rd_law_any (DQ Q) (start3 3 ws E) S := fun ws S Q E ⟨dl, d1, b, e, hb, hb2, hD, hQ⟩ => by
  subst e
  refine ⟨fun k τ S' => τ.sl = [some (.r dl), some (.int b), none] ∧ Upto [dl, d1] S S' ∧ Deal S' dl d1 ∧ ∃ ns : List Int, ns.length = k ∧ S' d1 = some (.lst (ns.map W.int)), ?_, ?_⟩
  · obtain ⟨ns, _, h⟩ := hD.low
    exact ⟨_, rfl, Upto.refl, hD, ns, rfl, h⟩
  rintro k ⟨sl, ex⟩ S' ⟨e, u, hD', ns, hk, h1⟩
  subst e
  obtain ⟨ne, ⟨m, ht⟩, ns', hl', h1'⟩ := id hD'
  rw [h1] at h1'
  have hl : ns.length ≤ 63 := by
    have z : ns.map W.int = ns'.map W.int := by injection (Option.some.inj h1')
    have z2 := congrArg List.length z
    rw [List.length_map, List.length_map] at z2
    omega
  have i0 : ixW S' 0 (.r dl) = some (.r d1) := by rw [ixW_r ht]; rfl
  have i1 : ixW S' 1 (.r dl) = some (.int m) := by rw [ixW_r ht]; rfl
  have vw : viewW S' (.r d1) = some (.list (ns.map PyData.int)) := view_lst (by rw [mw_ints]; exact h1)
  refine ⟨_, rfl, _, _, rfl, i0, [], rfl, by decide, .inr ⟨_, _, vw, rfl, shaped_intsL ns, shaped_intsL [], _, rfl, fun hc => ?_, fun hc => ?_⟩⟩
  · rw [eqv_nil] at hc
    have hn : ns ≠ [] := by simpa using hc
    have hpos : 0 < ns.length := List.length_pos_iff.mpr hn
    have hlast : (ns.map W.int)[(ns.map W.int).length - 1]? = some (.int (ns[ns.length - 1])) := by
      rw [List.length_map, List.getElem?_map, List.getElem?_eq_getElem (by omega)]; rfl
    have il : ixW S' (-1) (.r d1) = some (.int (ns[ns.length - 1])) := by rw [ixW_r h1]; exact atI_last hlast
    refine ⟨_, rfl, _, _, rfl, i0, _, rfl, _, _, rfl, il, .inr ⟨_, _, rfl, rfl, rfl, rfl, _, rfl, fun hz => ?_, fun hz => ?_⟩⟩
    · refine ⟨fun τ2 S2 => ∃ m', m' < k ∧ τ2.sl = [some (.r dl), some (.int b), none] ∧ Upto [dl, d1] S S2 ∧ Deal S2 dl d1 ∧ ∃ ns : List Int, ns.length = m' ∧ S2 d1 = some (.lst (ns.map W.int)), fun τ2 S2 h => h, ?_⟩
      refine ⟨_, rfl, _, _, rfl, i0, isLst_r h1, d1, _, _, rfl, rfl, h1, hlast, ns.length - 1, by omega, rfl, u.put (by simp), ⟨ne, ⟨m, by rw [put_ne ne]; exact ht⟩, ns.dropLast, by rw [List.length_dropLast]; omega, by rw [put_same, List.map_dropLast]⟩, ns.dropLast, by rw [List.length_dropLast], by rw [put_same, List.map_dropLast]⟩
    · -- the last is not 0
      refine ⟨_, rfl, _, _, rfl, i0, [], rfl, by decide, .inr ⟨_, _, vw, rfl, shaped_intsL ns, shaped_intsL [], _, rfl, fun _ => ?_, fun hc2 => ?_⟩⟩
      · generalize hx : ns[ns.length - 1] = x at *
        refine ⟨_, rfl, _, _, rfl, i0, isLst_r h1, d1, _, _, rfl, rfl, h1, hlast, x, rfl, ?_⟩
        have h2 : put S' d1 (.lst (ns.map W.int).dropLast) d1 = some (.lst (ns.map W.int).dropLast) := put_same
        have i2 : ixW (put S' d1 (.lst (ns.map W.int).dropLast)) 0 (.r dl) = some (.r d1) := by rw [ixW_r (by rw [put_ne ne]; exact ht)]; rfl
        refine ⟨_, rfl, _, _, rfl, i2, isLst_r h2, _, rfl, _, rfl, _, _, rfl, rfl, ⟨hb, hb2⟩, d1, _, _, rfl, rfl, h2, ?_, ?_⟩
        · rw [List.length_dropLast, List.length_map]; exact Nat.lt_of_le_of_lt (show ns.length - 1 ≤ 63 by omega) (by decide)
        refine ⟨_, rfl, _, rfl, _, _, rfl, rfl, hb, _, Sub.refl _, hQ _ _ (Int.emod_nonneg _ (by omega)) (Int.emod_lt_of_pos _ hb) ((u.put (by simp)).put (by simp)) ⟨ne, ⟨m, by rw [put_ne ne, put_ne ne]; exact ht⟩, ns.dropLast ++ [x / b], ?_, ?_⟩⟩
        · rw [List.length_append, List.length_dropLast, List.length_singleton]; omega
        · rw [put_same, List.map_append, List.map_dropLast]; rfl
      · rw [eqv_nil, hc] at hc2; cases hc2
  · -- nothing is left
    rw [eqv_nil] at hc
    refine ⟨fun z => (nomatch z), fun _ => ?_⟩
    refine ⟨_, rfl, _, _, rfl, i0, [], rfl, by decide, .inr ⟨_, _, vw, rfl, shaped_intsL ns, shaped_intsL [], _, rfl, fun hc2 => ?_, fun _ => ?_⟩⟩
    · rw [eqv_nil, hc] at hc2; cases hc2
    · have t2 : put S' dl (.lst ([W.r d1, W.int m].set 1 (.int ((m * 48271 + 41) % 2147483647)))) dl = some (.lst [.r d1, .int ((m * 48271 + 41) % 2147483647)]) := put_same
      have i2 : ixW (put S' dl (.lst ([W.r d1, W.int m].set 1 (.int ((m * 48271 + 41) % 2147483647))))) 1 (.r dl) = some (.int ((m * 48271 + 41) % 2147483647)) := by rw [ixW_r t2]; rfl
      refine ⟨_, rfl, _, _, rfl, i1, _, _, rfl, rfl, .inr ⟨by decide, by decide⟩, _, _, rfl, rfl, _, rfl, _, _, rfl, rfl, (show (0 : Int) < 2147483647 by decide), _, rfl, dl, _, _, 1, rfl, rfl, ht, rfl, ?_⟩
      exact ⟨_, rfl, _, _, rfl, i2, _, _, rfl, rfl, ⟨by decide, by decide⟩, _, rfl, _, rfl, _, _, rfl, rfl, hb, _, Sub.refl _, hQ _ _ (Int.emod_nonneg _ (by omega)) (Int.emod_lt_of_pos _ hb) (u.put (by simp)) ⟨ne, ⟨_, t2⟩, ns, hl, by rw [put_ne ne.symm]; exact h1⟩⟩

/-! laws on turnings: shared words -/
theorem lcGo_mapG {α : Type} {i : Nat} {te : TE3} {τ0 : S3} {S : Sto} {Q : List W → Sto → Prop} (g h : α → W) : ∀ {xs : List α} {acc : List W}, (∀ x ∈ xs, ∀ A : K3, A (h x) S → te (τ0.set i (some (g x))) S A) → Q (acc ++ xs.map h) S → lcGo (gName3 i) tYes3 te τ0 (xs.map g) acc S Q
  | [], acc, _, q => by
    rw [List.map_nil, List.append_nil] at q
    exact q
  | x :: xs, acc, he, q => ⟨fun _ => he x List.mem_cons_self _ (lcGo_mapG g h (fun y hy => he y (List.mem_cons_of_mem _ hy)) (by rw [List.append_assoc]; exact q)), fun e => (nomatch e)⟩
theorem forall_mem_nil {α : Type} {P : α → Prop} : ∀ x ∈ ([] : List α), P x := fun x h => by cases h
theorem forall_mem_cons' {α : Type} {P : α → Prop} {a : α} {l : List α} (h : P a) (t : ∀ x ∈ l, P x) : ∀ x ∈ a :: l, P x := fun x hx => by
  rcases List.mem_cons.mp hx with e | e
  · rw [e]; exact h
  · exact t x e
theorem itemsW_r {S : Sto} {a : Addr} {ds : List PyData} (h : S a = some (.lst (ds.map W.d))) : itemsW S (.r a) = some ds := by
  unfold itemsW; rw [view_lst h]
theorem rgW_at {lo : Int} {n i : Nat} {w : W} (h : (rgW lo n)[i]? = some w) : i < n ∧ w = .int (lo + (i : Nat)) := by
  have hi := (List.getElem?_eq_some_iff.mp h).1
  rw [rgW_len] at hi
  rw [rgW_get hi] at h
  exact ⟨hi, (Option.some.inj h).symm⟩
theorem cm_ok {n : Nat} {a b : List Nat} (ha : PmP n a) (hb : PmP n b) : PmP n (cm a b) := jn_ok (jn_ok ha hb) (jn_ok (iv_ok ha) (iv_ok hb))
theorem ix_head {S : Sto} {w : W} {x : PyData} {ds : List PyData} (h : Tis w (x :: ds)) : ixW S 0 w = some (.d x) := by
  have e : atI ((x :: ds).map W.d) ((0 : Nat) : Int) = some (.d x) := H3.atI_nat rfl
  rcases h with rfl | rfl <;> exact e
def sp_law_join : Sp3 := fun ws S Q E => Bx (sq_joined ws S Q E)
theorem len_law_join : ∀ ws S Q E, sp_law_join ws S Q E → ws.length = 2 := len_joined
def rd_law_join : TS3 := (tRet3 (tCB3 gTuple (tCons3 (tLcD3 (tSeqI3 (tVar3 0)) (gName3 2) tYes3 (tOp3 gIx (tVar3 1) (tVar3 2)) [2]) tNil3)))
theorem sem_law_join : ∀ ws S Q E, sp_law_join ws S Q E → rd_law_join (DQ Q) (start3 3 ws E) S := sem_joined
def sq_law_back : Sp3 := fun ws S Q _ => ∃ n a, ws = [.d (ti a)] ∧ PmP n a ∧ n ≤ 1000 ∧ Q (.d (ti (iv a))) S
def sp_law_back : Sp3 := fun ws S Q E => Bx (sq_law_back ws S Q E)
theorem len_law_back : ∀ ws S Q E, sp_law_back ws S Q E → ws.length = 1 := fun ws S Q E ⟨n, a, e, _⟩ => by rw [e]; rfl
def rb_law_back_0 : TS3 := (tAsg3 (tVar3 2) (gSub3 (tVar3 1) (tOp3 gIx (tVar3 0) (tVar3 2)) gSetL))
def rd_law_back : TS3 := (tSeq3 (tSet3 1 (tOp3 gRepM (tLstM3 (tCons3 (tC3 (.int 0)) tNil3)) (tCB3 gLen (tCons3 (tVar3 0) tNil3)))) (tSeq3 (tFor3 (tRgI1 (tCons3 (tCB3 gLen (tCons3 (tVar3 0) tNil3)) tNil3)) (gName3 2) rb_law_back_0) (tRet3 (tCB3 gTuple (tCons3 (tVar3 1) tNil3)))))
abbrev wn (fs : List Nat) : List W := fs.map fun k => W.int (k : Nat)
theorem rep_zero : ∀ n : Nat, (List.replicate n [W.int 0]).flatten = wn (List.replicate n 0)
  | 0 => rfl
  | n + 1 => by
    rw [List.replicate_succ, List.flatten_cons, rep_zero n]; rfl
theorem sem_law_back : ∀ ws S Q E, sp_law_back ws S Q E → rd_law_back (DQ Q) (start3 3 ws E) S := fun ws S Q E ⟨n, a, e, ha, hn, q⟩ => by
  subst e
  have hal := ha.1
  refine ⟨by decide, fun p0 h0 => ⟨_, rfl, _, _, rfl, len_ti, p0, _, _, rfl, rfl, put_same, by omega, by omega, ?_, fun p1 h1 => ?_⟩⟩
  · show 1 * ((a.length : Nat) : Int).toNat ≤ sizeLine
    rw [hal, sizeLine_eq]; omega
  have h01 : p1 ≠ p0 := by rintro rfl; rw [put_same] at h1; cases h1
  have hS1 : S p1 = none := by rw [put_ne h01] at h1; exact h1
  refine ⟨_, rfl, _, _, rfl, len_ti, _, rfl, ⟨by omega, by omega⟩, ?_⟩
  rw [show ((a.length : Nat) : Int).toNat = n by omega, rep_zero]
  have K1 : Kp [] S (put (put S p0 (.lst [W.int 0])) p1 (.lst (wn (List.replicate n 0)))) := (Kp.refl.new h0).wr hS1
  refine forGo_inv (fun i τ S' => (∃ w2, τ.sl = [some (.d (ti a)), some (.r p1), w2]) ∧ Kp [] S S' ∧ ∃ fs : List Nat, fs.length = n ∧ S' p1 = some (.lst (wn fs)) ∧ ∀ j, j < i → fs[a.getD j 0]? = some j) ⟨⟨_, rfl⟩, K1, List.replicate n 0, List.length_replicate, put_same, fun j hj => absurd hj (Nat.not_lt_zero _)⟩ ?_ ?_
  · rintro i w ⟨sl, ex⟩ S' hw ⟨⟨w2, e⟩, hk, fs, hf, hs, hj⟩
    subst e
    obtain ⟨hi, rfl⟩ := rgW_at hw
    rw [Int.zero_add]
    have hi' : i < a.length := by omega
    have hy : a.getD i 0 < n := by rw [getD_lt hi']; exact ha.2.2 _ (List.getElem_mem hi')
    refine ⟨_, rfl, _, rfl, _, rfl, _, rfl, _, _, rfl, ix_ti hi', p1, _, _, a.getD i 0, rfl, rfl, hs, ?_, ⟨_, rfl⟩, hk.wr hS1, fs.set (a.getD i 0) i, ?_, ?_, fun j hj2 => ?_⟩
    · unfold ixN
      rw [if_pos (by omega), if_pos (by rw [List.length_map, hf]; omega)]
      congr 1
    · rw [List.length_set, hf]
    · rw [put_same, wn, wn, List.map_set]
    · by_cases h : j = i
      · subst h
        rw [List.getElem?_set_self (by rw [hf]; exact hy)]
      · have hji : j < i := by omega
        have hne : a.getD i 0 ≠ a.getD j 0 := fun q => by
          rw [getD_lt hi', getD_lt (show j < a.length by omega)] at q
          exact h ((List.getElem_inj ha.2.1).mp q).symm
        rw [List.getElem?_set_ne hne]
        exact hj j hji
  · rintro ⟨sl, ex⟩ S' ⟨⟨w2, e⟩, hk, fs, hf, hs, hj⟩
    subst e
    rw [rgW_len] at hj
    have e1 : fs = iv a := by
      apply List.ext_getElem?
      intro k
      by_cases hkn : k < n
      · have hm := ha.mem hkn
        have hx := List.idxOf_lt_length_of_mem hm
        have e2 := hj (a.idxOf k) (by omega)
        rw [getD_lt hx, List.getElem_idxOf hx] at e2
        have e3 := iv_getD (a := a) (k := k) (by omega)
        have e4 : k < (iv a).length := by rw [(iv_ok ha).1]; exact hkn
        rw [getD_lt e4] at e3
        rw [e2, List.getElem?_eq_getElem e4, e3]
      · rw [List.getElem?_eq_none (by omega), List.getElem?_eq_none (by rw [(iv_ok ha).1]; omega)]
    subst e1
    exact ⟨_, rfl, _, _, rfl, itemsW_r (ds := (ci (iv a)).map PyData.int) (by rw [mw_ti]; exact hs), S, hk.sub, q⟩
/-! draws of turnings -/
def sq_law_shuffled : Sp3 := fun ws S Q _ => ∃ (dl d1 : Addr) (n : Nat), ws = [.r dl, .int n] ∧ n ≤ 1000 ∧ Deal S dl d1 ∧ ∀ a S', PmP n a → Upto [dl, d1] S S' → Deal S' dl d1 → Q (.d (ti a)) S'
def sp_law_shuffled : Sp3 := fun ws S Q E => Bx (sq_law_shuffled ws S Q E)
theorem len_law_shuffled : ∀ ws S Q E, sp_law_shuffled ws S Q E → ws.length = 2 := fun ws S Q E ⟨n, a, b, e, _⟩ => by rw [e]; rfl
def rb_law_shuffled_0 : TS3 := (tDrop3 (tBM3 gAppend (tVar3 4) (tCons3 (tBM3 gPopAt (tVar3 3) (tCons3 (tCall3 sp_law_any (tCons3 (tVar3 0) (tCons3 (tCB3 gLen (tCons3 (tVar3 3) tNil3)) tNil3))) tNil3)) tNil3)))
def rd_law_shuffled : TS3 := (tSeq3 (tPar3 3 4 (tCons3 (tLstRgM3 (tRg13 (tVar3 1))) (tCons3 (tLstM3 tNil3) tNil3))) (tSeq3 (tFor3 (tRgI1 (tCons3 (tVar3 1) tNil3)) (gName3 2) rb_law_shuffled_0) (tRet3 (tCB3 gTuple (tCons3 (tVar3 4) tNil3)))))
theorem eraseIdx_map' {α β : Type} (f : α → β) : ∀ (l : List α) (i : Nat), (l.map f).eraseIdx i = (l.eraseIdx i).map f
  | [], _ => by simp
  | _ :: _, 0 => rfl
  | x :: l, i + 1 => by
    show f x :: (l.map f).eraseIdx i = f x :: (l.eraseIdx i).map f
    rw [eraseIdx_map' f l i]
theorem perm_erase {α : Type} : ∀ {l : List α} {i : Nat} (h : i < l.length), (l[i] :: l.eraseIdx i).Perm l
  | x :: l, 0, _ => .refl _
  | x :: l, i + 1, h => ((List.Perm.swap _ _ _).trans (List.Perm.cons x (perm_erase (l := l) (i := i) (by simpa using h))))
theorem pm_of_perm {n : Nat} {a : List Nat} (h : a.Perm (List.range n)) : PmP n a := ⟨by rw [h.length_eq, List.length_range], h.symm.nodup List.nodup_range, fun x hx => List.mem_range.mp (h.mem_iff.mp hx)⟩
theorem rg_wn {n : Nat} : (rgD 0 (n : Int)).map W.d = wn (List.range n) := by rw [rgD_ti, mw_ti]
theorem sem_law_shuffled : ∀ ws S Q E, sp_law_shuffled ws S Q E → rd_law_shuffled (DQ Q) (start3 5 ws E) S := fun ws S Q E ⟨dl, d1, n, e, hn, hD, hQ⟩ => by
  subst e
  refine ⟨_, rfl, _, rfl, RgOk.of_le (by decide) (by omega) (by decide) (by omega), fun l hl => ⟨by decide, fun r hr => ⟨_, _, rfl, ?_⟩⟩⟩
  rw [rg_wn] at hr ⊢
  have hlr : r ≠ l := by rintro rfl; rw [put_same] at hr; cases hr
  have hr1 : S r = none := by rw [← hr, put_ne hlr]
  obtain ⟨l1, l2⟩ := hD.free hl
  obtain ⟨r1, r2⟩ := hD.free hr1
  refine ⟨_, rfl, n, rfl, ⟨by omega, by omega⟩, ?_⟩
  rw [show ((n : Nat) : Int).toNat = n by omega]
  refine forGo_inv (fun i τ S' => (∃ w2, τ.sl = [some (.r dl), some (.int n), w2, some (.r l), some (.r r)]) ∧ Deal S' dl d1 ∧ Kp [dl, d1] S S' ∧ ∃ ls rs : List Nat, S' l = some (.lst (wn ls)) ∧ S' r = some (.lst (wn rs)) ∧ rs.length = i ∧ (rs ++ ls).Perm (List.range n)) ?_ ?_ ?_
  · exact ⟨⟨_, rfl⟩, (hD.other l1 l2).other r1 r2, (Kp.refl.wr hl).wr hr1, List.range n, [], by rw [put_ne hlr.symm, put_same], put_same, rfl, .refl _⟩
  · rintro i w ⟨sl, ex⟩ S2 hw ⟨⟨w5, e⟩, hD2, k2, ls, rs, e1, e2, l4, pm⟩
    subst e
    obtain ⟨hi, rfl⟩ := rgW_at hw
    have hls : i + ls.length = n := by
      have := pm.length_eq
      rw [List.length_append, List.length_range] at this
      omega
    refine ⟨_, rfl, isLst_r e2, _, rfl, isLst_r e1, _, rfl, _, rfl, _, _, rfl, lenW_r e1, law_any_lt hD2 (by rw [List.length_map]; omega) (by rw [List.length_map]; omega) fun j S3 j0 j1 u3 hD3 => ?_⟩
    have e1' : S3 l = some (.lst (wn ls)) := by rw [u3 l (by simp [l1, l2])]; exact e1
    have e2' : S3 r = some (.lst (wn rs)) := by rw [u3 r (by simp [r1, r2])]; exact e2
    rw [List.length_map] at j1
    have hj : j.toNat < ls.length := by omega
    refine ⟨l, _, j.toNat, .int (ls[j.toNat] : Nat), rfl, by rw [show ((j.toNat : Nat) : Int) = j by omega], e1', by rw [List.getElem?_map, List.getElem?_eq_getElem hj]; rfl, by omega, r, wn rs, _, rfl, rfl, by rw [put_ne hlr]; exact e2', ?_, ⟨_, rfl⟩, (hD3.other l1 l2).other r1 r2, ((k2.trans u3.kp).wr hl).wr hr1, ls.eraseIdx j.toNat, rs ++ [ls[j.toNat]], ?_, ?_, ?_, ?_⟩
    · rw [List.length_map, l4]; exact Nat.lt_of_le_of_lt (show i ≤ 1000 by omega) (by decide)
    · rw [put_ne hlr.symm, put_same, wn, eraseIdx_map']
    · rw [put_same, wn, wn, List.map_append]; rfl
    · rw [List.length_append, List.length_singleton, l4]
    · rw [List.append_assoc]
      exact (List.Perm.append_left rs (perm_erase hj)).trans pm
  · rintro ⟨sl, ex⟩ S2 ⟨⟨w5, e⟩, hD2, k2, ls, rs, e1, e2, l4, pm⟩
    subst e
    rw [rgW_len] at l4
    have hls : ls = [] := by
      have := pm.length_eq
      rw [List.length_append, List.length_range] at this
      exact List.eq_nil_of_length_eq_zero (by omega)
    subst hls
    rw [List.append_nil] at pm
    exact ⟨_, rfl, _, _, rfl, itemsW_r (ds := (ci rs).map PyData.int) (by rw [mw_ti]; exact e2), two dl d1 S S2, two_sub k2, hQ rs _ (pm_of_perm pm) two_upto (two_deal hD2)⟩

/-! closures -/
theorem lcGo_drawn {β : Type} {i m : Nat} {te : TE3} {τ0 : S3} {S : Sto} {Q : List W → Sto → Prop} {dl d1 : Addr} {f : β → W} {P : β → Prop} (me : ∀ τ S (A B : K3), (∀ w S, A w S → B w S) → te τ S A → te τ S B) (hD : Deal S dl d1)
    (hs : ∀ S' (w : W) (A : K3), Deal S' dl d1 → (∀ b S2, P b → Upto [dl, d1] S' S2 → Deal S2 dl d1 → A (f b) S2) → te (τ0.set i (some w)) S' A)
    (hd : ∀ (bs : List β) S', bs.length = m → (∀ b ∈ bs, P b) → Upto [dl, d1] S S' → Deal S' dl d1 → Q (bs.map f) S') : lcGo (gName3 i) tYes3 te τ0 (rgW 0 m) [] S Q := by
  refine lcGo_inv (fun k acc S' => Deal S' dl d1 ∧ Upto [dl, d1] S S' ∧ ∃ bs : List β, acc = bs.map f ∧ bs.length = k ∧ ∀ b ∈ bs, P b) ⟨hD, Upto.refl, [], rfl, rfl, fun n hn => by cases hn⟩ ?_ (fun w τ S A B h q => h _ _ q) (fun τ S A B h q => h _ _ q) me ?_
  · rintro k w acc S3 hw ⟨hD3, u3, bs, rfl, l3, b3⟩
    refine ⟨fun _ => hs S3 w _ hD3 fun b S4 hb u4 hD4 => ⟨hD4, u3.trans u4, bs ++ [b], by rw [List.map_append]; rfl, by rw [List.length_append, l3]; rfl, fun x hx => ?_⟩, fun h => (nomatch h)⟩
    rcases List.mem_append.mp hx with h | h
    · exact b3 x h
    · cases List.mem_singleton.mp h; exact hb
  · rintro acc S3 ⟨hD3, u3, bs, rfl, l3, b3⟩
    rw [rgW_len] at l3
    exact hd bs S3 l3 b3 u3 hD3
theorem mono_shuffled {ws : List W} {S : Sto} {A B : K3} {E E' : X3} (m : ∀ w S, A w S → B w S) : sp_law_shuffled ws S A E → sp_law_shuffled ws S B E' := fun ⟨dl, d1, n, e, h1, h2, q⟩ => ⟨dl, d1, n, e, h1, h2, fun a S' x y z => m _ _ (q a S' x y z)⟩
theorem mono_law_of {ws : List W} {S : Sto} {A B : K3} {E E' : X3} (m : ∀ w S, A w S → B w S) : sp_law_of ws S A E → sp_law_of ws S B E' := fun ⟨dl, d1, w, n, e, h1, h2, h3, h4, q⟩ => ⟨dl, d1, w, n, e, h1, h2, h3, h4, fun i S' x y z u => let ⟨v, e, h⟩ := q i S' x y z u; ⟨v, e, m _ _ h⟩⟩
def sq_law_all : Sp3 := fun ws S Q _ => ∃ (n : Nat) (as : List (List Nat)), ws = [.lst (as.map ti), .int n] ∧ n ≤ 1000 ∧ (∀ a ∈ as, PmP n a) ∧ Q (.d (ti (as.foldl jn (List.range n)))) S
def sp_law_all : Sp3 := fun ws S Q E => Bx (sq_law_all ws S Q E)
theorem len_law_all : ∀ ws S Q E, sp_law_all ws S Q E → ws.length = 2 := fun ws S Q E ⟨n, a, e, _⟩ => by rw [e]; rfl
def rb_law_all_0 : TS3 := (tSet3 2 (tCall3 sp_law_join (tCons3 (tVar3 2) (tCons3 (tVar3 3) tNil3))))
def rd_law_all : TS3 := (tSeq3 (tSet3 2 (tTupRg3 (tRg13 (tVar3 1)))) (tSeq3 (tFor3 (tSeqI3 (tVar3 0)) (gName3 3) rb_law_all_0) (tRet3 (tVar3 2))))
theorem sem_law_all : ∀ ws S Q E, sp_law_all ws S Q E → rd_law_all (DQ Q) (start3 4 ws E) S := fun ws S Q E ⟨n, as, e, hn, ha, q⟩ => by
  subst e
  refine ⟨_, rfl, n, rfl, RgOk.of_le (by decide) (by omega) (by decide) (by omega), ?_⟩
  rw [rgD_ti]
  refine ⟨_, rfl, as.map ti, .inl rfl, ?_⟩
  refine forGo_inv (fun i τ S' => S' = S ∧ ∃ w4, τ.sl = [some (.lst (as.map ti)), some (.int n), some (.d (ti ((as.take i).foldl jn (List.range n)))), w4]) ⟨rfl, _, rfl⟩ ?_ ?_
  · rintro i x ⟨sl, ex⟩ S' hx ⟨rfl, w4, e⟩
    subst e
    rw [List.map_map] at hx
    obtain ⟨a, h1, rfl⟩ := get_map hx
    have hm := List.mem_of_getElem? h1
    refine ⟨_, rfl, _, rfl, join_P (jn_all_ok hm_ok fun b hb => ha b (List.mem_of_mem_take hb)) (ha a hm) hn ⟨rfl, some (.d (ti a)), ?_⟩⟩
    rw [fold_take jn _ h1]; rfl
  · rintro ⟨sl, ex⟩ S' ⟨rfl, w4, e⟩
    subst e
    rw [List.length_map, List.length_map, List.take_length]
    exact ⟨_, rfl, _, Sub.refl _, q⟩
theorem law_of_tis {dl d1 : Addr} {n : Nat} {gs : List (List Nat)} {S : Sto} {Q : K3} {E : X3} (hD : Deal S dl d1) (h0 : gs ≠ []) (hl : gs.length ≤ 1000) (hg : ∀ a ∈ gs, PmP n a) (q : ∀ a S', PmP n a → Upto [dl, d1] S S' → Deal S' dl d1 → Q (.d (ti a)) S') : sp_law_of [.r dl, .lst (gs.map ti)] S Q E :=
  law_of_list hD (by simpa using h0) (by rw [List.length_map]; exact Nat.lt_of_le_of_lt hl (by decide)) fun d hd S' u hD' => by
    obtain ⟨a, ha, rfl⟩ := List.mem_map.mp hd
    exact q a S' (hg a ha) u hD'
section
variable {n : Nat} {S : Sto} {Q : K3} {E : X3} (hn : n ≤ 100)
include hn
theorem cm_Pm {a b : Pm n} (q : Q (.d (ti (cmP a b).1)) S) : sp_commutator [.d (ti a.1), .d (ti b.1)] S Q E := ⟨n, _, _, rfl, a.2, b.2, by omega, q⟩
theorem cj_Pm {a b : Pm n} (q : Q (.d (ti (cjP a b).1)) S) : sp_conjugate [.d (ti a.1), .d (ti b.1)] S Q E := ⟨n, _, _, rfl, a.2, b.2, by omega, q⟩
theorem tb_Pm {a : Pm n} (q : Q (.d (ti (a⁻¹).1)) S) : sp_turned_back [.d (ti a.1)] S Q E := ⟨n, _, rfl, a.2, by omega, q⟩
theorem lb_Pm {a : Pm n} (q : Q (.d (ti (a⁻¹).1)) S) : sp_law_back [.d (ti a.1)] S Q E := ⟨n, _, rfl, a.2, by omega, q⟩
theorem lj_Pm {a b : Pm n} (q : Q (.d (ti (a * b).1)) S) : sp_law_join [.d (ti a.1), .d (ti b.1)] S Q E := join_P a.2 b.2 (by omega) q
theorem rp_Pm {a : Pm n} : (ti a.1).showable = true ∧ (ti a.1).hasDict = false ∧ (ti a.1).depth ≤ 64 ∧ (ti a.1).shown.length ≤ sizeLine :=
  have f := fine_ti a.2 hn
  ⟨f.sho, PyData.hasDict_of_canLay _ f.lay, Nat.le_trans f.dep (by decide), f.len⟩
end
theorem ne_sh {n : Nat} {a b : Pm n} {p : Prop} (h : a = b) (hc : (!decide ((ti a.1).shown = (ti b.1).shown)) = true) : p := by subst h; simp at hc
theorem eq_ti {n : Nat} {a b : Pm n} : PyData.eqv (ti a.1) (ti b.1) = decide (a.1 = b.1) := eqv_ti
theorem ne_ti {n : Nat} {a b : Pm n} {p : Prop} (h : a = b) (hc : (!PyData.eqv (ti a.1) (ti b.1)) = true) : p := by subst h; rw [eqv_ti] at hc; simp at hc
theorem same_ti {n : Nat} {a b : Pm n} (h : a = b) : PyData.eqv (ti a.1) (ti b.1) = true := by subst h; rw [eqv_ti]; simp
theorem val_iff {n : Nat} {a b : Pm n} : a.1 = b.1 ↔ a = b := ⟨fun h => Subtype.ext h, fun h => by rw [h]⟩
theorem pms_of {n : Nat} : ∀ {as : List (List Nat)}, (∀ a ∈ as, PmP n a) → ∃ bs : List (Pm n), as = bs.map (·.1)
  | [], _ => ⟨[], rfl⟩
  | a :: as, h => by
    obtain ⟨bs, e⟩ := pms_of fun b hb => h b (List.mem_cons_of_mem _ hb)
    subst e
    exact ⟨⟨a, h a List.mem_cons_self⟩ :: bs, rfl⟩

/-! lots -/
def lt (l : List Int) : PyData := .tuple (l.map PyData.int)
def wi (a b : List Int) : Bool := a.all fun k => decide (k ∈ b)
theorem in_ints (k : Int) : ∀ l : List Int, ((l.map PyData.int).any fun z => PyData.eqv z (.int k)) = decide (k ∈ l)
  | [] => rfl
  | x :: l => by
    rw [List.map_cons, List.any_cons, in_ints k l]
    show (decide (x = k) || decide (k ∈ l)) = _
    rw [← Bool.decide_or]
    exact decide_eq_decide.mpr (by rw [List.mem_cons]; exact or_congr eq_comm Iff.rfl)
theorem all_ints (a b : List Int) : inAll (a.map PyData.int) (b.map PyData.int) = wi a b := by
  unfold inAll wi
  rw [List.all_map]
  exact congrArg (fun f => a.all f) (funext fun k => in_ints k b)
theorem wi_iff {a b : List Int} : wi a b = true ↔ ∀ k ∈ a, k ∈ b := by simp [wi]
def sq_is_within (tb : Nat → Addr) : Sp3 := fun ws S Q _ => ∃ a b : List Int, ws = [.d (lt a), .d (lt b)] ∧ S (tb 0) = some (.tb none) ∧ Q (.bl (wi a b)) S
def sp_is_within (tb : Nat → Addr) : Sp3 := fun ws S Q E => Bx (sq_is_within tb ws S Q E)
theorem len_is_within (tb : Nat → Addr) : ∀ ws S Q E, sp_is_within tb ws S Q E → ws.length = 2 := fun ws S Q E ⟨a, b, e, _⟩ => by rw [e]; rfl
def rd_is_within (tb : Nat → Addr) : TS3 := (tRet3 (tAllIn3 (tb 0) 1 (tVar3 0)))
theorem lay_ints (l : List Int) : PyData.canLayAll0 (l.map PyData.int) = true := canLayAll_map _ (fun _ => rfl) _
theorem sem_is_within (tb : Nat → Addr) : ∀ ws S Q E, sp_is_within tb ws S Q E → rd_is_within tb (DQ Q) (start3 2 ws E) S := fun ws S Q E ⟨a, b, e, ht, q⟩ => by
  subst e
  refine ⟨_, rfl, a.map PyData.int, lt b, b.map PyData.int, rfl, rfl, rfl, fun d hd => ?_, lay_ints b, ht, _, Sub.refl _, ?_⟩
  · obtain ⟨k, _, rfl⟩ := List.mem_map.mp hd
    rfl
  · rw [all_ints]; exact q
/-! factors -/
abbrev Fc (n : Nat) := List Int × Pm n
def fc {n : Nat} (f : Fc n) : PyData := .tuple [lt f.1, ti f.2.1]
/-- what the factors show to a lot -/
def sw {n : Nat} (fs : List (Fc n)) (T : List Int) : Pm n := ((fs.filter fun f => wi f.1 T).map (·.2)).foldl (· * ·) 1
theorem foldl_Pm {n : Nat} : ∀ (as : List (Pm n)) (x : Pm n), (as.map (·.1)).foldl jn x.1 = (as.foldl (· * ·) x).1
  | [], _ => rfl
  | a :: as, x => foldl_Pm as (x * a)
def sq_shown_of (tb : Nat → Addr) : Sp3 := fun ws S Q _ => ∃ (n : Nat) (fs : List (Fc n)) (T : List Int), ws = [.int n, .tup (fs.map fc), .d (lt T)] ∧ n ≤ 1000 ∧ fs.length ≤ 1000 ∧ S (tb 0) = some (.tb none) ∧ Q (.d (ti (sw fs T).1)) S
def sp_shown_of (tb : Nat → Addr) : Sp3 := fun ws S Q E => Bx (sq_shown_of tb ws S Q E)
theorem len_shown_of (tb : Nat → Addr) : ∀ ws S Q E, sp_shown_of tb ws S Q E → ws.length = 3 := fun ws S Q E ⟨n, a, b, e, _⟩ => by rw [e]; rfl
def rd_shown_of (tb : Nat → Addr) : TS3 := (tRet3 (tCall3 sp_joined_all (tCons3 (tVar3 0) (tCons3 (tLcD3 (tSeqI3 (tVar3 1)) (gTup3 2 (gCons3 (gName3 3) (gCons3 (gName3 4) gNil3))) (tB3 (tCall3 (sp_is_within tb) (tCons3 (tVar3 3) (tCons3 (tVar3 2) tNil3)))) (tVar3 4) [3, 4]) tNil3))))
theorem lcGo_pair {α : Type} {i j : Nat} {tt : TT3} {te : TE3} {τ0 : S3} {S : Sto} {Q : List W → Sto → Prop} (f : α → W) (x y : α → PyData) (p : α → Bool) (h : α → W) : ∀ {as : List α} {acc : List W}, (∀ a ∈ as, f a = .tup [x a, y a]) → (∀ a ∈ as, ∀ A : Bool → Sto → Prop, A (p a) S → tt ((τ0.set i (some (.d (x a)))).set j (some (.d (y a)))) S A) →
    (∀ a ∈ as, p a = true → ∀ A : K3, A (h a) S → te ((τ0.set i (some (.d (x a)))).set j (some (.d (y a)))) S A) → Q (acc ++ (as.filter p).map h) S → lcGo (gTup3 2 (gCons3 (gName3 i) (gCons3 (gName3 j) gNil3))) tt te τ0 (as.map f) acc S Q
  | [], acc, _, _, _, q => by
    have q : Q (acc ++ []) S := q
    rw [List.append_nil] at q
    exact q
  | a :: as, acc, hf, ht, he, q => by
    refine ⟨[x a, y a], hf a List.mem_cons_self, rfl, _, _, rfl, _, _, rfl, rfl, ht a List.mem_cons_self _ ⟨fun e => he a List.mem_cons_self e _ ?_, fun e => ?_⟩⟩
    · refine lcGo_pair f x y p h (fun b m => hf b (List.mem_cons_of_mem _ m)) (fun b m => ht b (List.mem_cons_of_mem _ m)) (fun b m => he b (List.mem_cons_of_mem _ m)) ?_
      rw [List.filter_cons, if_pos e, List.map_cons] at q
      rw [List.append_assoc]
      exact q
    · refine lcGo_pair f x y p h (fun b m => hf b (List.mem_cons_of_mem _ m)) (fun b m => ht b (List.mem_cons_of_mem _ m)) (fun b m => he b (List.mem_cons_of_mem _ m)) ?_
      rw [List.filter_cons, if_neg (by rw [e]; exact Bool.false_ne_true)] at q
      exact q
theorem sem_shown_of (tb : Nat → Addr) : ∀ ws S Q E, sp_shown_of tb ws S Q E → rd_shown_of tb (DQ Q) (start3 5 ws E) S := fun ws S Q E ⟨n, fs, T, e, hn, hl, ht, q⟩ => by
  subst e
  refine ⟨_, rfl, _, rfl, fs.map fc, .inr rfl, by rw [List.length_map, List.length_map]; omega, ?_⟩
  rw [List.map_map]
  refine lcGo_pair (W.d ∘ fc) (fun f => lt f.1) (fun f => ti f.2.1) (fun f => wi f.1 T) (fun f => W.d (ti f.2.1)) (fun _ _ => rfl) (fun f _ A a => ⟨_, rfl, _, rfl, ⟨f.1, T, rfl, ht, _, rfl, a⟩⟩) (fun f _ _ A a => ⟨_, rfl, a⟩) ?_
  refine ⟨((fs.filter fun f => wi f.1 T).map (·.2)).map (fun x => ti x.1), by rw [List.nil_append, List.map_map, List.map_map]; rfl, ⟨n, _, ((fs.filter fun f => wi f.1 T).map (·.2)).map (·.1), rfl, .inl (by rw [List.map_map, List.map_map, List.map_map]; rfl), hn, fun a ha => ?_, _, Sub.refl _, ?_⟩⟩
  · obtain ⟨x, _, rfl⟩ := List.mem_map.mp ha
    exact x.2
  · have := foldl_Pm ((fs.filter fun f => wi f.1 T).map (·.2)) (1 : Pm n)
    rw [show (1 : Pm n).1 = List.range n from rfl] at this
    rw [this]
    exact q
/-! what the law shows -/
def sq_law_shown : Sp3 := fun ws S Q _ => ∃ (n : Nat) (fs : List (Fc n)) (T : List Int), ws = [.tup (fs.map fc), .d (lt T), .int n] ∧ n ≤ 1000 ∧ fs.length ≤ 1000 ∧ (∀ f ∈ fs, f.1.length ≤ 1000) ∧ Q (.d (ti (sw fs T).1)) S
def sp_law_shown : Sp3 := fun ws S Q E => Bx (sq_law_shown ws S Q E)
theorem len_law_shown : ∀ ws S Q E, sp_law_shown ws S Q E → ws.length = 3 := fun ws S Q E ⟨n, a, b, e, _⟩ => by rw [e]; rfl
def rb_law_shown_0 : TS3 := (tIf3 (tB3 (tOp3 gEq (tLcD3 (tSeqI3 (tVar3 4)) (gName3 6) (tB3 (tOp3 (gIn true) (tVar3 6) (tVar3 1))) (tVar3 6) [6]) (tLstD3 tNil3))) (tSet3 3 (tCall3 sp_law_join (tCons3 (tVar3 3) (tCons3 (tVar3 5) tNil3)))) tNext3)
def rd_law_shown : TS3 := (tSeq3 (tSet3 3 (tTupRg3 (tRg13 (tVar3 2)))) (tSeq3 (tFor3 (tSeqI3 (tVar3 0)) (gTup3 2 (gCons3 (gName3 4) (gCons3 (gName3 5) gNil3))) rb_law_shown_0) (tRet3 (tVar3 3))))
/-- [k for k in a if k not in T] is empty -/
theorem out_nil {a T : List Int} : (a.filter fun k => !decide (k ∈ T)) = [] ↔ wi a T = true := by
  rw [List.filter_eq_nil_iff, wi_iff]
  simp
theorem sw_snoc {n : Nat} (fs : List (Fc n)) (f : Fc n) (T : List Int) : sw (fs ++ [f]) T = if wi f.1 T = true then sw fs T * f.2 else sw fs T := by
  unfold sw
  rw [List.filter_append]
  by_cases h : wi f.1 T = true
  · rw [if_pos h, List.filter_cons, if_pos h, List.filter_nil, List.map_append, List.foldl_append]; rfl
  · rw [if_neg h, List.filter_cons, if_neg h, List.filter_nil, List.append_nil]
/-- the hands of a that T lacks, as the law lists them -/
theorem lc_out {i : Nat} {a T : List Int} {τ0 : S3} {S : Sto} {Q : List W → Sto → Prop} {tu : TE3} (hi : τ0.sl.length > i) (hu : ∀ k (A : K3), A (.d (lt T)) S → tu (τ0.set i (some (.int k))) S A) (q : Q ((a.filter fun k => !decide (k ∈ T)).map W.int) S) :
    lcGo (gName3 i) (tB3 (tOp3 (gIn true) (tVar3 i) tu)) (tVar3 i) τ0 (a.map W.int) [] S Q := by
  have at_ : ∀ w : W, (τ0.set i (some w)).sl[i]? = some (some w) := fun w => by
    show (τ0.sl.set i (some w))[i]? = _
    rw [List.getElem?_set_self hi]
  refine lcGo_pure (fun w => match w with | .d (.int k) => !decide (k ∈ T) | _ => false) id (fun w hw A h => ?_) (fun w hw _ A h => ⟨w, at_ w, h⟩) ?_
  · obtain ⟨k, _, rfl⟩ := List.mem_map.mp hw
    refine ⟨_, at_ _, hu k _ ⟨.int k, T.map PyData.int, rfl, rfl, rfl, lay_ints T, _, rfl, ?_⟩⟩
    rw [in_ints]
    exact h
  · rw [List.nil_append, List.map_id, List.filter_map]
    exact q
theorem sem_law_shown : ∀ ws S Q E, sp_law_shown ws S Q E → rd_law_shown (DQ Q) (start3 7 ws E) S := fun ws S Q E ⟨n, fs, T, e, hn, hl, hf, q⟩ => by
  subst e
  refine ⟨_, rfl, n, rfl, RgOk.of_le (by decide) (by omega) (by decide) (by omega), ?_⟩
  rw [rgD_ti]
  refine ⟨_, rfl, fs.map fc, .inr rfl, ?_⟩
  refine forGo_inv (fun i τ S' => S' = S ∧ ∃ w4 w5 w6, τ.sl = [some (.tup (fs.map fc)), some (.d (lt T)), some (.int n), some (.d (ti (sw (fs.take i) T).1)), w4, w5, w6]) ⟨rfl, _, _, _, rfl⟩ ?_ ?_
  · rintro i x ⟨sl, ex⟩ S' hx ⟨rfl, w4, w5, w6, e⟩
    subst e
    rw [List.map_map] at hx
    obtain ⟨f, h1, rfl⟩ := get_map hx
    have hm := List.mem_of_getElem? h1
    have next : sw (fs.take (i + 1)) T = if wi f.1 T = true then sw (fs.take i) T * f.2 else sw (fs.take i) T := by
      rw [List.take_add_one, h1]
      exact sw_snoc _ f T
    refine ⟨[lt f.1, ti f.2.1], rfl, rfl, _, _, rfl, _, _, rfl, rfl, ?_⟩
    refine ⟨_, rfl, f.1.map PyData.int, .inr rfl, by rw [List.length_map, List.length_map]; have := hf f hm; omega, ?_⟩
    rw [mw_ints]
    refine lc_out (T := T) (by show 6 < 7; decide) (fun k A a => ⟨_, rfl, a⟩) ⟨(f.1.filter fun k => !decide (k ∈ T)).map PyData.int, by rw [List.map_map]; rfl, [], rfl, by decide, .inr ⟨_, _, rfl, rfl, shaped_intsL _, shaped_intsL [], _, rfl, fun c => ?_, fun c => ?_⟩⟩
    · have c2 : wi f.1 T = true := out_nil.mp (by rw [eqv_nil] at c; simpa using c)
      rw [if_pos c2] at next
      refine ⟨_, rfl, _, rfl, join_Pm (by omega) ⟨rfl, some (.d (lt f.1)), some (.d (ti f.2.1)), w6, ?_⟩⟩
      rw [next]
      rfl
    · have c2 : ¬ wi f.1 T = true := fun z => by
        rw [out_nil.mpr z] at c
        cases c
      rw [if_neg c2] at next
      refine ⟨rfl, some (.d (lt f.1)), some (.d (ti f.2.1)), w6, ?_⟩
      rw [next]
      rfl
  · rintro ⟨sl, ex⟩ S' ⟨rfl, w4, w5, w6, e⟩
    subst e
    rw [List.length_map, List.length_map, List.take_length]
    exact ⟨_, rfl, _, Sub.refl _, q⟩
/-! two factors past one another -/
/-- what comes behind them, if neither lot lies in the other -/
def mo {n : Nat} (f g : Fc n) : Pm n := (g.2 * f.2)⁻¹ * (f.2 * g.2)
def pas {n : Nat} (f g : Fc n) (B : List Int) : List (Fc n) :=
  if wi g.1 f.1 = true then [g, (f.1, cjP f.2 g.2)] else if wi f.1 g.1 = true then [(g.1, cjP g.2 f.2⁻¹), f] else if (mo f g).1 = List.range n then [g, f] else [g, f, (B, mo f g)]
def Both (B l : List Int) : Prop := B.Pairwise (· < ·) ∧ ∀ k, k ∈ B ↔ k ∈ l
theorem both_is (l : List Int) : ∃ B, Both B l := by
  refine ⟨(PyProof.Rows.firstMet (fun i => l.getD i 0) l.length).mergeSort (PySem.W.dataLe false fun i : Int => PyData.int i), rises (met_nodup _ _), fun k => ?_⟩
  rw [(List.mergeSort_perm _ _).mem_iff, met_mem]
def sq_passed (tb : Nat → Addr) : Sp3 := fun ws S Q _ => ∃ (n : Nat) (f g : Fc n), ws = [.d (fc f), .d (fc g)] ∧ n ≤ 100 ∧ f.1.length + g.1.length ≤ 1000 ∧ S (tb 0) = some (.tb none) ∧ ∀ B, Both B (f.1 ++ g.1) → Q (.tup ((pas f g B).map fc)) S
def sp_passed (tb : Nat → Addr) : Sp3 := fun ws S Q E => Bx (sq_passed tb ws S Q E)
theorem len_passed (tb : Nat → Addr) : ∀ ws S Q E, sp_passed tb ws S Q E → ws.length = 2 := fun ws S Q E ⟨n, a, b, e, _⟩ => by rw [e]; rfl
def rd_passed (tb : Nat → Addr) : TS3 := (tSeq3 (tAsg3 (tTup3 (tCons3 (tVar3 0) (tCons3 (tVar3 1) tNil3))) (gTup3 2 (gCons3 (gTup3 2 (gCons3 (gName3 3) (gCons3 (gName3 4) gNil3))) (gCons3 (gTup3 2 (gCons3 (gName3 5) (gCons3 (gName3 6) gNil3))) gNil3)))) (tSeq3 (tIf3 (tB3 (tCall3 (sp_is_within tb) (tCons3 (tVar3 5) (tCons3 (tVar3 3) tNil3)))) (tRet3 (tTup3 (tCons3 (tVar3 1) (tCons3 (tTup3 (tCons3 (tVar3 3) (tCons3 (tCall3 sp_conjugate (tCons3 (tVar3 4) (tCons3 (tVar3 6) tNil3))) tNil3))) tNil3)))) tNext3) (tSeq3 (tIf3 (tB3 (tCall3 (sp_is_within tb) (tCons3 (tVar3 3) (tCons3 (tVar3 5) tNil3)))) (tRet3 (tTup3 (tCons3 (tTup3 (tCons3 (tVar3 5) (tCons3 (tCall3 sp_conjugate (tCons3 (tVar3 6) (tCons3 (tCall3 sp_turned_back (tCons3 (tVar3 4) tNil3)) tNil3))) tNil3))) (tCons3 (tVar3 0) tNil3)))) tNext3) (tSeq3 (tSet3 2 (tCall3 sp_joined (tCons3 (tCall3 sp_turned_back (tCons3 (tCall3 sp_joined (tCons3 (tVar3 6) (tCons3 (tVar3 4) tNil3))) tNil3)) (tCons3 (tCall3 sp_joined (tCons3 (tVar3 4) (tCons3 (tVar3 6) tNil3))) tNil3)))) (tSeq3 (tIf3 (tB3 (tOp3 gEq (tVar3 2) (tCall3 sp_still (tCons3 (tCB3 gLen (tCons3 (tVar3 2) tNil3)) tNil3)))) (tRet3 (tTup3 (tCons3 (tVar3 1) (tCons3 (tVar3 0) tNil3)))) tNext3) (tRet3 (tTup3 (tCons3 (tVar3 1) (tCons3 (tVar3 0) (tCons3 (tTup3 (tCons3 (tCB3 gTuple (tCons3 (tSortSet3 (tOp3 gCatT (tVar3 3) (tVar3 5))) tNil3)) (tCons3 (tVar3 2) tNil3))) tNil3))))))))))
theorem jo_Pm {n : Nat} {a b : Pm n} {S : Sto} {Q : K3} {E : X3} (hn : n ≤ 100) (q : Q (.d (ti (a * b).1)) S) : sp_joined [.d (ti a.1), .d (ti b.1)] S Q E := join_P a.2 b.2 (by omega) q
theorem sem_passed (tb : Nat → Addr) : ∀ ws S Q E, sp_passed tb ws S Q E → rd_passed tb (DQ Q) (start3 7 ws E) S := fun ws S Q E ⟨n, f, g, e, hn, hl, ht, q⟩ => by
  subst e
  refine ⟨_, rfl, _, rfl, [fc f, fc g], rfl, (show 2 ≤ 1000 by decide), [fc f, fc g], rfl, rfl, _, _, rfl, [lt f.1, ti f.2.1], rfl, rfl, _, _, rfl, _, _, rfl, rfl, _, _, rfl, [lt g.1, ti g.2.1], rfl, rfl, _, _, rfl, _, _, rfl, rfl, rfl, ?_⟩
  have q0 : ∀ L : List (Fc n), (∀ B, Both B (f.1 ++ g.1) → pas f g B = L) → (∃ B, Both B (f.1 ++ g.1)) → Q (.tup (L.map fc)) S := fun L h ⟨B, hB⟩ => by
    rw [← h B hB]
    exact q B hB
  have put1 : ∀ L : List (Fc n), (∀ B, Both B (f.1 ++ g.1) → pas f g B = L) → (∃ B, Both B (f.1 ++ g.1)) → Q (.tup (L.map fc)) S := q0
  have some_ : ∃ B, Both B (f.1 ++ g.1) := both_is _
  refine ⟨_, rfl, _, rfl, ⟨g.1, f.1, rfl, ht, _, rfl, fun c => ?_, fun c => ?_⟩⟩
  · refine ⟨_, rfl, _, rfl, _, rfl, _, rfl, cj_Pm hn ⟨[lt f.1, ti (cjP f.2 g.2).1], rfl, (show 2 ≤ 1000 by decide), [fc g, fc (f.1, cjP f.2 g.2)], rfl, (show 2 ≤ 1000 by decide), _, Sub.refl _, q0 [g, (f.1, cjP f.2 g.2)] (fun B hB => ?_) some_⟩⟩
    unfold pas
    rw [if_pos c]
  refine ⟨_, rfl, _, rfl, ⟨f.1, g.1, rfl, ht, _, rfl, fun c2 => ?_, fun c2 => ?_⟩⟩
  · refine ⟨_, rfl, _, rfl, _, rfl, tb_Pm hn (cj_Pm hn ⟨[lt g.1, ti (cjP g.2 f.2⁻¹).1], rfl, (show 2 ≤ 1000 by decide), _, rfl, [fc (g.1, cjP g.2 f.2⁻¹), fc f], rfl, (show 2 ≤ 1000 by decide), _, Sub.refl _, q0 [(g.1, cjP g.2 f.2⁻¹), f] (fun B hB => ?_) some_⟩)⟩
    unfold pas
    rw [if_neg (by rw [c]; exact Bool.false_ne_true), if_pos c2]
  refine ⟨_, rfl, _, rfl, jo_Pm hn (tb_Pm hn ⟨_, rfl, _, rfl, jo_Pm hn (jo_Pm hn ?_)⟩)⟩
  refine ⟨_, rfl, _, rfl, _, _, rfl, len_ti, ?_⟩
  have hmo : (mo f g).1.length = n := (mo f g).2.1
  show sp_still [.int ((mo f g).1.length : Nat)] S _ _
  rw [hmo]
  refine still_ti (by omega) (.inr ⟨_, _, rfl, rfl, shaped_ti _, shaped_ti _, _, rfl, fun c3 => ?_, fun c3 => ?_⟩)
  · rw [eqv_ti] at c3
    have c4 : (mo f g).1 = List.range n := of_decide_eq_true c3
    refine ⟨_, rfl, _, rfl, [fc g, fc f], rfl, (show 2 ≤ 1000 by decide), _, Sub.refl _, q0 [g, f] (fun B hB => ?_) some_⟩
    unfold pas
    rw [if_neg (by rw [c]; exact Bool.false_ne_true), if_neg (by rw [c2]; exact Bool.false_ne_true), if_pos c4]
  · rw [eqv_ti] at c3
    have c4 : ¬ (mo f g).1 = List.range n := of_decide_eq_false c3
    refine ⟨_, rfl, _, rfl, _, rfl, _, rfl, f.1.map PyData.int, g.1.map PyData.int, rfl, rfl, by rw [List.length_map, List.length_map]; omega, f.1 ++ g.1, by rw [List.map_append], by rw [List.length_append]; exact hl, fun B up mem => ?_⟩
    refine ⟨_, B.map PyData.int, rfl, rfl, _, rfl, [lt B, ti (mo f g).1], rfl, (show 2 ≤ 1000 by decide), [fc g, fc f, fc (B, mo f g)], rfl, (show 3 ≤ 1000 by decide), _, Sub.refl _, ?_⟩
    have := q B ⟨up, mem⟩
    unfold pas at this
    rw [if_neg (by rw [c]; exact Bool.false_ne_true), if_neg (by rw [c2]; exact Bool.false_ne_true), if_neg c4] at this
    exact this
/-! what the law awaits -/
def sq_law_due : Sp3 := fun ws S Q _ => ∃ (n : Nat) (f g : Fc n), ws = [.d (fc f), .d (fc g), .int n] ∧ n ≤ 100 ∧ f.1.length + g.1.length ≤ 1000 ∧ f.1.Pairwise (· < ·) ∧ g.1.Pairwise (· < ·) ∧ ∀ B, Both B (f.1 ++ g.1) → Q (.tup ((pas f g B).map fc)) S
def sp_law_due : Sp3 := fun ws S Q E => Bx (sq_law_due ws S Q E)
theorem len_law_due : ∀ ws S Q E, sp_law_due ws S Q E → ws.length = 3 := fun ws S Q E ⟨n, a, b, e, _⟩ => by rw [e]; rfl
def rd_law_due : TS3 := (tSeq3 (tAsg3 (tTup3 (tCons3 (tVar3 0) (tCons3 (tVar3 1) tNil3))) (gTup3 2 (gCons3 (gTup3 2 (gCons3 (gName3 5) (gCons3 (gName3 6) gNil3))) (gCons3 (gTup3 2 (gCons3 (gName3 7) (gCons3 (gName3 8) gNil3))) gNil3)))) (tSeq3 (tIf3 (tB3 (tOp3 gEq (tLcD3 (tSeqI3 (tVar3 7)) (gName3 9) (tB3 (tOp3 (gIn true) (tVar3 9) (tVar3 5))) (tVar3 9) [9]) (tLstD3 tNil3))) (tRet3 (tTup3 (tCons3 (tTup3 (tCons3 (tVar3 7) (tCons3 (tVar3 8) tNil3))) (tCons3 (tTup3 (tCons3 (tVar3 5) (tCons3 (tCall3 sp_law_all (tCons3 (tLstD3 (tCons3 (tCall3 sp_law_back (tCons3 (tVar3 8) tNil3)) (tCons3 (tVar3 6) (tCons3 (tVar3 8) tNil3)))) (tCons3 (tVar3 2) tNil3))) tNil3))) tNil3)))) tNext3) (tSeq3 (tIf3 (tB3 (tOp3 gEq (tLcD3 (tSeqI3 (tVar3 5)) (gName3 9) (tB3 (tOp3 (gIn true) (tVar3 9) (tVar3 7))) (tVar3 9) [9]) (tLstD3 tNil3))) (tRet3 (tTup3 (tCons3 (tTup3 (tCons3 (tVar3 7) (tCons3 (tCall3 sp_law_all (tCons3 (tLstD3 (tCons3 (tVar3 6) (tCons3 (tVar3 8) (tCons3 (tCall3 sp_law_back (tCons3 (tVar3 6) tNil3)) tNil3)))) (tCons3 (tVar3 2) tNil3))) tNil3))) (tCons3 (tTup3 (tCons3 (tVar3 5) (tCons3 (tVar3 6) tNil3))) tNil3)))) tNext3) (tSeq3 (tSet3 3 (tCall3 sp_law_all (tCons3 (tLstD3 (tCons3 (tCall3 sp_law_back (tCons3 (tVar3 6) tNil3)) (tCons3 (tCall3 sp_law_back (tCons3 (tVar3 8) tNil3)) (tCons3 (tVar3 6) (tCons3 (tVar3 8) tNil3))))) (tCons3 (tVar3 2) tNil3)))) (tSeq3 (tSet3 4 (tCB3 gTuple (tCons3 (tCB3 gSortV (tCons3 (tOp3 gCatT (tVar3 5) (tCB3 gTuple (tCons3 (tLcD3 (tSeqI3 (tVar3 7)) (gName3 9) (tB3 (tOp3 (gIn true) (tVar3 9) (tVar3 5))) (tVar3 9) [9]) tNil3))) tNil3)) tNil3))) (tSeq3 (tIf3 (tB3 (tOp3 gEq (tVar3 3) (tTupRg3 (tRg13 (tVar3 2))))) (tRet3 (tTup3 (tCons3 (tTup3 (tCons3 (tVar3 7) (tCons3 (tVar3 8) tNil3))) (tCons3 (tTup3 (tCons3 (tVar3 5) (tCons3 (tVar3 6) tNil3))) tNil3)))) tNext3) (tRet3 (tTup3 (tCons3 (tTup3 (tCons3 (tVar3 7) (tCons3 (tVar3 8) tNil3))) (tCons3 (tTup3 (tCons3 (tVar3 5) (tCons3 (tVar3 6) tNil3))) (tCons3 (tTup3 (tCons3 (tVar3 4) (tCons3 (tVar3 3) tNil3))) tNil3)))))))))))
theorem asc_nodup {l : List Int} (h : l.Pairwise (· < ·)) : l.Nodup := h.imp fun h e => by omega
theorem sort_ints (L : List Int) : (L.map PyData.int).mergeSort (PySem.W.dataLe false id) = (L.mergeSort (PySem.W.dataLe false fun i : Int => PyData.int i)).map PyData.int :=
  (List.map_mergeSort (r := PySem.W.dataLe false fun i : Int => PyData.int i) (s := PySem.W.dataLe false id) (f := PyData.int) (fun _ _ _ _ => rfl)).symm
theorem ok_ints (L : List Int) : SrtOk (L.map PyData.int) := ⟨.of fun _ _ => by simp [PySem.W.alike], .inl (.others fun _ => ⟨fun z => (nomatch z), fun _ z => (nomatch z)⟩)⟩
theorem dep_ints (L : List Int) : ∀ d ∈ L.map PyData.int, d.depth ≤ 60 := fun d hd => by
  obtain ⟨i, _, rfl⟩ := List.mem_map.mp hd
  simp [PyData.depth]
/-- a row of some turnings joined -/
theorem al_Pm {n : Nat} {x : Pm n} {as : List (Pm n)} {S : Sto} {Q : K3} {E : X3} (hn : n ≤ 100) (h : as.foldl (· * ·) 1 = x) (q : Q (.d (ti x.1)) S) : sp_law_all [.lst (as.map fun a => ti a.1), .int n] S Q E := by
  refine ⟨n, as.map (·.1), by rw [List.map_map]; rfl, by omega, fun a ha => ?_, ?_⟩
  · obtain ⟨b, _, rfl⟩ := List.mem_map.mp ha
    exact b.2
  · have := foldl_Pm as (1 : Pm n)
    rw [show (1 : Pm n).1 = List.range n from rfl] at this
    rw [this, h]
    exact q
theorem sem_law_due : ∀ ws S Q E, sp_law_due ws S Q E → rd_law_due (DQ Q) (start3 10 ws E) S := fun ws S Q E ⟨n, f, g, e, hn, hl, ha1, ha2, q⟩ => by
  subst e
  have q0 : ∀ L : List (Fc n), (∀ B, Both B (f.1 ++ g.1) → pas f g B = L) → Q (.tup (L.map fc)) S := fun L h => by
    obtain ⟨B, hB⟩ := both_is (f.1 ++ g.1)
    rw [← h B hB]
    exact q B hB
  refine ⟨_, rfl, _, rfl, [fc f, fc g], rfl, (show 2 ≤ 1000 by decide), [fc f, fc g], rfl, rfl, _, _, rfl, [lt f.1, ti f.2.1], rfl, rfl, _, _, rfl, _, _, rfl, rfl, _, _, rfl, [lt g.1, ti g.2.1], rfl, rfl, _, _, rfl, _, _, rfl, rfl, rfl, ?_⟩
  refine ⟨_, rfl, g.1.map PyData.int, .inr rfl, by rw [List.length_map, List.length_map]; omega, ?_⟩
  rw [mw_ints]
  refine lc_out (T := f.1) (by show 9 < 10; decide) (fun k A a => ⟨_, rfl, a⟩) ⟨(g.1.filter fun k => !decide (k ∈ f.1)).map PyData.int, by rw [List.map_map]; rfl, [], rfl, by decide, .inr ⟨_, _, rfl, rfl, shaped_intsL _, shaped_intsL [], _, rfl, fun c => ?_, fun c => ?_⟩⟩
  · have c1 : wi g.1 f.1 = true := out_nil.mp (by rw [eqv_nil] at c; simpa using c)
    refine ⟨_, rfl, _, rfl, [lt g.1, ti g.2.1], rfl, (show 2 ≤ 1000 by decide), _, rfl, _, rfl, lb_Pm hn ⟨_, rfl, _, rfl, [ti (g.2⁻¹).1, ti f.2.1, ti g.2.1], rfl, (show 3 ≤ 1000 by decide), _, rfl, al_Pm (x := cjP f.2 g.2) (as := [g.2⁻¹, f.2, g.2]) hn (by simp only [List.foldl, pm_one_mul, cjP]) ?_⟩⟩
    refine ⟨[lt f.1, ti (cjP f.2 g.2).1], rfl, (show 2 ≤ 1000 by decide), [fc g, fc (f.1, cjP f.2 g.2)], rfl, (show 2 ≤ 1000 by decide), _, Sub.refl _, q0 [g, (f.1, cjP f.2 g.2)] (fun B hB => ?_)⟩
    unfold pas
    rw [if_pos c1]
  have c1 : ¬ wi g.1 f.1 = true := fun z => by
    rw [out_nil.mpr z] at c
    cases c
  refine ⟨_, rfl, f.1.map PyData.int, .inr rfl, by rw [List.length_map, List.length_map]; omega, ?_⟩
  rw [mw_ints]
  refine lc_out (T := g.1) (by show 9 < 10; decide) (fun k A a => ⟨_, rfl, a⟩) ⟨(f.1.filter fun k => !decide (k ∈ g.1)).map PyData.int, by rw [List.map_map]; rfl, [], rfl, by decide, .inr ⟨_, _, rfl, rfl, shaped_intsL _, shaped_intsL [], _, rfl, fun c => ?_, fun c => ?_⟩⟩
  · have c2 : wi f.1 g.1 = true := out_nil.mp (by rw [eqv_nil] at c; simpa using c)
    refine ⟨_, rfl, _, rfl, _, rfl, _, rfl, lb_Pm hn ⟨[ti f.2.1, ti g.2.1, ti (f.2⁻¹).1], rfl, (show 3 ≤ 1000 by decide), _, rfl, al_Pm (x := cjP g.2 f.2⁻¹) (as := [f.2, g.2, f.2⁻¹]) hn (by simp only [List.foldl, pm_one_mul, cjP, pm_inv_inv]) ?_⟩⟩
    refine ⟨[lt g.1, ti (cjP g.2 f.2⁻¹).1], rfl, (show 2 ≤ 1000 by decide), _, rfl, _, rfl, [lt f.1, ti f.2.1], rfl, (show 2 ≤ 1000 by decide), [fc (g.1, cjP g.2 f.2⁻¹), fc f], rfl, (show 2 ≤ 1000 by decide), _, Sub.refl _, q0 [(g.1, cjP g.2 f.2⁻¹), f] (fun B hB => ?_)⟩
    unfold pas
    rw [if_neg c1, if_pos c2]
  have c2 : ¬ wi f.1 g.1 = true := fun z => by
    rw [out_nil.mpr z] at c
    cases c
  refine ⟨_, rfl, lb_Pm hn ⟨_, rfl, lb_Pm hn ⟨_, rfl, _, rfl, [ti (f.2⁻¹).1, ti (g.2⁻¹).1, ti f.2.1, ti g.2.1], rfl, (show 4 ≤ 1000 by decide), _, rfl, al_Pm (x := mo f g) (as := [f.2⁻¹, g.2⁻¹, f.2, g.2]) hn (by simp only [List.foldl, pm_one_mul, mo, pm_inv_rev, pm_assoc]) ?_⟩⟩⟩
  refine ⟨_, rfl, _, rfl, g.1.map PyData.int, .inr rfl, by rw [List.length_map, List.length_map]; omega, ?_⟩
  rw [mw_ints]
  have fl : (g.1.filter fun k => !decide (k ∈ f.1)).length ≤ g.1.length := List.length_filter_le _ _
  refine lc_out (T := f.1) (by show 9 < 10; decide) (fun k A a => ⟨_, rfl, a⟩) ⟨(g.1.filter fun k => !decide (k ∈ f.1)).map PyData.int, by rw [List.map_map]; rfl, _, _, rfl, rfl, f.1.map PyData.int, (g.1.filter fun k => !decide (k ∈ f.1)).map PyData.int, rfl, rfl, by rw [List.length_map, List.length_map]; omega, ?_⟩
  rw [← List.map_append]
  have nd : (f.1 ++ g.1.filter fun k => !decide (k ∈ f.1)).Nodup := by
    refine List.nodup_append.mpr ⟨asc_nodup ha1, (asc_nodup ha2).filter _, fun a ha b hb e => ?_⟩
    have := (List.mem_filter.mp hb).2
    subst e
    simp [ha] at this
  have mem : ∀ k, k ∈ f.1 ++ (g.1.filter fun k => !decide (k ∈ f.1)) ↔ k ∈ f.1 ++ g.1 := fun k => by
    rw [List.mem_append, List.mem_append, List.mem_filter]
    by_cases h : k ∈ f.1 <;> simp [h]
  have ll : (f.1 ++ g.1.filter fun k => !decide (k ∈ f.1)).length ≤ 1000 := by rw [List.length_append]; omega
  generalize (f.1 ++ g.1.filter fun k => !decide (k ∈ f.1)) = L at nd mem ll
  refine ⟨_, _, rfl, rfl, ok_ints L, by rw [List.length_map, sizeLine_eq]; omega, dep_ints L, ?_⟩
  rw [sort_ints]
  have hB : Both (L.mergeSort (PySem.W.dataLe false fun i : Int => PyData.int i)) (f.1 ++ g.1) := ⟨rises nd, fun k => by rw [(List.mergeSort_perm _ _).mem_iff, mem]⟩
  generalize L.mergeSort (PySem.W.dataLe false fun i : Int => PyData.int i) = B at hB
  have fin := q B hB
  refine ⟨_, _, rfl, rfl, ?_⟩
  refine ⟨_, rfl, _, rfl, (n : Int), rfl, RgOk.of_le (by decide) (by omega) (by decide) (by omega), .inr ⟨_, _, rfl, rfl, shaped_ti _, ?_, _, rfl, fun c3 => ?_, fun c3 => ?_⟩⟩
  · rw [rgD_ti]; exact shaped_ti _
  · rw [rgD_ti] at c3
    have c4 : (mo f g).1 = List.range n := of_decide_eq_true (eqv_ti.symm.trans c3)
    refine ⟨_, rfl, _, rfl, [lt g.1, ti g.2.1], rfl, (show 2 ≤ 1000 by decide), _, rfl, _, rfl, [lt f.1, ti f.2.1], rfl, (show 2 ≤ 1000 by decide), [fc g, fc f], rfl, (show 2 ≤ 1000 by decide), _, Sub.refl _, ?_⟩
    unfold pas at fin
    rw [if_neg c1, if_neg c2, if_pos c4] at fin
    exact fin
  · rw [rgD_ti] at c3
    have c4 : ¬ (mo f g).1 = List.range n := of_decide_eq_false (eqv_ti.symm.trans c3)
    refine ⟨_, rfl, _, rfl, [lt g.1, ti g.2.1], rfl, (show 2 ≤ 1000 by decide), _, rfl, _, rfl, [lt f.1, ti f.2.1], rfl, (show 2 ≤ 1000 by decide), _, rfl, _, rfl, [lt B, ti (mo f g).1], rfl, (show 2 ≤ 1000 by decide), [fc g, fc f, fc (B, mo f g)], rfl, (show 3 ≤ 1000 by decide), _, Sub.refl _, ?_⟩
    unfold pas at fin
    rw [if_neg c1, if_neg c2, if_neg c4] at fin
    exact fin
/-! lots drawn -/
def HandOk (k : Int) : Prop := k = 0 ∨ k = 1 ∨ k = 2 ∨ k = 3 ∨ k = 9 ∨ k = 40
structure LotOk (l : List Int) : Prop where
  up : l.Pairwise (· < ·)
  hands : ∀ k ∈ l, HandOk k
  few : l.length ≤ 6
def sq_law_lot : Sp3 := fun ws S Q _ => ∃ (dl d1 : Addr) (t : Int), ws = [.r dl, .int t] ∧ Deal S dl d1 ∧ ∀ l S', LotOk l → l ≠ [] → Upto [dl, d1] S S' → Deal S' dl d1 → Q (.d (lt l)) S'
def sp_law_lot : Sp3 := fun ws S Q E => Bx (sq_law_lot ws S Q E)
theorem len_law_lot : ∀ ws S Q E, sp_law_lot ws S Q E → ws.length = 2 := fun ws S Q E ⟨n, a, b, e, _⟩ => by rw [e]; rfl
def rb_law_lot_0 : TS3 := (tSeq3 (tSet3 3 (tCall3 sp_law_of (tCons3 (tVar3 0) (tCons3 (tLstD3 (tCons3 (tC3 (.int 0)) (tCons3 (tC3 (.int 1)) (tCons3 (tC3 (.int 2)) (tCons3 (tC3 (.int 3)) (tCons3 (tC3 (.int 9)) (tCons3 (tC3 (.int 40)) tNil3))))))) tNil3)))) (tSet3 2 (tOp3 gCatL (tVar3 2) (tLcD3 (tSeqI3 (tLstD3 (tCons3 (tC3 (.int 0)) tNil3))) (gName3 4) (tB3 (tOp3 (gIn true) (tVar3 3) (tVar3 2))) (tVar3 3) [4]))))
def rd_law_lot : TS3 := (tSeq3 (tSet3 2 (tLstD3 tNil3)) (tSeq3 (tIf3 (tAnd3 (tB3 (tOp3 gGt (tVar3 1) (tC3 (.int 2)))) (tB3 (tOp3 gEq (tCall3 sp_law_any (tCons3 (tVar3 0) (tCons3 (tC3 (.int 2)) tNil3))) (tC3 (.int 0))))) (tSeq3 (tSet3 2 (tLcD3 (tSeqI3 (tTup3 (tCons3 (tC3 (.int 0)) (tCons3 (tC3 (.int 1)) (tCons3 (tC3 (.int 2)) (tCons3 (tC3 (.int 3)) (tCons3 (tC3 (.int 9)) (tCons3 (tC3 (.int 40)) tNil3)))))))) (gName3 3) (tB3 (tOp3 gGt (tCall3 sp_law_any (tCons3 (tVar3 0) (tCons3 (tC3 (.int 4)) tNil3))) (tC3 (.int 0)))) (tVar3 3) [3])) (tRet3 (tCB3 gTuple (tCons3 (tIfE3 (tB3 (tOp3 gNe (tVar3 2) (tLstD3 tNil3))) (tVar3 2) (tLstD3 (tCons3 (tC3 (.int 9)) tNil3))) tNil3)))) tNext3) (tSeq3 (tFor3 (tRgI1 (tCons3 (tOp3 gAdd (tC3 (.int 1)) (tCall3 sp_law_any (tCons3 (tVar3 0) (tCons3 (tC3 (.int 4)) tNil3)))) tNil3)) (gName3 1) rb_law_lot_0) (tRet3 (tCB3 gTuple (tCons3 (tCB3 gSorted (tCons3 (tVar3 2) tNil3)) tNil3))))))
def six : List Int := [0, 1, 2, 3, 9, 40]
theorem lot_of_six {l : List Int} (h : l.Sublist six) : LotOk l := by
  refine ⟨(show six.Pairwise (· < ·) by decide).sublist h, fun k hk => ?_, h.length_le⟩
  have := h.subset hk
  simpa [six, HandOk] using this
theorem lot_rest {dl d1 : Addr} {t : Int} {S : Sto} {Q : K3} {w3 w4 : Option W} {ex : XS} (hD : Deal S dl d1) (hQ : ∀ l S', LotOk l → l ≠ [] → Upto [dl, d1] S S' → Deal S' dl d1 → Q (.d (lt l)) S') :
    tSeq3 (tFor3 (tRgI1 (tCons3 (tOp3 gAdd (tC3 (.int 1)) (tCall3 sp_law_any (tCons3 (tVar3 0) (tCons3 (tC3 (.int 4)) tNil3)))) tNil3)) (gName3 1) rb_law_lot_0) (tRet3 (tCB3 gTuple (tCons3 (tCB3 gSorted (tCons3 (tVar3 2) tNil3)) tNil3))) (DQ Q) ⟨[some (.r dl), some (.int t), some (.lst []), w3, w4], ex⟩ S := by
  refine ⟨_, rfl, law_any_lt hD (by decide) (by decide) fun r S1 r0 r1 u1 hD1 => ⟨_, _, rfl, rfl, _, rfl, ⟨by omega, by omega⟩, ?_⟩⟩
  have r1 : r < 4 := r1
  refine forGo_inv (fun i τ S' => Deal S' dl d1 ∧ Upto [dl, d1] S S' ∧ ∃ (l : List Int) (w1 v3 v4 : Option W), τ.sl = [some (.r dl), w1, some (.lst (l.map PyData.int)), v3, v4] ∧ l.Nodup ∧ (∀ k ∈ l, HandOk k) ∧ l.length ≤ i ∧ (0 < i → l ≠ [])) ⟨hD1, u1, [], _, _, _, rfl, List.nodup_nil, fun k h => (nomatch h), Nat.le_refl _, fun h => absurd h (Nat.lt_irrefl _)⟩ ?_ ?_
  · rintro i w ⟨sl, ex⟩ S3 hw ⟨hD3, u3, l, w1, v3, v4, e, nd, hk, len, ne⟩
    subst e
    obtain ⟨hi, rfl⟩ := rgW_at hw
    have few : i < 5 := by omega
    refine ⟨_, rfl, [.int 0, .int 1, .int 2, .int 3, .int 9, .int 40], rfl, (show 6 ≤ 1000 by decide), law_of_list hD3 (by simp) (show 6 < 2 ^ 60 by decide) fun d hd S4 u4 hD4 => ?_⟩
    obtain ⟨x, rfl, hx⟩ : ∃ x, d = .int x ∧ HandOk x := by
      rcases (by simpa using hd : d = .int 0 ∨ d = .int 1 ∨ d = .int 2 ∨ d = .int 3 ∨ d = .int 9 ∨ d = .int 40) with h | h | h | h | h | h <;> exact ⟨_, h, by simp [HandOk]⟩
    refine ⟨_, rfl, [.int 0], rfl, (show 1 ≤ 1000 by decide), [.int 0], .inl rfl, by decide, ?_⟩
    have u34 := u3.trans u4
    refine ⟨_, rfl, _, rfl, .int x, l.map PyData.int, rfl, rfl, rfl, lay_ints l, _, rfl, ?_⟩
    rw [in_ints]
    refine ⟨fun c => ⟨_, rfl, [.int x], rfl, l.map PyData.int, [.int x], rfl, rfl, by rw [List.length_map, sizeLine_eq]; show l.length + 1 ≤ _; omega, hD4, u34, l ++ [x], some (.int (0 + (i : Nat))), some (.int x), v4, by rw [List.map_append]; rfl, ?_, ?_, ?_, fun _ => by simp⟩, fun c => ⟨[], rfl, l.map PyData.int, [], rfl, rfl, by rw [List.length_map, sizeLine_eq]; show l.length + 0 ≤ _; omega, hD4, u34, l, some (.int (0 + (i : Nat))), some (.int x), v4, by rw [List.append_nil]; rfl, nd, hk, by omega, fun _ e => ?_⟩⟩
    · have nx : x ∉ l := by simpa using c
      exact List.nodup_append.mpr ⟨nd, by simp, fun a ha b hb e => nx (by rw [← List.mem_singleton.mp hb, ← e]; exact ha)⟩
    · intro k hk2
      rcases List.mem_append.mp hk2 with h | h
      · exact hk k h
      · rw [List.mem_singleton.mp h]; exact hx
    · rw [List.length_append]; show l.length + 1 ≤ _; omega
    · subst e
      simp at c
  · rintro ⟨sl, ex⟩ S3 ⟨hD3, u3, l, w1, v3, v4, e, nd, hk, len, ne⟩
    subst e
    rw [rgW_len] at len ne
    have ok : LotOk (l.mergeSort (PySem.W.dataLe false fun i : Int => PyData.int i)) := ⟨rises nd, fun k h => hk k ((List.mergeSort_perm _ _).mem_iff.mp h), by rw [List.length_mergeSort]; omega⟩
    refine ⟨_, rfl, _, l.map PyData.int, rfl, rfl, (ok_ints l).1, .others fun _ => ⟨fun z => (nomatch z), fun _ z => (nomatch z)⟩, by rw [List.length_map, sizeLine_eq]; omega, dep_ints l, ?_⟩
    rw [sort_ints]
    refine ⟨_, _, rfl, rfl, _, Sub.refl _, hQ _ S3 ok (fun z => ne (by omega) ?_) u3 hD3⟩
    have := List.length_mergeSort (le := PySem.W.dataLe false fun i : Int => PyData.int i) l
    rw [z] at this
    exact List.length_eq_zero_iff.mp this.symm
theorem sem_law_lot : ∀ ws S Q E, sp_law_lot ws S Q E → rd_law_lot (DQ Q) (start3 5 ws E) S := fun ws S Q E ⟨dl, d1, t, e, hD, hQ⟩ => by
  subst e
  refine ⟨[], rfl, by decide, ?_⟩
  refine ⟨_, rfl, _, _, rfl, rfl, _, rfl, fun c => ?_, fun c => ?_⟩
  · refine ⟨_, rfl, law_any_lt hD (by decide) (by decide) fun r S1 _ _ u1 hD1 => .inr ⟨_, _, rfl, rfl, rfl, rfl, _, rfl, fun c1 => ?_, fun c1 => lot_rest hD1 fun l S2 a b u2 d2 => hQ l S2 a b (u1.trans u2) d2⟩⟩
    refine ⟨[.int 0, .int 1, .int 2, .int 3, .int 9, .int 40], rfl, (show 6 ≤ 1000 by decide), _, .inr rfl, by decide, ?_⟩
    refine lcGo_inv (fun k acc S' => Deal S' dl d1 ∧ Upto [dl, d1] S S' ∧ ∃ l : List Int, acc = l.map W.int ∧ l.Sublist (six.take k)) ⟨hD1, u1, [], rfl, List.nil_sublist _⟩ ?_ (fun w τ S A B h q => h _ _ q)
      (fun τ S A B h ⟨w, e, q⟩ => ⟨w, e, mono_law_any (fun w S ⟨i, j, e1, e2, c, e3, h3⟩ => ⟨i, j, e1, e2, c, e3, h _ _ h3⟩) q⟩) (fun τ S A B h ⟨w, e, q⟩ => ⟨w, e, h _ _ q⟩) ?_
    · rintro k w acc S3 hw ⟨hD3, u3, l, rfl, sb⟩
      obtain ⟨x, hx, rfl⟩ : ∃ x, six[k]? = some x ∧ W.int x = w := get_map (f := W.int) (l := six) hw
      refine ⟨_, rfl, law_any_lt hD3 (by decide) (by decide) fun r S4 _ _ u4 hD4 => ⟨_, _, rfl, rfl, _, rfl, fun _ => ⟨_, rfl, hD4, u3.trans u4, l ++ [x], by rw [List.map_append]; rfl, ?_⟩, fun _ => ⟨hD4, u3.trans u4, l, rfl, sb.trans (List.take_sublist_take_left (Nat.le_succ k))⟩⟩⟩
      rw [List.take_add_one, hx]
      exact sb.append (List.Sublist.refl _)
    · rintro acc S3 ⟨hD3, u3, l, rfl, sb⟩
      have ok := lot_of_six (sb.trans (List.take_sublist _ _))
      refine ⟨l.map PyData.int, by rw [List.map_map]; rfl, ?_⟩
      refine ⟨_, rfl, [], rfl, by decide, .inr ⟨_, _, rfl, rfl, shaped_intsL l, shaped_intsL [], _, rfl, fun c2 => ?_, fun c2 => ?_⟩⟩
      · rw [eqv_nil] at c2
        exact ⟨_, rfl, _, _, rfl, rfl, _, Sub.refl _, hQ l S3 ok (by simpa using c2) u3 hD3⟩
      · exact ⟨[.int 9], rfl, by decide, _, _, rfl, rfl, _, Sub.refl _, hQ [9] S3 ⟨by simp, by simp [HandOk], by decide⟩ (by simp) u3 hD3⟩
  · exact ⟨fun z => (nomatch z), fun _ => lot_rest hD hQ⟩
/-! turnings drawn -/
def sq_law_turnings : Sp3 := fun ws S Q _ => ∃ (dl d1 : Addr), ws = [.r dl] ∧ Deal S dl d1 ∧ ∀ (n : Nat) (as : List (List Nat)) S', 1 ≤ n → n ≤ 8 → as ≠ [] → as.length ≤ 3 → (∀ a ∈ as, PmP n a) → Upto [dl, d1] S S' → Deal S' dl d1 → Q (.lst (as.map ti)) S'
def sp_law_turnings : Sp3 := fun ws S Q E => Bx (sq_law_turnings ws S Q E)
theorem len_law_turnings : ∀ ws S Q E, sp_law_turnings ws S Q E → ws.length = 1 := fun ws S Q E ⟨n, a, e, _⟩ => by rw [e]; rfl
def rd_law_turnings : TS3 := (tSeq3 (tSet3 1 (tLstD3 (tCons3 (tLstD3 (tCons3 (tTup3 (tCons3 (tC3 (.int 1)) (tCons3 (tC3 (.int 2)) (tCons3 (tC3 (.int 3)) (tCons3 (tC3 (.int 4)) (tCons3 (tC3 (.int 5)) (tCons3 (tC3 (.int 6)) (tCons3 (tC3 (.int 7)) (tCons3 (tC3 (.int 0)) tNil3))))))))) (tCons3 (tTup3 (tCons3 (tC3 (.int 0)) (tCons3 (tC3 (.int 7)) (tCons3 (tC3 (.int 6)) (tCons3 (tC3 (.int 5)) (tCons3 (tC3 (.int 4)) (tCons3 (tC3 (.int 3)) (tCons3 (tC3 (.int 2)) (tCons3 (tC3 (.int 1)) tNil3))))))))) tNil3))) (tCons3 (tLstD3 (tCons3 (tTup3 (tCons3 (tC3 (.int 1)) (tCons3 (tC3 (.int 2)) (tCons3 (tC3 (.int 3)) (tCons3 (tC3 (.int 0)) (tCons3 (tC3 (.int 7)) (tCons3 (tC3 (.int 4)) (tCons3 (tC3 (.int 5)) (tCons3 (tC3 (.int 6)) tNil3))))))))) (tCons3 (tTup3 (tCons3 (tC3 (.int 4)) (tCons3 (tC3 (.int 5)) (tCons3 (tC3 (.int 6)) (tCons3 (tC3 (.int 7)) (tCons3 (tC3 (.int 2)) (tCons3 (tC3 (.int 3)) (tCons3 (tC3 (.int 0)) (tCons3 (tC3 (.int 1)) tNil3))))))))) tNil3))) (tCons3 (tLstD3 (tCons3 (tTup3 (tCons3 (tC3 (.int 1)) (tCons3 (tC3 (.int 2)) (tCons3 (tC3 (.int 3)) (tCons3 (tC3 (.int 0)) tNil3))))) (tCons3 (tTup3 (tCons3 (tC3 (.int 0)) (tCons3 (tC3 (.int 3)) (tCons3 (tC3 (.int 2)) (tCons3 (tC3 (.int 1)) tNil3))))) tNil3))) (tCons3 (tLstD3 (tCons3 (tTup3 (tCons3 (tC3 (.int 1)) (tCons3 (tC3 (.int 2)) (tCons3 (tC3 (.int 0)) (tCons3 (tC3 (.int 3)) tNil3))))) (tCons3 (tTup3 (tCons3 (tC3 (.int 1)) (tCons3 (tC3 (.int 0)) (tCons3 (tC3 (.int 3)) (tCons3 (tC3 (.int 2)) tNil3))))) tNil3))) (tCons3 (tLstD3 (tCons3 (tTup3 (tCons3 (tC3 (.int 1)) (tCons3 (tC3 (.int 2)) (tCons3 (tC3 (.int 0)) tNil3)))) (tCons3 (tTup3 (tCons3 (tC3 (.int 1)) (tCons3 (tC3 (.int 0)) (tCons3 (tC3 (.int 2)) tNil3)))) tNil3))) (tCons3 (tLstD3 (tCons3 (tTup3 (tCons3 (tC3 (.int 1)) (tCons3 (tC3 (.int 2)) (tCons3 (tC3 (.int 3)) (tCons3 (tC3 (.int 4)) (tCons3 (tC3 (.int 0)) tNil3)))))) (tCons3 (tTup3 (tCons3 (tC3 (.int 0)) (tCons3 (tC3 (.int 4)) (tCons3 (tC3 (.int 3)) (tCons3 (tC3 (.int 2)) (tCons3 (tC3 (.int 1)) tNil3)))))) tNil3))) (tCons3 (tLstD3 (tCons3 (tTup3 (tCons3 (tC3 (.int 1)) (tCons3 (tC3 (.int 2)) (tCons3 (tC3 (.int 3)) (tCons3 (tC3 (.int 0)) tNil3))))) (tCons3 (tTup3 (tCons3 (tC3 (.int 1)) (tCons3 (tC3 (.int 0)) (tCons3 (tC3 (.int 3)) (tCons3 (tC3 (.int 2)) tNil3))))) (tCons3 (tTup3 (tCons3 (tC3 (.int 3)) (tCons3 (tC3 (.int 2)) (tCons3 (tC3 (.int 1)) (tCons3 (tC3 (.int 0)) tNil3))))) tNil3)))) (tCons3 (tLstD3 (tCons3 (tTup3 (tCons3 (tC3 (.int 1)) (tCons3 (tC3 (.int 2)) (tCons3 (tC3 (.int 3)) (tCons3 (tC3 (.int 0)) (tCons3 (tC3 (.int 4)) (tCons3 (tC3 (.int 5)) tNil3))))))) (tCons3 (tTup3 (tCons3 (tC3 (.int 0)) (tCons3 (tC3 (.int 3)) (tCons3 (tC3 (.int 2)) (tCons3 (tC3 (.int 1)) (tCons3 (tC3 (.int 4)) (tCons3 (tC3 (.int 5)) tNil3))))))) (tCons3 (tTup3 (tCons3 (tC3 (.int 0)) (tCons3 (tC3 (.int 1)) (tCons3 (tC3 (.int 2)) (tCons3 (tC3 (.int 3)) (tCons3 (tC3 (.int 5)) (tCons3 (tC3 (.int 4)) tNil3))))))) tNil3)))) tNil3)))))))))) (tSeq3 (tIf3 (tB3 (tOp3 gEq (tCall3 sp_law_any (tCons3 (tVar3 0) (tCons3 (tC3 (.int 3)) tNil3))) (tC3 (.int 0)))) (tSeq3 (tSet3 4 (tCall3 sp_law_of (tCons3 (tVar3 0) (tCons3 (tLstD3 (tCons3 (tC3 (.int 1)) (tCons3 (tC3 (.int 2)) (tCons3 (tC3 (.int 3)) (tCons3 (tC3 (.int 3)) (tCons3 (tC3 (.int 4)) tNil3)))))) tNil3)))) (tRet3 (tLcD3 (tRgI1 (tCons3 (tOp3 gAdd (tC3 (.int 1)) (tCall3 sp_law_any (tCons3 (tVar3 0) (tCons3 (tC3 (.int 3)) tNil3)))) tNil3)) (gName3 6) tYes3 (tCall3 sp_law_shuffled (tCons3 (tVar3 0) (tCons3 (tVar3 4) tNil3))) [6]))) tNext3) (tSeq3 (tSet3 2 (tCall3 sp_law_of (tCons3 (tVar3 0) (tCons3 (tVar3 1) tNil3)))) (tSeq3 (tSet3 3 (tCall3 sp_law_shuffled (tCons3 (tVar3 0) (tCons3 (tCB3 gLen (tCons3 (tOp3 gIx (tVar3 2) (tC3 (.int 0))) tNil3)) tNil3)))) (tSeq3 (tSet3 2 (tLcM3 (tSeqI3 (tVar3 2)) (gName3 5) tYes3 (tCall3 sp_law_join (tCons3 (tCall3 sp_law_join (tCons3 (tCall3 sp_law_back (tCons3 (tVar3 3) tNil3)) (tCons3 (tVar3 5) tNil3))) (tCons3 (tVar3 3) tNil3))) [5])) (tSeq3 (tIf3 (tB3 (tOp3 gEq (tCall3 sp_law_any (tCons3 (tVar3 0) (tCons3 (tC3 (.int 3)) tNil3))) (tC3 (.int 0)))) (tAsg3 (tCall3 sp_law_join (tCons3 (tOp3 gIx (tVar3 2) (tC3 (.int 1))) (tCons3 (tOp3 gIx (tVar3 2) (tC3 (.int 0))) tNil3))) (gSub3 (tVar3 2) (tC3 (.int 0)) gSetL)) tNext3) (tFrz3 2 (tRet3 (tIfE3 (tB3 (tOp3 gEq (tCall3 sp_law_any (tCons3 (tVar3 0) (tCons3 (tC3 (.int 2)) tNil3))) (tC3 (.int 0)))) (tRev3 (tVar3 2)) (tVar3 2))))))))))
theorem sem_law_turnings : ∀ ws S Q E, sp_law_turnings ws S Q E → rd_law_turnings (DQ Q) (start3 7 ws E) S := fun ws S Q E ⟨dl, d1, e, hD, hQ⟩ => by
  subst e
  refine ⟨[.int 1, .int 2, .int 3, .int 4, .int 5, .int 6, .int 7, .int 0], rfl, (by decide), [.int 0, .int 7, .int 6, .int 5, .int 4, .int 3, .int 2, .int 1], rfl, (by decide), [.tuple [.int 1, .int 2, .int 3, .int 4, .int 5, .int 6, .int 7, .int 0], .tuple [.int 0, .int 7, .int 6, .int 5, .int 4, .int 3, .int 2, .int 1]], rfl, (by decide), [.int 1, .int 2, .int 3, .int 0, .int 7, .int 4, .int 5, .int 6], rfl, (by decide), [.int 4, .int 5, .int 6, .int 7, .int 2, .int 3, .int 0, .int 1], rfl, (by decide), [.tuple [.int 1, .int 2, .int 3, .int 0, .int 7, .int 4, .int 5, .int 6], .tuple [.int 4, .int 5, .int 6, .int 7, .int 2, .int 3, .int 0, .int 1]], rfl, (by decide), [.int 1, .int 2, .int 3, .int 0], rfl, (by decide), [.int 0, .int 3, .int 2, .int 1], rfl, (by decide), [.tuple [.int 1, .int 2, .int 3, .int 0], .tuple [.int 0, .int 3, .int 2, .int 1]], rfl, (by decide), [.int 1, .int 2, .int 0, .int 3], rfl, (by decide), [.int 1, .int 0, .int 3, .int 2], rfl, (by decide), [.tuple [.int 1, .int 2, .int 0, .int 3], .tuple [.int 1, .int 0, .int 3, .int 2]], rfl, (by decide), [.int 1, .int 2, .int 0], rfl, (by decide), [.int 1, .int 0, .int 2], rfl, (by decide), [.tuple [.int 1, .int 2, .int 0], .tuple [.int 1, .int 0, .int 2]], rfl, (by decide), [.int 1, .int 2, .int 3, .int 4, .int 0], rfl, (by decide), [.int 0, .int 4, .int 3, .int 2, .int 1], rfl, (by decide), [.tuple [.int 1, .int 2, .int 3, .int 4, .int 0], .tuple [.int 0, .int 4, .int 3, .int 2, .int 1]], rfl, (by decide), [.int 1, .int 2, .int 3, .int 0], rfl, (by decide), [.int 1, .int 0, .int 3, .int 2], rfl, (by decide), [.int 3, .int 2, .int 1, .int 0], rfl, (by decide), [.tuple [.int 1, .int 2, .int 3, .int 0], .tuple [.int 1, .int 0, .int 3, .int 2], .tuple [.int 3, .int 2, .int 1, .int 0]], rfl, (by decide), [.int 1, .int 2, .int 3, .int 0, .int 4, .int 5], rfl, (by decide), [.int 0, .int 3, .int 2, .int 1, .int 4, .int 5], rfl, (by decide), [.int 0, .int 1, .int 2, .int 3, .int 5, .int 4], rfl, (by decide), [.tuple [.int 1, .int 2, .int 3, .int 0, .int 4, .int 5], .tuple [.int 0, .int 3, .int 2, .int 1, .int 4, .int 5], .tuple [.int 0, .int 1, .int 2, .int 3, .int 5, .int 4]], rfl, (by decide), [.list [.tuple [.int 1, .int 2, .int 3, .int 4, .int 5, .int 6, .int 7, .int 0], .tuple [.int 0, .int 7, .int 6, .int 5, .int 4, .int 3, .int 2, .int 1]], .list [.tuple [.int 1, .int 2, .int 3, .int 0, .int 7, .int 4, .int 5, .int 6], .tuple [.int 4, .int 5, .int 6, .int 7, .int 2, .int 3, .int 0, .int 1]], .list [.tuple [.int 1, .int 2, .int 3, .int 0], .tuple [.int 0, .int 3, .int 2, .int 1]], .list [.tuple [.int 1, .int 2, .int 0, .int 3], .tuple [.int 1, .int 0, .int 3, .int 2]], .list [.tuple [.int 1, .int 2, .int 0], .tuple [.int 1, .int 0, .int 2]], .list [.tuple [.int 1, .int 2, .int 3, .int 4, .int 0], .tuple [.int 0, .int 4, .int 3, .int 2, .int 1]], .list [.tuple [.int 1, .int 2, .int 3, .int 0], .tuple [.int 1, .int 0, .int 3, .int 2], .tuple [.int 3, .int 2, .int 1, .int 0]], .list [.tuple [.int 1, .int 2, .int 3, .int 0, .int 4, .int 5], .tuple [.int 0, .int 3, .int 2, .int 1, .int 4, .int 5], .tuple [.int 0, .int 1, .int 2, .int 3, .int 5, .int 4]]], rfl, (by decide), ?_⟩
  refine ⟨_, rfl, law_any_lt hD (by decide) (by decide) fun r0 S1 _ _ u1 hD1 => .inr ⟨_, _, rfl, rfl, rfl, rfl, _, rfl, fun c1 => ?_, fun c1 => ?_⟩⟩
  · refine ⟨_, rfl, [.int 1, .int 2, .int 3, .int 3, .int 4], rfl, (show 5 ≤ 1000 by decide), law_of_list hD1 (by simp) (show 5 < 2 ^ 60 by decide) fun d hd S2 u2 hD2 => ?_⟩
    obtain ⟨n, rfl, n1, n2⟩ : ∃ n : Nat, d = .int n ∧ 1 ≤ n ∧ n ≤ 8 := by
      revert d
      exact (forall_mem_cons' ⟨1, rfl, by decide, by decide⟩ (forall_mem_cons' ⟨2, rfl, by decide, by decide⟩ (forall_mem_cons' ⟨3, rfl, by decide, by decide⟩ (forall_mem_cons' ⟨3, rfl, by decide, by decide⟩ (forall_mem_cons' ⟨4, rfl, by decide, by decide⟩ forall_mem_nil)))))
    refine ⟨_, rfl, law_any_lt hD2 (by decide) (by decide) fun r S3 r0 r1 u3 hD3 => ⟨_, _, rfl, rfl, _, rfl, ⟨by omega, by omega⟩, by rw [rgW_len]; omega, ?_⟩⟩
    have r1 : r < 3 := r1
    refine lcGo_drawn (f := fun a => W.d (ti a)) (P := PmP n) (dl := dl) (d1 := d1) (fun τ S A B h ⟨w1, e1, w2, e2, q⟩ => ⟨w1, e1, w2, e2, mono_shuffled h q⟩) hD3 (fun S' w A hD' k => ⟨_, rfl, _, rfl, ⟨dl, d1, n, rfl, by omega, hD', k⟩⟩) ?_
    intro as S4 hl hp u4 hD4
    exact ⟨as.map ti, by rw [List.map_map]; rfl, _, Sub.refl _, hQ n as S4 n1 n2 (fun z => by subst z; simp at hl; omega) (by omega) hp (u1.trans (u2.trans (u3.trans u4))) hD4⟩
  · refine ⟨_, rfl, _, rfl, law_of_list hD1 (by simp) (show 8 < 2 ^ 60 by decide) fun d hd S2 u2 hD2 => ?_⟩
    obtain ⟨n, as, rfl, n1, n2, l2, l3, ha⟩ : ∃ (n : Nat) (as : List (List Nat)), d = .list (as.map ti) ∧ 1 ≤ n ∧ n ≤ 8 ∧ 2 ≤ as.length ∧ as.length ≤ 3 ∧ ∀ a ∈ as, PmP n a := by
      revert d
      exact (forall_mem_cons' ⟨8, [[1, 2, 3, 4, 5, 6, 7, 0], [0, 7, 6, 5, 4, 3, 2, 1]], rfl, by decide, by decide, by decide, by decide, by decide⟩ (forall_mem_cons' ⟨8, [[1, 2, 3, 0, 7, 4, 5, 6], [4, 5, 6, 7, 2, 3, 0, 1]], rfl, by decide, by decide, by decide, by decide, by decide⟩ (forall_mem_cons' ⟨4, [[1, 2, 3, 0], [0, 3, 2, 1]], rfl, by decide, by decide, by decide, by decide, by decide⟩ (forall_mem_cons' ⟨4, [[1, 2, 0, 3], [1, 0, 3, 2]], rfl, by decide, by decide, by decide, by decide, by decide⟩ (forall_mem_cons' ⟨3, [[1, 2, 0], [1, 0, 2]], rfl, by decide, by decide, by decide, by decide, by decide⟩ (forall_mem_cons' ⟨5, [[1, 2, 3, 4, 0], [0, 4, 3, 2, 1]], rfl, by decide, by decide, by decide, by decide, by decide⟩ (forall_mem_cons' ⟨4, [[1, 2, 3, 0], [1, 0, 3, 2], [3, 2, 1, 0]], rfl, by decide, by decide, by decide, by decide, by decide⟩ (forall_mem_cons' ⟨6, [[1, 2, 3, 0, 4, 5], [0, 3, 2, 1, 4, 5], [0, 1, 2, 3, 5, 4]], rfl, by decide, by decide, by decide, by decide, by decide⟩ forall_mem_nil))))))))
    obtain ⟨a0, a1, at', rfl⟩ : ∃ a0 a1 t, as = a0 :: a1 :: t := by
      match as, l2 with
      | a0 :: a1 :: t, _ => exact ⟨a0, a1, t, rfl⟩
    have h0 := ha a0 List.mem_cons_self
    refine ⟨_, rfl, _, rfl, _, _, rfl, ix_head (.inl rfl), _, _, rfl, len_ti, ⟨dl, d1, n, by rw [h0.1], by omega, hD2, fun by' S3 hb u3 hD3 => ?_⟩⟩
    refine ⟨_, rfl, _, .inl rfl, by rw [List.length_map, List.length_map]; omega, ?_⟩
    rw [List.map_map]
    refine lcGo_mapG _ (fun a => W.d (ti (jn (jn (iv by') a) by'))) (fun a h A k => ?_) fun p hp => ?_
    · have hA := ha a h
      exact ⟨_, rfl, ⟨n, by', rfl, hb, by omega, _, rfl, join_P (iv_ok hb) hA (by omega) ⟨_, rfl, join_P (jn_ok (iv_ok hb) hA) hb (by omega) k⟩⟩⟩
    rw [List.nil_append]
    have ep : put S3 p (.lst ((a0 :: a1 :: at').map fun a => W.d (ti (jn (jn (iv by') a) by')))) p = some (.lst ((((a0 :: a1 :: at').map fun a => jn (jn (iv by') a) by').map ti).map W.d)) := by
      rw [put_same, List.map_map, List.map_map]; rfl
    have hbs : ∀ b ∈ (a0 :: a1 :: at').map fun a => jn (jn (iv by') a) by', PmP n b := fun b hb2 => by
      obtain ⟨a, h, rfl⟩ := List.mem_map.mp hb2
      exact jn_ok (jn_ok (iv_ok hb) (ha a h)) hb
    have hbl : ((a0 :: a1 :: at').map fun a => jn (jn (iv by') a) by').length ≤ 3 := by rw [List.length_map]; exact l3
    obtain ⟨p1, p2⟩ := hD3.free hp
    have hDp : Deal (put S3 p (.lst ((a0 :: a1 :: at').map fun a => W.d (ti (jn (jn (iv by') a) by'))))) dl d1 := hD3.other p1 p2
    have u123 := u1.trans (u2.trans u3)
    have hpS : S p = none := by rw [← u123 p (by simp [p1, p2])]; exact hp
    have kp : Kp [dl, d1] S (put S3 p (.lst ((a0 :: a1 :: at').map fun a => W.d (ti (jn (jn (iv by') a) by'))))) := u123.kp.wr hpS
    have hb2 : 2 ≤ ((a0 :: a1 :: at').map fun a => jn (jn (iv by') a) by').length := by rw [List.length_map]; exact l2
    generalize put S3 p (.lst ((a0 :: a1 :: at').map fun a => W.d (ti (jn (jn (iv by') a) by')))) = S4 at ep hDp kp ⊢
    generalize (a0 :: a1 :: at').map (fun a => jn (jn (iv by') a) by') = bs at ep hbs hbl hb2
    obtain ⟨b0, b1, t, rfl⟩ : ∃ b0 b1 t, bs = b0 :: b1 :: t := by
      match bs, hb2 with
      | b0 :: b1 :: t, _ => exact ⟨b0, b1, t, rfl⟩
    have fin : ∀ (cs : List (List Nat)) (S' : Sto) (x1 x3 x4 x5 x6 : Option W) (ex : XS), S' p = some (.lst ((cs.map ti).map W.d)) → cs ≠ [] → cs.length ≤ 3 → (∀ c ∈ cs, PmP n c) → Kp [dl, d1] S S' → Deal S' dl d1 →
        tFrz3 2 (tRet3 (tIfE3 (tB3 (tOp3 gEq (tCall3 sp_law_any (tCons3 (tVar3 0) (tCons3 (tC3 (.int 2)) tNil3))) (tC3 (.int 0)))) (tRev3 (tVar3 2)) (tVar3 2))) (DQ Q) ⟨[some (.r dl), x1, some (.r p), x3, x4, x5, x6], ex⟩ S' := fun cs S' x1 x3 x4 x5 x6 ex e h0 hl hc k hD' => by
      refine ⟨p, _, rfl, e, _, rfl, law_any_lt (hD'.drp p1 p2) (by decide) (by decide) fun r S6 _ _ u6 hD6 => .inr ⟨_, _, rfl, rfl, rfl, rfl, _, rfl, fun c => ?_, fun c => ?_⟩⟩
      · refine ⟨_, rfl, _, rfl, two dl d1 S S6, two_sub ((k.drp hpS).trans u6.kp), ?_⟩
        rw [← List.map_reverse]
        exact hQ n cs.reverse _ n1 n2 (by simpa using h0) (by rw [List.length_reverse]; exact hl) (fun c hc' => hc c (List.mem_reverse.mp hc')) two_upto (two_deal hD6)
      · exact ⟨_, rfl, two dl d1 S S6, two_sub ((k.drp hpS).trans u6.kp), hQ n cs _ n1 n2 h0 hl hc two_upto (two_deal hD6)⟩
    refine ⟨_, rfl, law_any_lt hDp (by decide) (by decide) fun r S5 _ _ u5 hD5 => .inr ⟨_, _, rfl, rfl, rfl, rfl, _, rfl, fun c => ?_, fun c => ?_⟩⟩
    · have e5 : S5 p = some (.lst (((b0 :: b1 :: t).map ti).map W.d)) := by rw [u5 p (by simp [p1, p2])]; exact ep
      have i0 : ixW S5 0 (.r p) = some (.d (ti b0)) := by rw [ixW_r e5]; exact H3.atI_nat (i := 0) rfl
      have i1 : ixW S5 1 (.r p) = some (.d (ti b1)) := by rw [ixW_r e5]; exact H3.atI_nat (i := 1) rfl
      have q0 := hbs b0 (by simp)
      have q1 := hbs b1 (by simp)
      refine ⟨_, rfl, _, _, rfl, i1, _, rfl, _, _, rfl, i0, join_P q1 q0 (by omega) ⟨_, rfl, p, _, _, 0, rfl, rfl, e5, ?_, ?_⟩⟩
      · unfold ixN
        rw [if_pos (by decide), if_pos (by simp only [List.length_map, List.length_cons]; omega)]; rfl
      · refine fin (jn b1 b0 :: b1 :: t) _ _ _ _ _ _ _ (by rw [put_same]; rfl) (by simp) hbl (fun c hc => ?_) ((kp.trans u5.kp).wr hpS) (hD5.other p1 p2)
        rcases List.mem_cons.mp hc with h | h
        · rw [h]; exact jn_ok q1 q0
        · exact hbs c (List.mem_cons_of_mem _ h)
    · exact fin (b0 :: b1 :: t) _ _ _ _ _ _ _ (by rw [u5 p (by simp [p1, p2])]; exact ep) (by simp) hbl hbs (kp.trans u5.kp) hD5

/-! all lots within a lot -/
def sq_law_subsets : Sp3 := fun ws S Q _ => ∃ l : List Int, ws = [.d (lt l)] ∧ l.length ≤ 16 ∧ ∀ ss : List (List Int), ss.length ≤ 100000 → (∀ T ∈ ss, T.length ≤ 16) → Q (.lst (ss.map lt)) S
def sp_law_subsets : Sp3 := fun ws S Q E => Bx (sq_law_subsets ws S Q E)
theorem len_law_subsets : ∀ ws S Q E, sp_law_subsets ws S Q E → ws.length = 1 := fun ws S Q E ⟨l, e, _⟩ => by rw [e]; rfl
def rb_law_subsets_0 : TS3 := (tSet3 1 (tOp3 gCatL (tVar3 1) (tLcD3 (tSeqI3 (tVar3 1)) (gName3 3) tYes3 (tOp3 gCatT (tVar3 3) (tTup3 (tCons3 (tVar3 2) tNil3))) [3])))
def rd_law_subsets : TS3 := (tSeq3 (tSet3 1 (tLstD3 (tCons3 (tTup3 tNil3) tNil3))) (tSeq3 (tFor3 (tSeqI3 (tVar3 0)) (gName3 2) rb_law_subsets_0) (tRet3 (tVar3 1))))
theorem sem_law_subsets : ∀ ws S Q E, sp_law_subsets ws S Q E → rd_law_subsets (DQ Q) (start3 4 ws E) S := fun ws S Q E ⟨l, e, hl, hQ⟩ => by
  subst e
  refine ⟨[], rfl, by decide, [.tuple []], rfl, by decide, _, rfl, l.map PyData.int, .inr rfl, ?_⟩
  refine forGo_inv (fun i τ S' => S' = S ∧ ∃ (ss : List (List Int)) (w2 w3 : Option W), τ.sl = [some (.d (lt l)), some (.lst (ss.map lt)), w2, w3] ∧ ss.length = 2 ^ i ∧ ∀ T ∈ ss, T.length ≤ i) ⟨rfl, [[]], _, _, rfl, rfl, fun T h => by rw [List.mem_singleton.mp h]; exact Nat.le_refl _⟩ ?_ ?_
  · rintro i w ⟨sl, ex⟩ S' hw ⟨rfl, ss, w2, w3, e, ls, lT⟩
    subst e
    rw [List.map_map] at hw
    obtain ⟨k, hk, rfl⟩ := get_map hw
    have hi : i < 16 := Nat.lt_of_lt_of_le (List.getElem?_eq_some_iff.mp hk).1 hl
    have pow : 2 ^ i ≤ 2 ^ 15 := Nat.pow_le_pow_right (by decide) (by omega)
    refine ⟨_, rfl, _, rfl, ss.map lt, .inl rfl, by rw [List.length_map, List.length_map, ls]; omega, ?_⟩
    rw [List.map_map]
    refine lcGo_mapG (W.d ∘ lt) (fun T => W.d (lt (T ++ [k]))) (fun T hT A a => ⟨_, rfl, _, rfl, [.int k], rfl, (show 1 ≤ 1000 by decide), T.map PyData.int, [.int k], rfl, rfl, by rw [List.length_map]; have := lT T hT; show T.length + 1 ≤ _; omega, ?_⟩) ?_
    · have e : T.map PyData.int ++ [PyData.int k] = (T ++ [k]).map PyData.int := by rw [List.map_append]; rfl
      rw [e]
      exact a
    · refine ⟨(ss.map fun T => T ++ [k]).map lt, by rw [List.nil_append, List.map_map, List.map_map]; rfl, ss.map lt, (ss.map fun T => T ++ [k]).map lt, rfl, rfl, by rw [List.length_map, List.length_map, List.length_map, ls, sizeLine_eq]; omega, rfl, ss ++ ss.map (fun T => T ++ [k]), _, _, by rw [List.map_append]; rfl, by rw [List.length_append, List.length_map, ls, Nat.pow_succ]; omega, fun T hT => ?_⟩
      rcases List.mem_append.mp hT with h | h
      · exact Nat.le_succ_of_le (lT T h)
      · obtain ⟨U, hU, rfl⟩ := List.mem_map.mp h
        rw [List.length_append]
        exact Nat.succ_le_succ (lT U hU)
  · rintro ⟨sl, ex⟩ S' ⟨rfl, ss, w2, w3, e, ls, lT⟩
    subst e
    rw [List.length_map, List.length_map] at ls lT
    have pow : 2 ^ l.length ≤ 2 ^ 16 := Nat.pow_le_pow_right (by decide) hl
    exact ⟨_, rfl, _, Sub.refl _, hQ ss (by omega) fun T hT => Nat.le_trans (lT T hT) hl⟩
/-! plain law -/
section
variable {n : Nat} {f g h : Fc n} {B T : List Int}
def one_ (f : Fc n) (T : List Int) : Pm n := if wi f.1 T = true then f.2 else 1
theorem sw_two : sw [f, g] T = one_ f T * one_ g T := by
  unfold sw one_
  by_cases h1 : wi f.1 T = true <;> by_cases h2 : wi g.1 T = true <;> simp [List.filter_cons, h1, h2, pm_one_mul, pm_mul_one]
theorem sw_three : sw [f, g, h] T = one_ f T * one_ g T * one_ h T := by
  unfold sw one_
  by_cases h1 : wi f.1 T = true <;> by_cases h2 : wi g.1 T = true <;> by_cases h3 : wi h.1 T = true <;> simp [List.filter_cons, h1, h2, h3, pm_one_mul, pm_mul_one]
theorem wi_trans {a b c : List Int} (h1 : wi a b = true) (h2 : wi b c = true) : wi a c = true := wi_iff.mpr fun k hk => wi_iff.mp h2 k (wi_iff.mp h1 k hk)
theorem wi_both {a b : List Int} (hB : Both B (a ++ b)) : wi B T = true ↔ wi a T = true ∧ wi b T = true := by
  rw [wi_iff, wi_iff, wi_iff]
  constructor
  · exact fun h => ⟨fun k hk => h k ((hB.2 k).mpr (List.mem_append_left _ hk)), fun k hk => h k ((hB.2 k).mpr (List.mem_append_right _ hk))⟩
  · rintro ⟨h1, h2⟩ k hk
    rcases List.mem_append.mp ((hB.2 k).mp hk) with q | q
    · exact h1 k q
    · exact h2 k q
theorem mo_one (c : (mo f g).1 = List.range n) : g.2 * f.2 = f.2 * g.2 := by
  have e : mo f g = 1 := Subtype.ext c
  have q := pm_ci (g.2 * f.2) (f.2 * g.2)
  rw [show (g.2 * f.2)⁻¹ * (f.2 * g.2) = 1 from e, pm_mul_one] at q
  exact q
/-- every lot is shown the same -/
theorem told_same (hB : Both B (f.1 ++ g.1)) : sw (pas f g B) T = sw [f, g] T := by
  unfold pas
  rw [sw_two]
  split
  · rename_i c
    rw [sw_two]
    unfold one_
    by_cases h1 : wi f.1 T = true
    · have h2 := wi_trans c h1
      rw [if_pos h1, if_pos h2, if_pos h1]
      exact cj_mul f.2 g.2
    · rw [if_neg h1, if_neg h1, pm_mul_one, pm_one_mul]
  split
  · rename_i _ c
    rw [sw_two]
    unfold one_
    by_cases h2 : wi g.1 T = true
    · have h1 := wi_trans c h2
      rw [if_pos h2, if_pos h1, if_pos h2]
      simp only [cjP, pm_inv_inv, pm_assoc, pm_inv_mul, pm_mul_one]
    · rw [if_neg h2, if_neg h2, pm_mul_one, pm_one_mul]
  split
  · rename_i _ _ c
    rw [sw_two]
    unfold one_
    by_cases h1 : wi f.1 T = true <;> by_cases h2 : wi g.1 T = true <;> simp [h1, h2, pm_one_mul, pm_mul_one, mo_one c]
  · rw [sw_three]
    have hb := wi_both (T := T) hB
    unfold one_
    by_cases h1 : wi f.1 T = true <;> by_cases h2 : wi g.1 T = true
    · rw [if_pos h1, if_pos h2, if_pos (hb.mpr ⟨h1, h2⟩)]
      exact pm_ci _ _
    · rw [if_pos h1, if_neg h2, if_neg fun z => h2 (hb.mp z).2, pm_mul_one, pm_mul_one, pm_one_mul]
    · rw [if_neg h1, if_pos h2, if_neg fun z => h1 (hb.mp z).1, pm_mul_one, pm_mul_one, pm_one_mul]
    · rw [if_neg h1, if_neg h2, if_neg fun z => h1 (hb.mp z).1, pm_mul_one, pm_one_mul]
/-- an entry more that no lot has -/
theorem wi_more {a T : List Int} (h : (99 : Int) ∉ a) : wi a (T ++ [99]) = wi a T := by
  rw [Bool.eq_iff_iff, wi_iff, wi_iff]
  constructor
  · intro q k hk
    rcases List.mem_append.mp (q k hk) with m | m
    · exact m
    · rw [List.mem_singleton.mp m] at hk; exact absurd hk h
  · exact fun q k hk => List.mem_append_left _ (q k hk)
theorem sw_more (h1 : (99 : Int) ∉ f.1) (h2 : (99 : Int) ∉ g.1) : sw [f, g] (T ++ [99]) = sw [f, g] T := by
  rw [sw_two, sw_two]
  unfold one_
  rw [wi_more h1, wi_more h2]
theorem both_unique {B C l : List Int} (h1 : Both B l) (h2 : Both C l) : B = C := by
  have sub : ∀ {x y : List Int}, x.Pairwise (· < ·) → y.Pairwise (· < ·) → (∀ k, k ∈ x ↔ k ∈ y) → x = y := fun {x} => by
    induction x with
    | nil =>
      intro y _ _ m
      cases y with
      | nil => rfl
      | cons b y => exact absurd ((m b).mpr List.mem_cons_self) (by simp)
    | cons a x ih =>
      intro y hx hy m
      cases y with
      | nil => exact absurd ((m a).mp List.mem_cons_self) (by simp)
      | cons b y =>
        obtain ⟨p1, p2⟩ := List.pairwise_cons.mp hx
        obtain ⟨q1, q2⟩ := List.pairwise_cons.mp hy
        have ab : a = b := by
          have u := (m a).mp List.mem_cons_self
          have v := (m b).mpr List.mem_cons_self
          rcases List.mem_cons.mp u with e | e
          · exact e
          · rcases List.mem_cons.mp v with e2 | e2
            · exact e2.symm
            · have := q1 a e; have := p1 b e2; omega
        subst ab
        rw [ih p2 q2 fun k => ?_]
        have mk := m k
        rw [List.mem_cons, List.mem_cons] at mk
        constructor
        · intro hk
          rcases mk.mp (.inr hk) with e | e
          · have := p1 k hk; omega
          · exact e
        · intro hk
          rcases mk.mpr (.inr hk) with e | e
          · have := q1 k hk; omega
          · exact e
  exact sub h1.1 h2.1 fun k => (h1.2 k).trans (h2.2 k).symm
end
/-! the law -/
def sq_law (tb : Nat → Addr) : Sp3 := fun ws S Q _ => ∃ ns : List Int, ws = [.lst (ns.map PyData.int)] ∧ ns.length ≤ 63 ∧ S (tb 0) = some (.tb none) ∧ ∀ S', Q (.bl true) S'
def sp_law (tb : Nat → Addr) : Sp3 := fun ws S Q E => Bx (sq_law tb ws S Q E)
theorem len_law (tb : Nat → Addr) : ∀ ws S Q E, sp_law tb ws S Q E → ws.length = 1 := fun ws S Q E ⟨d, e, _⟩ => by rw [e]; rfl
theorem law_start (tb : Nat → Addr) (S : Sto) (ns : List Int) (h : ns.length ≤ 63) (ht : ∀ i q, qsl[i]? = some q → S (tb i) = some (.tb q)) : sp_law tb [.lst (ns.map PyData.int)] S (fun w _ => w = .bl true) X0 := ⟨ns, rfl, h, ht 0 none rfl, fun _ => rfl⟩
def rt_law_0 (tb : Nat → Addr) : TS3 := (tSeq3 (tSet3 7 (tCallK3 (sp_passed tb) gw_passed_0 2 (tCons3 (tOp3 gIx (tVar3 5) (tC3 (.int 1))) (tCons3 (tOp3 gIx (tVar3 5) (tC3 (.int 0))) tNil3)))) (tSeq3 (tIf3 (tAnd3 (tB3 (tOp3 gEq (tCB3 gLen (tCons3 (tVar3 5) tNil3)) (tC3 (.int 2)))) (tAnd3 (tB3 (tOp3 gEq (tCB3 gLen (tCons3 (tVar3 7) tNil3)) (tC3 (.int 2)))) (tB3 (tOp3 gNe (tCall3 sp_law_shown (tCons3 (tVar3 7) (tCons3 (tTup3 (tCons3 (tC3 (.int 0)) (tCons3 (tC3 (.int 1)) (tCons3 (tC3 (.int 2)) (tCons3 (tC3 (.int 3)) (tCons3 (tC3 (.int 9)) (tCons3 (tC3 (.int 40)) (tCons3 (tC3 (.int 50)) tNil3)))))))) (tCons3 (tVar3 3) tNil3)))) (tCall3 sp_law_join (tCons3 (tOp3 gIx (tVar3 8) (tC3 (.int 1))) (tCons3 (tOp3 gIx (tVar3 9) (tC3 (.int 1))) tNil3))))))) (tRet3 (tC3 (.bl false))) tNext3) (tSeq3 (tIf3 (tAnd3 (tB3 (tOp3 gEq (tCB3 gLen (tCons3 (tVar3 5) tNil3)) (tC3 (.int 3)))) (tB3 (tOp3 gNe (tOp3 gIx (tOp3 gIx (tVar3 5) (tC3 (.int 2))) (tC3 (.int 1))) (tCall3 sp_commutator (tCons3 (tCall3 sp_turned_back (tCons3 (tOp3 gIx (tVar3 8) (tC3 (.int 1))) tNil3)) (tCons3 (tCall3 sp_turned_back (tCons3 (tOp3 gIx (tVar3 9) (tC3 (.int 1))) tNil3)) tNil3)))))) (tRet3 (tC3 (.bl false))) tNext3) (tSeq3 (tIf3 (tAnd3 (tB3 (tOp3 gEq (tOp3 gIx (tVar3 8) (tC3 (.int 0))) (tOp3 gIx (tVar3 9) (tC3 (.int 0))))) (tB3 (tOp3 gNe (tCall3 sp_joined (tCons3 (tOp3 gIx (tOp3 gIx (tVar3 5) (tC3 (.int 0))) (tC3 (.int 1))) (tCons3 (tOp3 gIx (tOp3 gIx (tVar3 5) (tC3 (.int 1))) (tC3 (.int 1))) tNil3))) (tCall3 sp_joined (tCons3 (tOp3 gIx (tVar3 8) (tC3 (.int 1))) (tCons3 (tOp3 gIx (tVar3 9) (tC3 (.int 1))) tNil3)))))) (tRet3 (tC3 (.bl false))) tNext3) (tIf3 (tAnd3 (tB3 (tOp3 gNe (tOp3 gIx (tOp3 gIx (tVar3 5) (tC3 (.int 0))) (tC3 (.int 1))) (tOp3 gIx (tVar3 9) (tC3 (.int 1))))) (tB3 (tOp3 gNe (tOp3 gIx (tOp3 gIx (tVar3 5) (tC3 (.int 0))) (tC3 (.int 1))) (tCall3 sp_conjugate (tCons3 (tOp3 gIx (tVar3 9) (tC3 (.int 1))) (tCons3 (tCall3 sp_turned_back (tCons3 (tOp3 gIx (tVar3 8) (tC3 (.int 1))) tNil3)) tNil3)))))) (tRet3 (tC3 (.bl false))) tNext3)))))
def rb_law_1 (tb : Nat → Addr) : TS3 := (tSeq3 (tSet3 10 (tCall3 sp_law_shown (tCons3 (tTup3 (tCons3 (tVar3 8) (tCons3 (tVar3 9) tNil3))) (tCons3 (tVar3 6) (tCons3 (tVar3 3) tNil3))))) (tIf3 (tOr3 (tB3 (tOp3 gNe (tCall3 sp_law_shown (tCons3 (tVar3 5) (tCons3 (tVar3 6) (tCons3 (tVar3 3) tNil3)))) (tVar3 10))) (tB3 (tOp3 gNe (tCall3 (sp_shown_of tb) (tCons3 (tVar3 3) (tCons3 (tVar3 5) (tCons3 (tOp3 gCatT (tVar3 6) (tTup3 (tCons3 (tC3 (.int 99)) tNil3))) tNil3)))) (tVar3 10)))) (tRet3 (tC3 (.bl false))) tNext3))
def rt_law_2 (tb : Nat → Addr) : TS3 := (tSeq3 (tSet3 5 (tCall3 (sp_passed tb) (tCons3 (tVar3 8) (tCons3 (tVar3 9) tNil3)))) (tSeq3 (tIf3 (tB3 (tOp3 gNe (tCB3 gRepr (tCons3 (tVar3 5) tNil3)) (tCB3 gRepr (tCons3 (tCall3 sp_law_due (tCons3 (tVar3 8) (tCons3 (tVar3 9) (tCons3 (tVar3 3) tNil3)))) tNil3)))) (tRet3 (tC3 (.bl false))) tNext3) (tSeq3 (tFor3 (tSeqI3 (tCall3 sp_law_subsets (tCons3 (tCB3 gTuple (tCons3 (tCB3 gSortV (tCons3 (tOp3 gCatT (tOp3 gIx (tVar3 8) (tC3 (.int 0))) (tCB3 gTuple (tCons3 (tLcD3 (tSeqI3 (tOp3 gIx (tVar3 9) (tC3 (.int 0)))) (gName3 11) (tB3 (tOp3 (gIn true) (tVar3 11) (tOp3 gIx (tVar3 8) (tC3 (.int 0))))) (tVar3 11) [11]) tNil3))) tNil3)) tNil3)) tNil3))) (gName3 6) (rb_law_1 tb)) (rt_law_0 tb))))
def rb_law_3 (tb : Nat → Addr) : TS3 := (tSeq3 (tUnp3 (tCons3 (tTup3 (tCons3 (tCall3 sp_law_lot (tCons3 (tVar3 1) (tCons3 (tVar3 4) tNil3))) (tCons3 (tCall3 sp_law_of (tCons3 (tVar3 1) (tCons3 (tVar3 2) tNil3))) tNil3))) (tCons3 (tTup3 (tCons3 (tCall3 sp_law_lot (tCons3 (tVar3 1) (tCons3 (tVar3 4) tNil3))) (tCons3 (tCall3 sp_law_of (tCons3 (tVar3 1) (tCons3 (tVar3 2) tNil3))) tNil3))) tNil3)) (gCons3 (gName3 8) (gCons3 (gName3 9) gNil3))) (tSeq3 (tIf3 (tB3 (tOp3 gEq (tCall3 sp_law_any (tCons3 (tVar3 1) (tCons3 (tC3 (.int 4)) tNil3))) (tC3 (.int 0)))) (tSet3 9 (tTup3 (tCons3 (tCall3 sp_law_of (tCons3 (tVar3 1) (tCons3 (tLstD3 (tCons3 (tOp3 gIx (tVar3 8) (tC3 (.int 0))) (tCons3 (tSl3 gSlT (tOp3 gIx (tVar3 8) (tC3 (.int 0))) tNoP3 (tPart3 (tC3 (.int 1)))) (tCons3 (tOp3 gCatT (tOp3 gIx (tVar3 8) (tC3 (.int 0))) (tTup3 (tCons3 (tC3 (.int 50)) tNil3))) tNil3)))) tNil3))) (tCons3 (tOp3 gIx (tVar3 9) (tC3 (.int 1))) tNil3)))) tNext3) (rt_law_2 tb)))
def rb_law_4 (tb : Nat → Addr) : TS3 := (tSet3 2 (tOp3 gCatL (tVar3 2) (tLstD3 (tCons3 (tCall3 sp_law_join (tCons3 (tCall3 sp_law_of (tCons3 (tVar3 1) (tCons3 (tVar3 2) tNil3))) (tCons3 (tCall3 sp_law_of (tCons3 (tVar3 1) (tCons3 (tVar3 2) tNil3))) tNil3))) tNil3))))
def rd_law (tb : Nat → Addr) : TS3 := (tSeq3 (tSet3 1 (tCall3 sp_law_source (tCons3 (tVar3 0) tNil3))) (tSeq3 (tSet3 2 (tCall3 sp_law_turnings (tCons3 (tVar3 1) tNil3))) (tSeq3 (tSet3 3 (tCB3 gLen (tCons3 (tOp3 gIx (tVar3 2) (tC3 (.int 0))) tNil3))) (tSeq3 (tFor3 (tRgI1 (tCons3 (tC3 (.int 6)) tNil3)) (gName3 4) (rb_law_4 tb)) (tSeq3 (tSet3 2 (tOp3 gCatL (tVar3 2) (tLstD3 (tCons3 (tCall3 sp_law_shuffled (tCons3 (tVar3 1) (tCons3 (tVar3 3) tNil3))) (tCons3 (tCall3 sp_still (tCons3 (tVar3 3) tNil3)) tNil3))))) (tSeq3 (tFor3 (tRgI1 (tCons3 (tC3 (.int 7)) tNil3)) (gName3 4) (rb_law_3 tb)) (tRet3 (tC3 (.bl true)))))))))
/-- lots as the law draws them: ascending, few, of the law's hands and 50 -/
structure LotOk2 (l : List Int) : Prop where
  up : l.Pairwise (· < ·)
  hands : ∀ k ∈ l, HandOk k ∨ k = 50
  few : l.length ≤ 7
theorem fine_lt {l : List Int} (h : ∀ k ∈ l, HandOk k ∨ k = 50) (few : l.length ≤ 14) : Fine 1 30000 (lt l) := by
  refine Fine.tuple (k := 0) (w := 200) (fun x hx => ?_) ?_
  · obtain ⟨k, hk, rfl⟩ := List.mem_map.mp hx
    have := h k hk
    unfold HandOk at this
    exact Fine.ofInt (show k.natAbs < 10 ^ 50 by omega)
  · rw [List.length_map]; omega
theorem fine_fc {n : Nat} (hn : n ≤ 100) {f : Fc n} (h : Fine 1 30000 (lt f.1)) : Fine 2 60002 (fc f) := by
  refine Fine.tuple (k := 1) (w := 30000) (fun x hx => ?_) (show (30000 + 1) * 2 ≤ 60002 by decide)
  rcases (by simpa using hx : x = lt f.1 ∨ x = ti f.2.1) with e | e <;> rw [e]
  · exact h
  · exact fine_ti f.2.2 hn
theorem lt_eqv {a b : List Int} : PyData.eqv (lt a) (lt b) = true ↔ a = b := by
  show PyData.eqvAll (a.map PyData.int) (b.map PyData.int) = true ↔ _
  rw [eqvAll_ints]
  exact decide_eq_true_iff
theorem ix_fst {S : Sto} {x y : PyData} : ixW S 0 (.tup [x, y]) = some (.d x) := ix_head (.inr rfl)
theorem ix_snd {S : Sto} {x y : PyData} : ixW S 1 (.tup [x, y]) = some (.d y) := by
  show atI [W.d x, W.d y] ((1 : Nat) : Int) = _
  exact H3.atI_nat rfl
theorem ix_0 {S : Sto} {x : PyData} {r : List PyData} : ixW S 0 (.tup (x :: r)) = some (.d x) := ix_head (.inr rfl)
theorem ix_1 {S : Sto} {x y : PyData} {r : List PyData} : ixW S 1 (.tup (x :: y :: r)) = some (.d y) := by
  show atI (W.d x :: W.d y :: r.map W.d) ((1 : Nat) : Int) = _
  exact H3.atI_nat rfl
theorem ix_2 {S : Sto} {x y z : PyData} {r : List PyData} : ixW S 2 (.tup (x :: y :: z :: r)) = some (.d z) := by
  show atI (W.d x :: W.d y :: W.d z :: r.map W.d) ((2 : Nat) : Int) = _
  exact H3.atI_nat rfl
theorem len_tp {S : Sto} {ds : List PyData} : lenW S (.tup ds) = some ds.length := by
  show some (List.length (ds.map W.d)) = _
  rw [List.length_map]
theorem if_no {c : TT3} {t u : TS3} {D : Ends3} {τ : S3} {S : Sto} (h : ∀ Q : Bool → Sto → Prop, Q false S → c τ S Q) (k : u D τ S) : tIf3 c t u D τ S := h _ ⟨fun z => (nomatch z), fun _ => k⟩
theorem if_seq {c : TT3} {t u : TS3} {D : Ends3} {τ : S3} {S : Sto} (h : ∀ Q : Bool → Sto → Prop, Q false S → c τ S Q) (k : u D τ S) : tSeq3 (tIf3 c t tNext3) u D τ S := h _ ⟨fun z => (nomatch z), fun _ => k⟩
theorem no_ti {n : Nat} {a b : Pm n} (h : a = b) : (!PyData.eqv (ti a.1) (ti b.1)) = false := by subst h; rw [eqv_ti]; simp
theorem pas_is {n : Nat} (f g : Fc n) (B : List Int) : ∃ (a b : Pm n) (r : List (Fc n)), pas f g B = (g.1, a) :: (f.1, b) :: r ∧ (r = [] ∨ r = [(B, mo f g)]) ∧ (a = g.2 ∨ a = cjP g.2 f.2⁻¹) ∧ (f.1 = g.1 → a * b = f.2 * g.2) := by
  unfold pas
  split
  · exact ⟨g.2, cjP f.2 g.2, [], rfl, .inl rfl, .inl rfl, fun _ => cj_mul _ _⟩
  rename_i c
  have no : ¬ f.1 = g.1 := fun e => c (by rw [e]; exact wi_iff.mpr fun k hk => hk)
  split
  · exact ⟨cjP g.2 f.2⁻¹, f.2, [], rfl, .inl rfl, .inr rfl, fun e => absurd e no⟩
  split
  · exact ⟨g.2, f.2, [], rfl, .inl rfl, .inl rfl, fun e => absurd e no⟩
  · exact ⟨g.2, f.2, [(B, mo f g)], rfl, .inr rfl, .inl rfl, fun e => absurd e no⟩
def sevenH : List Int := [0, 1, 2, 3, 9, 40, 50]
theorem wi_seven {l : List Int} (h : LotOk2 l) : wi l sevenH = true := wi_iff.mpr fun k hk => by
  have := h.hands k hk
  unfold HandOk at this
  simp only [sevenH, List.mem_cons, List.not_mem_nil, or_false]
  omega
theorem mo_cm {n : Nat} (f g : Fc n) : mo f g = cmP f.2⁻¹ g.2⁻¹ := by simp only [mo, cmP, pm_inv_rev, pm_inv_inv]
theorem rest_right {tb : Nat → Addr} {n : Nat} {f g : Fc n} {B : List Int} {S : Sto} {D : Ends3} {w0 w1 w2 w4 w6 w7 w10 w11 : Option W} {ex : XS} (hn : n ≤ 100) (hf : LotOk2 f.1) (hg : LotOk2 g.1) (hB : Both B (f.1 ++ g.1)) (ht : S (tb 0) = some (.tb none))
    (hq : ∀ v7, D.nx ⟨[w0, w1, w2, some (.int n), w4, some (.tup ((pas f g B).map fc)), w6, v7, some (.d (fc f)), some (.d (fc g)), w10, w11], ex⟩ S) :
    rt_law_0 tb D ⟨[w0, w1, w2, some (.int n), w4, some (.tup ((pas f g B).map fc)), w6, w7, some (.d (fc f)), some (.d (fc g)), w10, w11], ex⟩ S := by
  have same : sw (pas f g B) sevenH = f.2 * g.2 := by
    rw [told_same hB, sw_two]
    unfold one_
    rw [if_pos (wi_seven hf), if_pos (wi_seven hg)]
  obtain ⟨a, b, r, e, hr, ha, hab⟩ := pas_is f g B
  rw [e] at same hq ⊢
  have lf := hf.few
  have lg := hg.few
  refine ⟨_, rfl, _, _, rfl, ix_1, _, rfl, _, _, rfl, ix_0, rfl, ⟨n, (g.1, a), (f.1, b), rfl, hn, (show g.1.length + f.1.length ≤ 1000 by omega), ht, fun C hC => ?_⟩⟩
  have again : sw (pas (g.1, a) (f.1, b) C) sevenH = sw [(g.1, a), (f.1, b)] sevenH := told_same hC
  have al : (pas (g.1, a) (f.1, b) C).length ≤ 3 ∧ ∀ h ∈ pas (g.1, a) (f.1, b) C, h.1.length ≤ 1000 ∨ h.1 = C := by
    obtain ⟨x, y, s, e2, hs, _⟩ := pas_is (g.1, a) (f.1, b) C
    rw [e2]
    rcases hs with rfl | rfl
    · exact ⟨by simp, fun h hh => by
        rcases (by simpa using hh : h = (f.1, x) ∨ h = (g.1, y)) with z | z <;> rw [z] <;> left <;> simp <;> omega⟩
    · exact ⟨by simp, fun h hh => by
        rcases (by simpa using hh : h = (f.1, x) ∨ h = (g.1, y) ∨ h = (C, mo (g.1, a) (f.1, b))) with z | z | z <;> rw [z]
        · left; simp; omega
        · left; simp; omega
        · right; rfl⟩
  generalize hL : pas (g.1, a) (f.1, b) C = L at again al
  dsimp only
  refine if_seq (fun Q q => ?_) (if_seq (fun Q q => ?_) (if_seq (fun Q q => ?_) (if_no (fun Q q => ?_) (hq _))))
  · refine ⟨_, rfl, _, _, rfl, len_tp, .inr ⟨_, _, rfl, rfl, rfl, rfl, _, rfl, fun c => ?_, fun _ => q⟩⟩
    have r0 : r = [] := by
      rcases hr with z | z
      · exact z
      · subst z; rw [eqv_int] at c; exact absurd (of_decide_eq_true c) (by simp)
    subst r0
    refine ⟨_, rfl, _, _, rfl, len_tp, .inr ⟨_, _, rfl, rfl, rfl, rfl, _, rfl, fun c2 => ?_, fun _ => q⟩⟩
    have L2 : L.length = 2 := by
      rw [eqv_int, List.length_map] at c2
      exact Int.ofNat.inj (of_decide_eq_true c2)
    have Lr : ∀ h ∈ L, h.1.length ≤ 1000 := by
      obtain ⟨x, y, s, e2, hs, _⟩ := pas_is (g.1, a) (f.1, b) C
      rw [hL] at e2
      subst e2
      have s0 : s = [] := by
        rcases hs with z | z
        · exact z
        · subst z; simp at L2
      subst s0
      intro h hh
      rcases (by simpa using hh : h = (f.1, x) ∨ h = (g.1, y)) with z | z <;> rw [z] <;> simp <;> omega
    refine ⟨_, rfl, sevenH.map PyData.int, rfl, (show 7 ≤ 1000 by decide), _, rfl, ⟨n, L, sevenH, rfl, by omega, by omega, Lr, ⟨_, rfl, _, _, rfl, ix_snd, _, rfl, _, _, rfl, ix_snd, lj_Pm hn (.inr ⟨_, _, rfl, rfl, shaped_ti _, shaped_ti _, _, rfl, ?_⟩)⟩⟩⟩
    rw [no_ti (by rw [again, ← same])]
    exact q
  · refine ⟨_, rfl, _, _, rfl, len_tp, .inr ⟨_, _, rfl, rfl, rfl, rfl, _, rfl, fun c => ?_, fun _ => q⟩⟩
    have r1 : r = [(B, mo f g)] := by
      rcases hr with z | z
      · subst z; rw [eqv_int] at c; exact absurd (of_decide_eq_true c) (by simp)
      · exact z
    subst r1
    refine ⟨_, rfl, _, _, rfl, ix_2, _, _, rfl, ix_snd, _, rfl, _, _, rfl, ix_snd, tb_Pm hn ⟨_, rfl, _, _, rfl, ix_snd, tb_Pm hn (cm_Pm hn (.inr ⟨_, _, rfl, rfl, shaped_ti _, shaped_ti _, _, rfl, ?_⟩))⟩⟩
    rw [no_ti (mo_cm f g)]
    exact q
  · refine ⟨_, rfl, _, _, rfl, ix_fst, _, rfl, _, _, rfl, ix_fst, .inr ⟨_, _, rfl, rfl, shaped_intsT _, shaped_intsT _, _, rfl, fun c => ?_, fun _ => q⟩⟩
    have fg : f.1 = g.1 := lt_eqv.mp c
    refine ⟨_, rfl, _, _, rfl, ix_0, _, _, rfl, ix_snd, _, rfl, _, _, rfl, ix_1, _, _, rfl, ix_snd, jo_Pm hn ⟨_, rfl, _, _, rfl, ix_snd, _, rfl, _, _, rfl, ix_snd, jo_Pm hn (.inr ⟨_, _, rfl, rfl, shaped_ti _, shaped_ti _, _, rfl, ?_⟩)⟩⟩
    rw [no_ti (hab fg)]
    exact q
  · refine ⟨_, rfl, _, _, rfl, ix_0, _, _, rfl, ix_snd, _, rfl, _, _, rfl, ix_snd, .inr ⟨_, _, rfl, rfl, shaped_ti _, shaped_ti _, _, rfl, fun c => ?_, fun _ => q⟩⟩
    have a2 : a = cjP g.2 f.2⁻¹ := by
      rcases ha with z | z
      · exact ne_ti z c
      · exact z
    refine ⟨_, rfl, _, _, rfl, ix_0, _, _, rfl, ix_snd, _, rfl, _, _, rfl, ix_snd, _, rfl, _, _, rfl, ix_snd, tb_Pm hn (cj_Pm hn (.inr ⟨_, _, rfl, rfl, shaped_ti _, shaped_ti _, _, rfl, ?_⟩))⟩
    rw [no_ti a2]
    exact q
theorem lot_union {a b : List Int} (ha : a.Pairwise (· < ·)) (hb : b.Pairwise (· < ·)) : (a ++ b.filter fun k => !decide (k ∈ a)).Nodup ∧ ∀ k, k ∈ a ++ (b.filter fun k => !decide (k ∈ a)) ↔ k ∈ a ++ b := by
  refine ⟨List.nodup_append.mpr ⟨asc_nodup ha, (asc_nodup hb).filter _, fun x hx y hy e => ?_⟩, fun k => ?_⟩
  · have := (List.mem_filter.mp hy).2
    subst e
    simp [hx] at this
  · rw [List.mem_append, List.mem_append, List.mem_filter]
    by_cases h : k ∈ a <;> simp [h]
theorem both_len {a b B : List Int} (ha : LotOk2 a) (hb : LotOk2 b) (hB : Both B (a ++ b)) : B.length ≤ 14 := by
  obtain ⟨nd, mem⟩ := lot_union ha.up hb.up
  have e := both_unique hB (C := (a ++ b.filter fun k => !decide (k ∈ a)).mergeSort (PySem.W.dataLe false fun i : Int => PyData.int i)) ⟨rises nd, fun k => by rw [(List.mergeSort_perm _ _).mem_iff, mem]⟩
  rw [e, List.length_mergeSort, List.length_append]
  have := List.length_filter_le (fun k => !decide (k ∈ a)) b
  have := ha.few
  have := hb.few
  omega
theorem fine_pas {n : Nat} {f g : Fc n} {B : List Int} (hn : n ≤ 100) (hf : LotOk2 f.1) (hg : LotOk2 g.1) (hB : Both B (f.1 ++ g.1)) : Fine 3 180009 (.tuple ((pas f g B).map fc)) := by
  have fB : Fine 1 30000 (lt B) := fine_lt (fun k hk => by
    rcases List.mem_append.mp ((hB.2 k).mp hk) with h | h
    · exact hf.hands k h
    · exact hg.hands k h) (both_len hf hg hB)
  have ff := fine_lt hf.hands (Nat.le_trans hf.few (by decide))
  have fg := fine_lt hg.hands (Nat.le_trans hg.few (by decide))
  obtain ⟨a, b, r, e, hr, _⟩ := pas_is f g B
  rw [e]
  refine Fine.tuple (k := 2) (w := 60002) (fun x hx => ?_) ?_
  · obtain ⟨h, hh, rfl⟩ := List.mem_map.mp hx
    refine fine_fc hn ?_
    rcases List.mem_cons.mp hh with rfl | hh
    · exact fg
    rcases List.mem_cons.mp hh with rfl | hh
    · exact ff
    rcases hr with rfl | rfl
    · exact absurd hh (by simp)
    · rw [List.mem_singleton.mp hh]; exact fB
  · rcases hr with rfl | rfl
    · show (60002 + 1) * 2 ≤ 180009; decide
    · show (60002 + 1) * 3 ≤ 180009; decide
theorem no99 {l : List Int} (h : LotOk2 l) : (99 : Int) ∉ l := fun z => by
  have := h.hands _ z
  unfold HandOk at this
  omega
theorem told_right {tb : Nat → Addr} {dl d1 : Addr} {n : Nat} {f g : Fc n} {S : Sto} {D : Ends3} {w0 w2 w4 w5 w6 w7 w10 w11 : Option W} {ex : XS} (hn : n ≤ 100) (hf : LotOk2 f.1) (hg : LotOk2 g.1) (hD : Deal S dl d1) (ht : S (tb 0) = some (.tb none))
    (hq : ∀ v5 v6 v7 v8 v9 v10 v11, D.nx ⟨[w0, some (.r dl), w2, some (.int n), w4, v5, v6, v7, v8, v9, v10, v11], ex⟩ S) :
    rt_law_2 tb D ⟨[w0, some (.r dl), w2, some (.int n), w4, w5, w6, w7, some (.d (fc f)), some (.d (fc g)), w10, w11], ex⟩ S := by
  have lf := hf.few
  have lg := hg.few
  refine ⟨_, rfl, _, rfl, ⟨n, f, g, rfl, hn, (show f.1.length + g.1.length ≤ 1000 by omega), ht, fun B hB => ?_⟩⟩
  have fine := fine_pas hn hf hg hB
  dsimp only
  have rep := And.intro fine.sho (And.intro (PyData.hasDict_of_canLay _ fine.lay) (And.intro (Nat.le_trans fine.dep (show 3 ≤ 64 by decide)) fine.len))
  refine if_seq (fun Q q => ⟨_, rfl, _, _, rfl, rfl, rep.1, rep.2.1, rep.2.2.1, rep.2.2.2, ⟨_, rfl, _, rfl, _, rfl, ⟨n, f, g, rfl, hn, (show f.1.length + g.1.length ≤ 1000 by omega), hf.up, hg.up, fun B2 hB2 => ?_⟩⟩⟩) ?_
  · have e := both_unique hB2 hB
    subst e
    refine ⟨_, _, rfl, rfl, rep.1, rep.2.1, rep.2.2.1, rep.2.2.2, .inl ⟨_, _, rfl, rfl, _, rfl, ?_⟩⟩
    rw [decide_eq_true rfl]
    exact q
  obtain ⟨nd, mem⟩ := lot_union hf.up hg.up
  refine ⟨_, rfl, _, _, rfl, ix_fst, _, rfl, _, _, rfl, ix_fst, g.1.map PyData.int, .inr rfl, by rw [List.length_map, List.length_map]; omega, ?_⟩
  rw [mw_ints]
  refine lc_out (T := f.1) (by show 11 < 12; decide) (fun k A a => ⟨_, rfl, _, _, rfl, ix_fst, a⟩) ⟨(g.1.filter fun k => !decide (k ∈ f.1)).map PyData.int, by rw [List.map_map]; rfl, _, _, rfl, rfl, f.1.map PyData.int, (g.1.filter fun k => !decide (k ∈ f.1)).map PyData.int, rfl, rfl, by rw [List.length_map, List.length_map]; have := List.length_filter_le (fun k => !decide (k ∈ f.1)) g.1; omega, ?_⟩
  rw [← List.map_append]
  have ll : (f.1 ++ g.1.filter fun k => !decide (k ∈ f.1)).length ≤ 14 := by
    rw [List.length_append]
    have := List.length_filter_le (fun k => !decide (k ∈ f.1)) g.1
    omega
  generalize (f.1 ++ g.1.filter fun k => !decide (k ∈ f.1)) = L at nd mem ll
  refine ⟨_, _, rfl, rfl, ok_ints L, by rw [List.length_map, sizeLine_eq]; omega, dep_ints L, ?_⟩
  rw [sort_ints]
  have lm : (L.mergeSort (PySem.W.dataLe false fun i : Int => PyData.int i)).length ≤ 14 := by rw [List.length_mergeSort]; exact ll
  generalize L.mergeSort (PySem.W.dataLe false fun i : Int => PyData.int i) = L at lm
  refine ⟨_, _, rfl, rfl, ⟨L, rfl, by omega, fun ss hs hT => ⟨ss.map lt, .inl rfl, ?_⟩⟩⟩
  have pl : (pas f g B).length ≤ 3 ∧ ∀ h ∈ pas f g B, h.1.length ≤ 1000 := by
    obtain ⟨a, b, r, e, hr, _⟩ := pas_is f g B
    rw [e]
    have lB := both_len hf hg hB
    rcases hr with rfl | rfl
    · exact ⟨by simp, fun h hh => by
        rcases (by simpa using hh : h = (g.1, a) ∨ h = (f.1, b)) with z | z <;> rw [z] <;> simp <;> omega⟩
    · exact ⟨by simp, fun h hh => by
        rcases (by simpa using hh : h = (g.1, a) ∨ h = (f.1, b) ∨ h = (B, mo f g)) with z | z | z <;> rw [z] <;> simp <;> omega⟩
  refine forGo_inv (fun i τ S' => S' = S ∧ τ.ex = ex ∧ ∃ w6 w10 w11, τ.sl = [w0, some (.r dl), w2, some (.int n), w4, some (.tup ((pas f g B).map fc)), w6, w7, some (.d (fc f)), some (.d (fc g)), w10, w11]) ⟨rfl, rfl, _, _, _, rfl⟩ ?_ ?_
  · rintro i w ⟨sl, ex⟩ S3 hw ⟨rfl, rfl, w6, w10, w11, e⟩
    subst e
    rw [List.map_map] at hw
    obtain ⟨T, hT1, rfl⟩ := get_map hw
    have lT := hT T (List.mem_of_getElem? hT1)
    refine ⟨_, rfl, _, rfl, [fc f, fc g], rfl, (show 2 ≤ 1000 by decide), _, rfl, _, rfl, ⟨n, [f, g], T, rfl, by omega, (show 2 ≤ 1000 by decide), fun h hh => ?_, ?_⟩⟩
    · rcases (by simpa using hh : h = f ∨ h = g) with z | z <;> rw [z] <;> omega
    dsimp only
    refine if_no (fun Q q => ?_) ⟨rfl, rfl, _, _, _, rfl⟩
    refine ⟨_, rfl, _, rfl, _, rfl, ⟨n, pas f g B, T, rfl, by omega, by omega, pl.2, ⟨_, rfl, .inr ⟨_, _, rfl, rfl, shaped_ti _, shaped_ti _, _, rfl, fun c => ne_ti (told_same hB) c, fun _ => ?_⟩⟩⟩⟩
    have e99 : T.map PyData.int ++ [PyData.int 99] = (T ++ [99]).map PyData.int := by rw [List.map_append]; rfl
    refine ⟨_, rfl, _, rfl, _, rfl, [.int 99], rfl, (show 1 ≤ 1000 by decide), T.map PyData.int, [.int 99], rfl, rfl, by rw [List.length_map]; show T.length + 1 ≤ _; omega, ?_⟩
    rw [e99]
    refine ⟨n, pas f g B, T ++ [99], rfl, by omega, by omega, ht, ⟨_, rfl, .inr ⟨_, _, rfl, rfl, shaped_ti _, shaped_ti _, _, rfl, ?_⟩⟩⟩
    rw [no_ti ((told_same hB).trans (sw_more (no99 hf) (no99 hg)))]
    exact q
  · rintro ⟨sl, ex⟩ S3 ⟨rfl, rfl, w6, w10, w11, e⟩
    subst e
    exact rest_right hn hf hg hB ht fun v7 => hq _ _ _ _ _ _ _
theorem cut_one (l : List PyData) : cutG l none (some 1) = l.take 1 := by
  cases l with
  | nil => rfl
  | cons a l =>
    unfold cutG
    have e0 : HT.sIx (a :: l).length 0 none = 0 := rfl
    have e1 : HT.sIx (a :: l).length (a :: l).length (some 1) = 1 := by
      show (if (1 : Int) < 0 then ((1 : Int) + ((a :: l).length : Int)).toNat else min (1 : Int).toNat (a :: l).length) = 1
      rw [if_neg (by decide), List.length_cons]
      show min 1 (l.length + 1) = 1
      omega
    rw [e0, e1]
    rfl
theorem turn_right {tb : Nat → Addr} {dl d1 : Addr} {n : Nat} {i : Int} {gs : List (List Nat)} {S : Sto} {D : Ends3} {w0 w5 w6 w7 w8 w9 w10 w11 : Option W} {ex : XS} (hn : n ≤ 100) (h0 : gs ≠ []) (hl : gs.length ≤ 100) (hg : ∀ a ∈ gs, PmP n a) (hD : Deal S dl d1) (ht : S (tb 0) = some (.tb none)) (a1 : tb 0 ≠ dl) (a2 : tb 0 ≠ d1)
    (hq : ∀ S' v5 v6 v7 v8 v9 v10 v11, Deal S' dl d1 → S' (tb 0) = some (.tb none) → D.nx ⟨[w0, some (.r dl), some (.lst (gs.map ti)), some (.int n), some (.int i), v5, v6, v7, v8, v9, v10, v11], ex⟩ S') :
    rb_law_3 tb D ⟨[w0, some (.r dl), some (.lst (gs.map ti)), some (.int n), some (.int i), w5, w6, w7, w8, w9, w10, w11], ex⟩ S := by
  have keep : ∀ {A B : Sto}, Upto [dl, d1] A B → A (tb 0) = some (.tb none) → B (tb 0) = some (.tb none) := fun u h => (u (tb 0) (by simp [a1, a2])).trans h
  refine ⟨_, rfl, _, rfl, ⟨dl, d1, i, rfl, hD, fun l S1 ol l0 u1 hD1 => ?_⟩⟩
  refine ⟨_, rfl, _, rfl, law_of_tis hD1 h0 (by omega) hg fun x S2 px u2 hD2 => ⟨[lt l, ti x], rfl, (show 2 ≤ 1000 by decide), ?_⟩⟩
  refine ⟨_, rfl, _, rfl, ⟨dl, d1, i, rfl, hD2, fun m S3 om m0 u3 hD3 => ?_⟩⟩
  refine ⟨_, rfl, _, rfl, law_of_tis hD3 h0 (by omega) hg fun y S4 py u4 hD4 => ⟨[lt m, ti y], rfl, (show 2 ≤ 1000 by decide), (show 2 ≤ 1000 by decide), _, _, rfl, _, _, rfl, rfl, ?_⟩⟩
  have t4 := keep u4 (keep u3 (keep u2 (keep u1 ht)))
  have wide : ∀ {l : List Int}, LotOk l → LotOk2 l := fun h => ⟨h.up, fun k hk => .inl (h.hands k hk), Nat.le_succ_of_le h.few⟩
  have next : ∀ (m2 : List Int) (S' : Sto), LotOk2 m2 → Deal S' dl d1 → S' (tb 0) = some (.tb none) → rt_law_2 tb D ⟨[w0, some (.r dl), some (.lst (gs.map ti)), some (.int n), some (.int i), w5, w6, w7, some (.d (fc (l, (⟨x, px⟩ : Pm n)))), some (.d (fc (m2, (⟨y, py⟩ : Pm n)))), w10, w11], ex⟩ S' := fun m2 S' o2 d2 t2 =>
    told_right hn (wide ol) o2 d2 t2 fun v5 v6 v7 v8 v9 v10 v11 => hq S' v5 v6 v7 v8 v9 v10 v11 d2 t2
  refine ⟨_, rfl, law_any_lt hD4 (by decide) (by decide) fun r S5 _ _ u5 hD5 => .inr ⟨_, _, rfl, rfl, rfl, rfl, _, rfl, fun c => ?_, fun c => next m S5 (wide om) hD5 (keep u5 t4)⟩⟩
  have t5 := keep u5 t4
  refine ⟨_, rfl, _, rfl, _, _, rfl, ix_fst, _, rfl, _, _, rfl, ix_fst, 1, rfl, l.map PyData.int, rfl, _, rfl, _, _, rfl, ix_fst, [.int 50], rfl, (show 1 ≤ 1000 by decide), l.map PyData.int, [.int 50], rfl, rfl, by rw [List.length_map]; show l.length + 1 ≤ _; have := ol.few; omega, ?_⟩
  have e50 : l.map PyData.int ++ [PyData.int 50] = (l ++ [50]).map PyData.int := by rw [List.map_append]; rfl
  rw [e50, cut_one, ← List.map_take]
  refine ⟨[lt l, lt (l.take 1), lt (l ++ [50])], rfl, (show 3 ≤ 1000 by decide), law_of_list hD5 (by simp) (show 3 < 2 ^ 60 by decide) fun d hd S6 u6 hD6 => ?_⟩
  obtain ⟨m2, rfl, o2⟩ : ∃ m2, d = lt m2 ∧ LotOk2 m2 := by
    rcases (by simpa using hd : d = lt l ∨ d = lt (l.take 1) ∨ d = lt (l ++ [50])) with e | e | e
    · exact ⟨l, e, wide ol⟩
    · exact ⟨l.take 1, e, ⟨ol.up.sublist (List.take_sublist 1 l), fun k hk => .inl (ol.hands k (List.mem_of_mem_take hk)), Nat.le_trans (List.length_take_le' 1 l) (Nat.le_succ_of_le ol.few)⟩⟩
    · refine ⟨l ++ [50], e, ⟨List.pairwise_append.mpr ⟨ol.up, by simp, fun a ha b hb => ?_⟩, fun k hk => ?_, by rw [List.length_append]; exact Nat.succ_le_succ ol.few⟩⟩
      · rw [(List.mem_singleton.mp hb)]
        have := ol.hands a ha
        unfold HandOk at this
        omega
      · rcases List.mem_append.mp hk with h | h
        · exact .inl (ol.hands k h)
        · exact Or.inr (List.mem_singleton.mp h)
  refine ⟨_, rfl, _, _, rfl, ix_snd, [lt m2, ti y], rfl, (show 2 ≤ 1000 by decide), ?_⟩
  exact next m2 S6 o2 hD6 (keep u6 t5)
theorem sem_law (tb : Nat → Addr) : ∀ ws S Q E, sp_law tb ws S Q E → rd_law tb (DQ Q) (start3 12 ws E) S := fun ws S Q E ⟨ns, e, hl, ht, hQ⟩ => by
  subst e
  refine ⟨_, rfl, ⟨ns, rfl, hl, fun dl d1 S1 f1 f2 u1 hD1 => ?_⟩⟩
  have a1 : tb 0 ≠ dl := fun z => by rw [z, f1] at ht; cases ht
  have a2 : tb 0 ≠ d1 := fun z => by rw [z, f2] at ht; cases ht
  have keep : ∀ {A B : Sto}, Upto [dl, d1] A B → A (tb 0) = some (.tb none) → B (tb 0) = some (.tb none) := fun u h => (u (tb 0) (by simp [a1, a2])).trans h
  have t1 := keep u1 ht
  refine ⟨_, rfl, ⟨dl, d1, rfl, hD1, fun n as S2 n1 n2 as0 asl asP u2 hD2 => ?_⟩⟩
  have t2 := keep u2 t1
  obtain ⟨b0, br, rfl⟩ : ∃ b r, as = b :: r := by
    match as, as0 with
    | b :: r, _ => exact ⟨b, r, rfl⟩
  refine ⟨_, rfl, _, _, rfl, ix_head (.inl rfl), _, _, rfl, len_ti, ?_⟩
  rw [(asP b0 List.mem_cons_self).1]
  refine ⟨6, rfl, by decide, ?_⟩
  generalize b0 :: br = as at as0 asl asP
  refine forGo_inv (fun i τ S' => Deal S' dl d1 ∧ S' (tb 0) = some (.tb none) ∧ ∃ (gs : List (List Nat)) (w0 w4 : Option W), τ.sl = [w0, some (.r dl), some (.lst (gs.map ti)), some (.int n), w4, none, none, none, none, none, none, none] ∧ gs ≠ [] ∧ gs.length ≤ 3 + i ∧ ∀ a ∈ gs, PmP n a) ⟨hD2, t2, as, _, _, rfl, as0, asl, asP⟩ ?_ ?_
  · rintro i w ⟨sl, ex⟩ S3 hw ⟨hD3, t3, gs, w0, w4, e, g0, gl, gP⟩
    subst e
    obtain ⟨hi, rfl⟩ := rgW_at hw
    have hi : i < 6 := hi
    refine ⟨_, rfl, _, rfl, _, rfl, law_of_tis hD3 g0 (by omega) gP fun a S4 pa u4 hD4 => ⟨_, rfl, _, rfl, law_of_tis hD4 g0 (by omega) gP fun b S5 pb u5 hD5 => join_P pa pb (by omega) ⟨[ti (jn a b)], rfl, (show 1 ≤ 1000 by decide), gs.map ti, [ti (jn a b)], rfl, rfl, by rw [List.length_map, sizeLine_eq]; show gs.length + 1 ≤ _; omega, hD5, keep u5 (keep u4 t3), gs ++ [jn a b], w0, some (.int (0 + (i : Nat))), by rw [List.map_append]; rfl, by simp, by rw [List.length_append]; show gs.length + 1 ≤ _; omega, fun c hc => ?_⟩⟩⟩
    rcases (List.mem_append.mp hc) with h | h
    · exact gP c h
    · rw [List.mem_singleton.mp h]; exact jn_ok pa pb
  · rintro ⟨sl, ex⟩ S3 ⟨hD3, t3, gs, w0, w4, e, g0, gl, gP⟩
    subst e
    rw [rgW_len] at gl
    have gl : gs.length ≤ 9 := gl
    refine ⟨_, rfl, _, rfl, _, rfl, ⟨dl, d1, n, rfl, by omega, hD3, fun a S4 pa u4 hD4 => ⟨_, rfl, still_ti (by omega) ⟨[ti a, ti (List.range n)], rfl, (show 2 ≤ 1000 by decide), gs.map ti, [ti a, ti (List.range n)], rfl, rfl, by rw [List.length_map, sizeLine_eq]; show gs.length + 2 ≤ _; omega, ?_⟩⟩⟩⟩
    have eg : gs.map ti ++ [ti a, ti (List.range n)] = (gs ++ [a, List.range n]).map ti := by rw [List.map_append]; rfl
    rw [eg]
    have gP2 : ∀ c ∈ gs ++ [a, List.range n], PmP n c := fun c hc => by
      rcases (List.mem_append.mp hc) with h | h
      · exact gP c h
      · rcases (by simpa using h : c = a ∨ c = List.range n) with q | q <;> rw [q]
        · exact pa
        · exact hm_ok
    have gl2 : (gs ++ [a, List.range n]).length ≤ 100 := by rw [List.length_append]; show gs.length + 2 ≤ _; omega
    have g02 : gs ++ [a, List.range n] ≠ [] := by simp
    generalize gs ++ [a, List.range n] = hs at gP2 gl2 g02
    refine ⟨7, rfl, by decide, ?_⟩
    refine forGo_inv (fun i τ S' => Deal S' dl d1 ∧ S' (tb 0) = some (.tb none) ∧ ∃ (w0 w4 w5 w6 w7 w8 w9 w10 w11 : Option W), τ.sl = [w0, some (.r dl), some (.lst (hs.map ti)), some (.int n), w4, w5, w6, w7, w8, w9, w10, w11]) ⟨hD4, keep u4 t3, _, _, _, _, _, _, _, _, _, rfl⟩ ?_ ?_
    · rintro j w ⟨sl, ex⟩ S5 hw ⟨hD5, t5, w0, w4, w5, w6, w7, w8, w9, w10, w11, e⟩
      subst e
      obtain ⟨hj, rfl⟩ := rgW_at hw
      show rb_law_3 tb _ ⟨[w0, some (.r dl), some (.lst (hs.map ti)), some (.int n), some (.int (0 + (j : Nat))), w5, w6, w7, w8, w9, w10, w11], ex⟩ S5
      refine turn_right (i := 0 + (j : Nat)) (by omega) g02 gl2 gP2 hD5 t5 a1 a2 fun S6 v5 v6 v7 v8 v9 v10 v11 hD6 t6 => ?_
      exact ⟨hD6, t6, _, _, _, _, _, _, _, _, _, rfl⟩
    · rintro ⟨sl, ex⟩ S5 ⟨hD5, t5, w0, w4, w5, w6, w7, w8, w9, w10, w11, e⟩
      exact ⟨_, Sub.refl _, hQ _⟩

end Lk24

namespace Lk24
open PySem PySem.Spec L2 H3
open PyProof.Rows hiding St
theorem ok_law_any {P : Program} {w : World} {K : PySem.W.Frag} {mg : Str → Option Value} {base : Heap} (T : Txt K mg)  : FnG P w K mg base (L2.CX P w) 1 T.f_law_any T.d_law_any P_law_any (LSp K sp_law_any) := by
  refine fn3 T.F_law_any sc_law_any rd_law_any len_law_any sem_law_any ?_
  intro X cdv A outer s H E hX gd hr tk hp
  have sc := sc_law_any
  subst hX
  exact (pss3_cons (ps3_while hp (PW.pt (pw3_and (pt3_cmp (op_neX (un64 hr)) l_ne (pe3_ix (pv3 0) pi3) (pe3_lstD pa3_nil) (nomark _)) (pw3_and1 (pt3_cmp (op_eqX (un64 hr)) l_eq (pe3_ix (pe3_ix (pv3 0) pi3) (pe3_neg pi3)) pi3 (nomark _))))) (pss3_one (ps3_expr (pe3_bm0 PySem.F.slot_list_pop PySem.F.type_list_pop mt_pop l_pop (pe3_ix (pv3 0) pi3))))) (pss3_cons (ps3_if (pt3_cmp (op_neX (un64 hr)) l_ne (pe3_ix (pv3 0) pi3) (pe3_lstD pa3_nil) (nomark _)) (pss3_cons (ps3_set 2 sc.nd rfl (pe3_Ty call_int1 l_int rfl T.z_int (by decide +kernel) (pa3_cons (pe3_bm0 PySem.F.slot_list_pop PySem.F.type_list_pop mt_pop l_pop (pe3_ix (pv3 0) pi3)) pa3_nil))) (pss3_cons (ps3_expr (pe3_bm PySem.F.slot_list_append PySem.F.type_list_append mt_append l_append (pe3_ix (pv3 0) pi3) (pa3_cons (pe3_op op_fdivW l_div (pv3 2) (pv3 1)) pa3_nil))) (pss3_one (ps3_ret (pe3_op op_mod l_mod (pv3 2) (pv3 1)))))) pss3_nil) (pss3_cons (ps3_asg (pe3_op op_mod l_mod (pe3_Ty call_int1 l_int rfl T.z_int (by decide +kernel) (pa3_cons (pe3_op op_add l_add (pe3_op op_mul l_mul (pe3_ix (pv3 0) pi3) pi3) pi3) pa3_nil)) pi3) (pg3_sub (pv3 0) pi3)) (pss3_one (ps3_ret (pe3_op op_mod l_mod (pe3_Ty call_int1 l_int rfl T.z_int (by decide +kernel) (pa3_cons (pe3_op op_fdivW l_div (pe3_ix (pv3 0) pi3) pi3) pa3_nil)) (pv3 1)))))))
theorem ok_law_join {P : Program} {w : World} {K : PySem.W.Frag} {mg : Str → Option Value} {base : Heap} (T : Txt K mg)  : FnG P w K mg base (L2.CX P w) 1 T.f_law_join T.d_law_join P_law_join (LSp K sp_law_join) := by
  refine fn3 T.F_law_join sc_law_join rd_law_join len_law_join sem_law_join ?_
  intro X cdv A outer s H E hX gd hr tk hp
  have sc := sc_law_join
  subst hX
  exact (pss3_one (ps3_ret (pe3_Ty call_tuple_ofN l_tuple rfl T.z_tuple (by decide +kernel) (pa3_cons (pe3_lcD [("state", 2)] rfl sc.nd (pi3_seq (pv3 0)) (blkOk_by (N := N_law_join) (sc := defScope s_law_join) (by decide +kernel)) lgl_name wp_name (fun _ _ _ _ _ => (pg_name (i := 2) sc.nd rfl (Or.inl rfl))) (fun _ _ _ _ _ => pts3_nil) (fun _ _ _ _ _ => (pe3_ix (pv3 1) (pv3 2)))) pa3_nil))))
theorem ok_law_all {P : Program} {w : World} {K : PySem.W.Frag} {mg : Str → Option Value} {base : Heap} (T : Txt K mg) (G_law_join : FnG P w K mg base (L2.CX P w) 1 T.f_law_join T.d_law_join P_law_join (LSp K sp_law_join)) : FnG P w K mg base (L2.CX P w) 2 T.f_law_all T.d_law_all P_law_all (LSp K sp_law_all) := by
  refine fn3 T.F_law_all sc_law_all rd_law_all len_law_all sem_law_all ?_
  intro X cdv A outer s H E hX gd hr tk hp
  have sc := sc_law_all
  subst hX
  exact (pss3_cons (ps3_set 2 sc.nd rfl (pe3_tupRg rfl rfl T.z_tuple (prg3_1 rfl T.z_range (pv3 1)))) (pss3_cons (ps3_for hp rfl (pi3_seq (pv3 0)) (pg3_name 3 sc.nd) (pss3_one (ps3_set 2 sc.nd rfl (pe3_call G_law_join gd (hr.mono (by decide)) tk rfl T.m_law_join T.F_law_join.kp (b_law_join T.F_law_join) (pa3_cons (pv3 2) (pa3_cons (pv3 3) pa3_nil)))))) (pss3_one (ps3_ret (pv3 2)))))
theorem ok_law_back {P : Program} {w : World} {K : PySem.W.Frag} {mg : Str → Option Value} {base : Heap} (T : Txt K mg)  : FnG P w K mg base (L2.CX P w) 1 T.f_law_back T.d_law_back P_law_back (LSp K sp_law_back) := by
  refine fn3 T.F_law_back sc_law_back rd_law_back len_law_back sem_law_back ?_
  intro X cdv A outer s H E hX gd hr tk hp
  have sc := sc_law_back
  subst hX
  exact (pss3_cons (ps3_set 1 sc.nd rfl (pe3_op op_rep l_repM (pe3_lstM (pa3_cons pi3 pa3_nil)) (pe3_B call_len3 l_len rfl T.z_len (by decide +kernel) (pa3_cons (pv3 0) pa3_nil)))) (pss3_cons (ps3_for hp rfl (pi3_range1 rfl T.z_range (pa3_cons (pe3_B call_len3 l_len rfl T.z_len (by decide +kernel) (pa3_cons (pv3 0) pa3_nil)) pa3_nil)) (pg3_name 2 sc.nd) (pss3_one (ps3_asg (pv3 2) (pg3_sub (pv3 1) (pe3_ix (pv3 0) (pv3 2)))))) (pss3_one (ps3_ret (pe3_Ty call_tuple_ofN l_tuple rfl T.z_tuple (by decide +kernel) (pa3_cons (pv3 1) pa3_nil))))))
theorem ok_law_due {P : Program} {w : World} {K : PySem.W.Frag} {mg : Str → Option Value} {base : Heap} (T : Txt K mg) (G_law_all : FnG P w K mg base (L2.CX P w) 2 T.f_law_all T.d_law_all P_law_all (LSp K sp_law_all)) (G_law_back : FnG P w K mg base (L2.CX P w) 1 T.f_law_back T.d_law_back P_law_back (LSp K sp_law_back)) : FnG P w K mg base (L2.CX P w) 3 T.f_law_due T.d_law_due P_law_due (LSp K sp_law_due) := by
  refine fn3 T.F_law_due sc_law_due rd_law_due len_law_due sem_law_due ?_
  intro X cdv A outer s H E hX gd hr tk hp
  have sc := sc_law_due
  subst hX
  exact (pss3_cons (ps3_asg (pe3_tup (pa3_cons (pv3 0) (pa3_cons (pv3 1) pa3_nil))) (pg3_tup rfl (pgs3_cons (pg3_tup rfl (pgs3_cons (pg3_name 5 sc.nd) (pgs3_cons (pg3_name 6 sc.nd) pgs3_nil))) (pgs3_cons (pg3_tup rfl (pgs3_cons (pg3_name 7 sc.nd) (pgs3_cons (pg3_name 8 sc.nd) pgs3_nil))) pgs3_nil)))) (pss3_cons (ps3_if (pt3_cmp (op_eqX (un64 hr)) l_eq (pe3_lcD [("hand", 9)] rfl sc.nd (pi3_seq (pv3 7)) (blkOk_by (N := N_law_due) (sc := defScope s_law_due) (by decide +kernel)) lgl_name wp_name (fun _ _ _ _ _ => (pg_name (i := 9) sc.nd rfl (Or.inl rfl))) (fun _ _ _ _ _ => (pts3_one (pt3_cmp (op_notInV (un70 hr)) l_in (pv3 9) (pv3 5) (by rfl)))) (fun _ _ _ _ _ => (pv3 9))) (pe3_lstD pa3_nil) (nomark _)) (pss3_one (ps3_ret (pe3_tup (pa3_cons (pe3_tup (pa3_cons (pv3 7) (pa3_cons (pv3 8) pa3_nil))) (pa3_cons (pe3_tup (pa3_cons (pv3 5) (pa3_cons (pe3_call G_law_all gd (hr.mono (by decide)) tk rfl T.m_law_all T.F_law_all.kp (b_law_all T.F_law_all) (pa3_cons (pe3_lstD (pa3_cons (pe3_call G_law_back gd (hr.mono (by decide)) tk rfl T.m_law_back T.F_law_back.kp (b_law_back T.F_law_back) (pa3_cons (pv3 8) pa3_nil)) (pa3_cons (pv3 6) (pa3_cons (pv3 8) pa3_nil)))) (pa3_cons (pv3 2) pa3_nil))) pa3_nil))) pa3_nil))))) pss3_nil) (pss3_cons (ps3_if (pt3_cmp (op_eqX (un64 hr)) l_eq (pe3_lcD [("hand", 9)] rfl sc.nd (pi3_seq (pv3 5)) (blkOk_by (N := N_law_due) (sc := defScope s_law_due) (by decide +kernel)) lgl_name wp_name (fun _ _ _ _ _ => (pg_name (i := 9) sc.nd rfl (Or.inl rfl))) (fun _ _ _ _ _ => (pts3_one (pt3_cmp (op_notInV (un70 hr)) l_in (pv3 9) (pv3 7) (by rfl)))) (fun _ _ _ _ _ => (pv3 9))) (pe3_lstD pa3_nil) (nomark _)) (pss3_one (ps3_ret (pe3_tup (pa3_cons (pe3_tup (pa3_cons (pv3 7) (pa3_cons (pe3_call G_law_all gd (hr.mono (by decide)) tk rfl T.m_law_all T.F_law_all.kp (b_law_all T.F_law_all) (pa3_cons (pe3_lstD (pa3_cons (pv3 6) (pa3_cons (pv3 8) (pa3_cons (pe3_call G_law_back gd (hr.mono (by decide)) tk rfl T.m_law_back T.F_law_back.kp (b_law_back T.F_law_back) (pa3_cons (pv3 6) pa3_nil)) pa3_nil)))) (pa3_cons (pv3 2) pa3_nil))) pa3_nil))) (pa3_cons (pe3_tup (pa3_cons (pv3 5) (pa3_cons (pv3 6) pa3_nil))) pa3_nil))))) pss3_nil) (pss3_cons (ps3_set 3 sc.nd rfl (pe3_call G_law_all gd (hr.mono (by decide)) tk rfl T.m_law_all T.F_law_all.kp (b_law_all T.F_law_all) (pa3_cons (pe3_lstD (pa3_cons (pe3_call G_law_back gd (hr.mono (by decide)) tk rfl T.m_law_back T.F_law_back.kp (b_law_back T.F_law_back) (pa3_cons (pv3 6) pa3_nil)) (pa3_cons (pe3_call G_law_back gd (hr.mono (by decide)) tk rfl T.m_law_back T.F_law_back.kp (b_law_back T.F_law_back) (pa3_cons (pv3 8) pa3_nil)) (pa3_cons (pv3 6) (pa3_cons (pv3 8) pa3_nil))))) (pa3_cons (pv3 2) pa3_nil)))) (pss3_cons (ps3_set 4 sc.nd rfl (pe3_Ty call_tuple_ofN l_tuple rfl T.z_tuple (by decide +kernel) (pa3_cons (pe3_B (cr_sortV (un70 hr)) l_sortV rfl T.z_sorted (by decide +kernel) (pa3_cons (pe3_op op_catN l_catT (pv3 5) (pe3_Ty call_tuple_ofN l_tuple rfl T.z_tuple (by decide +kernel) (pa3_cons (pe3_lcD [("hand", 9)] rfl sc.nd (pi3_seq (pv3 7)) (blkOk_by (N := N_law_due) (sc := defScope s_law_due) (by decide +kernel)) lgl_name wp_name (fun _ _ _ _ _ => (pg_name (i := 9) sc.nd rfl (Or.inl rfl))) (fun _ _ _ _ _ => (pts3_one (pt3_cmp (op_notInV (un70 hr)) l_in (pv3 9) (pv3 5) (by rfl)))) (fun _ _ _ _ _ => (pv3 9))) pa3_nil))) pa3_nil)) pa3_nil))) (pss3_cons (ps3_if (pt3_cmp (op_eqX (un64 hr)) l_eq (pv3 3) (pe3_tupRg rfl rfl T.z_tuple (prg3_1 rfl T.z_range (pv3 2))) (nomark _)) (pss3_one (ps3_ret (pe3_tup (pa3_cons (pe3_tup (pa3_cons (pv3 7) (pa3_cons (pv3 8) pa3_nil))) (pa3_cons (pe3_tup (pa3_cons (pv3 5) (pa3_cons (pv3 6) pa3_nil))) pa3_nil))))) pss3_nil) (pss3_one (ps3_ret (pe3_tup (pa3_cons (pe3_tup (pa3_cons (pv3 7) (pa3_cons (pv3 8) pa3_nil))) (pa3_cons (pe3_tup (pa3_cons (pv3 5) (pa3_cons (pv3 6) pa3_nil))) (pa3_cons (pe3_tup (pa3_cons (pv3 4) (pa3_cons (pv3 3) pa3_nil))) pa3_nil))))))))))))
theorem ok_law_of {P : Program} {w : World} {K : PySem.W.Frag} {mg : Str → Option Value} {base : Heap} (T : Txt K mg) (G_law_any : FnG P w K mg base (L2.CX P w) 1 T.f_law_any T.d_law_any P_law_any (LSp K sp_law_any)) : FnG P w K mg base (L2.CX P w) 2 T.f_law_of T.d_law_of P_law_of (LSp K sp_law_of) := by
  refine fn3 T.F_law_of sc_law_of rd_law_of len_law_of sem_law_of ?_
  intro X cdv A outer s H E hX gd hr tk hp
  have sc := sc_law_of
  subst hX
  exact (pss3_one (ps3_ret (pe3_ix (pv3 1) (pe3_call G_law_any gd (hr.mono (by decide)) tk rfl T.m_law_any T.F_law_any.kp (b_law_any T.F_law_any) (pa3_cons (pv3 0) (pa3_cons (pe3_B call_len3 l_len rfl T.z_len (by decide +kernel) (pa3_cons (pv3 1) pa3_nil)) pa3_nil))))))
theorem ok_law_lot {P : Program} {w : World} {K : PySem.W.Frag} {mg : Str → Option Value} {base : Heap} (T : Txt K mg) (G_law_any : FnG P w K mg base (L2.CX P w) 1 T.f_law_any T.d_law_any P_law_any (LSp K sp_law_any)) (G_law_of : FnG P w K mg base (L2.CX P w) 2 T.f_law_of T.d_law_of P_law_of (LSp K sp_law_of)) : FnG P w K mg base (L2.CX P w) 3 T.f_law_lot T.d_law_lot P_law_lot (LSp K sp_law_lot) := by
  refine fn3 T.F_law_lot sc_law_lot rd_law_lot len_law_lot sem_law_lot ?_
  intro X cdv A outer s H E hX gd hr tk hp
  have sc := sc_law_lot
  subst hX
  exact (pss3_cons (ps3_set 2 sc.nd rfl (pe3_lstD pa3_nil)) (pss3_cons (ps3_if (PW.pt (pw3_and (pt3_cmp op_gt l_gt (pv3 1) pi3 (nomark _)) (pw3_and1 (pt3_cmp (op_eqX (un64 hr)) l_eq (pe3_call G_law_any gd (hr.mono (by decide)) tk rfl T.m_law_any T.F_law_any.kp (b_law_any T.F_law_any) (pa3_cons (pv3 0) (pa3_cons pi3 pa3_nil))) pi3 (nomark _))))) (pss3_cons (ps3_set 2 sc.nd rfl (pe3_lcD [("hand", 3)] rfl sc.nd (pi3_seq (pe3_tup (pa3_cons pi3 (pa3_cons pi3 (pa3_cons pi3 (pa3_cons pi3 (pa3_cons pi3 (pa3_cons pi3 pa3_nil)))))))) (blkOk_by (N := N_law_lot) (sc := defScope s_law_lot) (by decide +kernel)) lgl_name wp_name (fun _ _ _ _ _ => (pg_name (i := 3) sc.nd rfl (Or.inl rfl))) (fun _ _ _ _ _ => (pts3_one (pt3_cmp op_gt l_gt (pe3_call G_law_any gd (hr.mono (by decide)) takes0 rfl T.m_law_any T.F_law_any.kp (b_law_any T.F_law_any) (pa3_cons (pv3 0) (pa3_cons pi3 pa3_nil))) pi3 (nomark _)))) (fun _ _ _ _ _ => (pv3 3)))) (pss3_one (ps3_ret (pe3_Ty call_tuple_ofN l_tuple rfl T.z_tuple (by decide +kernel) (pa3_cons (pe3_if (pt3_cmp (op_neX (un64 hr)) l_ne (pv3 2) (pe3_lstD pa3_nil) (nomark _)) (pv3 2) (pe3_lstD (pa3_cons pi3 pa3_nil))) pa3_nil))))) pss3_nil) (pss3_cons (ps3_for hp rfl (pi3_range1 rfl T.z_range (pa3_cons (pe3_op op_add l_add pi3 (pe3_call G_law_any gd (hr.mono (by decide)) tk rfl T.m_law_any T.F_law_any.kp (b_law_any T.F_law_any) (pa3_cons (pv3 0) (pa3_cons pi3 pa3_nil)))) pa3_nil)) (pg3_name 1 sc.nd) (pss3_cons (ps3_set 3 sc.nd rfl (pe3_call G_law_of gd (hr.mono (by decide)) tk rfl T.m_law_of T.F_law_of.kp (b_law_of T.F_law_of) (pa3_cons (pv3 0) (pa3_cons (pe3_lstD (pa3_cons pi3 (pa3_cons pi3 (pa3_cons pi3 (pa3_cons pi3 (pa3_cons pi3 (pa3_cons pi3 pa3_nil))))))) pa3_nil)))) (pss3_one (ps3_set 2 sc.nd rfl (pe3_op op_catL l_catL (pv3 2) (pe3_lcD [("one", 4)] rfl sc.nd (pi3_seq (pe3_lstD (pa3_cons pi3 pa3_nil))) (blkOk_by (N := N_law_lot) (sc := defScope s_law_lot) (by decide +kernel)) lgl_name wp_name (fun _ _ _ _ _ => (pg_name (i := 4) sc.nd rfl (Or.inl rfl))) (fun _ _ _ _ _ => (pts3_one (pt3_cmp (op_notInV (un70 hr)) l_in (pv3 3) (pv3 2) (by rfl)))) (fun _ _ _ _ _ => (pv3 3)))))))) (pss3_one (ps3_ret (pe3_Ty call_tuple_ofN l_tuple rfl T.z_tuple (by decide +kernel) (pa3_cons (pe3_B (cr_sortD (un70 hr)) l_sorted rfl T.z_sorted (by decide +kernel) (pa3_cons (pv3 2) pa3_nil)) pa3_nil)))))))
theorem ok_law_shown {P : Program} {w : World} {K : PySem.W.Frag} {mg : Str → Option Value} {base : Heap} (T : Txt K mg) (G_law_join : FnG P w K mg base (L2.CX P w) 1 T.f_law_join T.d_law_join P_law_join (LSp K sp_law_join)) : FnG P w K mg base (L2.CX P w) 2 T.f_law_shown T.d_law_shown P_law_shown (LSp K sp_law_shown) := by
  refine fn3 T.F_law_shown sc_law_shown rd_law_shown len_law_shown sem_law_shown ?_
  intro X cdv A outer s H E hX gd hr tk hp
  have sc := sc_law_shown
  subst hX
  exact (pss3_cons (ps3_set 3 sc.nd rfl (pe3_tupRg rfl rfl T.z_tuple (prg3_1 rfl T.z_range (pv3 2)))) (pss3_cons (ps3_for hp rfl (pi3_seq (pv3 0)) (pg3_tup rfl (pgs3_cons (pg3_name 4 sc.nd) (pgs3_cons (pg3_name 5 sc.nd) pgs3_nil))) (pss3_one (ps3_if (pt3_cmp (op_eqX (un64 hr)) l_eq (pe3_lcD [("hand", 6)] rfl sc.nd (pi3_seq (pv3 4)) (blkOk_by (N := N_law_shown) (sc := defScope s_law_shown) (by decide +kernel)) lgl_name wp_name (fun _ _ _ _ _ => (pg_name (i := 6) sc.nd rfl (Or.inl rfl))) (fun _ _ _ _ _ => (pts3_one (pt3_cmp (op_notInV (un70 hr)) l_in (pv3 6) (pv3 1) (by rfl)))) (fun _ _ _ _ _ => (pv3 6))) (pe3_lstD pa3_nil) (nomark _)) (pss3_one (ps3_set 3 sc.nd rfl (pe3_call G_law_join gd (hr.mono (by decide)) tk rfl T.m_law_join T.F_law_join.kp (b_law_join T.F_law_join) (pa3_cons (pv3 3) (pa3_cons (pv3 5) pa3_nil))))) pss3_nil))) (pss3_one (ps3_ret (pv3 3)))))
theorem ok_law_shuffled {P : Program} {w : World} {K : PySem.W.Frag} {mg : Str → Option Value} {base : Heap} (T : Txt K mg) (G_law_any : FnG P w K mg base (L2.CX P w) 1 T.f_law_any T.d_law_any P_law_any (LSp K sp_law_any)) : FnG P w K mg base (L2.CX P w) 2 T.f_law_shuffled T.d_law_shuffled P_law_shuffled (LSp K sp_law_shuffled) := by
  refine fn3 T.F_law_shuffled sc_law_shuffled rd_law_shuffled len_law_shuffled sem_law_shuffled ?_
  intro X cdv A outer s H E hX gd hr tk hp
  have sc := sc_law_shuffled
  subst hX
  exact (pss3_cons (ps3_par 3 4 rfl sc.nd (pa3_cons (pe3_lstRgM rfl rfl T.z_list (prg3_1 rfl T.z_range (pv3 1))) (pa3_cons (pe3_lstM pa3_nil) pa3_nil))) (pss3_cons (ps3_for hp rfl (pi3_range1 rfl T.z_range (pa3_cons (pv3 1) pa3_nil)) (pg3_name 2 sc.nd) (pss3_one (ps3_expr (pe3_bm PySem.F.slot_list_append PySem.F.type_list_append mt_append l_append (pv3 4) (pa3_cons (pe3_bm PySem.F.slot_list_pop PySem.F.type_list_pop mt_popAt l_popAt (pv3 3) (pa3_cons (pe3_call G_law_any gd (hr.mono (by decide)) tk rfl T.m_law_any T.F_law_any.kp (b_law_any T.F_law_any) (pa3_cons (pv3 0) (pa3_cons (pe3_B call_len3 l_len rfl T.z_len (by decide +kernel) (pa3_cons (pv3 3) pa3_nil)) pa3_nil))) pa3_nil)) pa3_nil))))) (pss3_one (ps3_ret (pe3_Ty call_tuple_ofN l_tuple rfl T.z_tuple (by decide +kernel) (pa3_cons (pv3 4) pa3_nil))))))
theorem ok_law_source {P : Program} {w : World} {K : PySem.W.Frag} {mg : Str → Option Value} {base : Heap} (T : Txt K mg)  : FnG P w K mg base (L2.CX P w) 1 T.f_law_source T.d_law_source P_law_source (LSp K sp_law_source) := by
  refine fn3 T.F_law_source sc_law_source rd_law_source len_law_source sem_law_source ?_
  intro X cdv A outer s H E hX gd hr tk hp
  have sc := sc_law_source
  subst hX
  exact (pss3_cons (ps3_setLcD 1 [("cell", 3)] rfl sc.nd (sw_true rfl rfl rfl (by decide +kernel)) (pi3_seq (pe3_slice sl_list l_slL (pv3 0) po3_none (po3_some pi3))) (blkOk_by (N := N_law_source) (sc := defScope s_law_source) (by decide +kernel)) lgl_name wp_name (fun _ _ _ _ _ => (pg_name (i := 3) sc.nd rfl (Or.inl rfl))) (fun _ _ _ _ _ => pts3_nil) (fun _ _ _ _ _ => (pe3_B call_abs l_abs rfl T.z_abs (by decide +kernel) (pa3_cons (pe3_Ty call_int1 l_int rfl T.z_int (by decide +kernel) (pa3_cons (pv3 3) pa3_nil)) pa3_nil)))) (pss3_cons (ps3_set 2 sc.nd rfl pi3) (pss3_cons (ps3_for hp rfl (pi3_seq (pv3 1)) (pg3_name 3 sc.nd) (pss3_one (ps3_set 2 sc.nd rfl (pe3_op op_mod l_mod (pe3_Ty call_int1 l_int rfl T.z_int (by decide +kernel) (pa3_cons (pe3_op op_add l_add (pe3_op op_add l_add (pe3_op op_mul l_mul (pv3 2) pi3) (pe3_op op_mod l_mod (pv3 3) pi3)) pi3) pa3_nil)) pi3)))) (pss3_one (ps3_ret (pe3_lstM (pa3_cons (pe3_revM (pe3_lcD [("cell", 3)] rfl sc.nd (pi3_seq (pv3 1)) (blkOk_by (N := N_law_source) (sc := defScope s_law_source) (by decide +kernel)) lgl_name wp_name (fun _ _ _ _ _ => (pg_name (i := 3) sc.nd rfl (Or.inl rfl))) (fun _ _ _ _ _ => (pts3_one (pt3_cmp op_ge l_ge (pv3 3) (pe3_op op_pow l_pow pi3 pi3) (nomark _)))) (fun _ _ _ _ _ => (pv3 3)))) (pa3_cons (pv3 2) pa3_nil))))))))
theorem ok_law_subsets {P : Program} {w : World} {K : PySem.W.Frag} {mg : Str → Option Value} {base : Heap} (T : Txt K mg)  : FnG P w K mg base (L2.CX P w) 1 T.f_law_subsets T.d_law_subsets P_law_subsets (LSp K sp_law_subsets) := by
  refine fn3 T.F_law_subsets sc_law_subsets rd_law_subsets len_law_subsets sem_law_subsets ?_
  intro X cdv A outer s H E hX gd hr tk hp
  have sc := sc_law_subsets
  subst hX
  exact (pss3_cons (ps3_set 1 sc.nd rfl (pe3_lstD (pa3_cons (pe3_tup pa3_nil) pa3_nil))) (pss3_cons (ps3_for hp rfl (pi3_seq (pv3 0)) (pg3_name 2 sc.nd) (pss3_one (ps3_set 1 sc.nd rfl (pe3_op op_catL l_catL (pv3 1) (pe3_lcD [("one", 3)] rfl sc.nd (pi3_seq (pv3 1)) (blkOk_by (N := N_law_subsets) (sc := defScope s_law_subsets) (by decide +kernel)) lgl_name wp_name (fun _ _ _ _ _ => (pg_name (i := 3) sc.nd rfl (Or.inl rfl))) (fun _ _ _ _ _ => pts3_nil) (fun _ _ _ _ _ => (pe3_op op_catN l_catT (pv3 3) (pe3_tup (pa3_cons (pv3 2) pa3_nil))))))))) (pss3_one (ps3_ret (pv3 1)))))
theorem ok_law_turnings {P : Program} {w : World} {K : PySem.W.Frag} {mg : Str → Option Value} {base : Heap} (T : Txt K mg) (G_law_any : FnG P w K mg base (L2.CX P w) 1 T.f_law_any T.d_law_any P_law_any (LSp K sp_law_any)) (G_law_join : FnG P w K mg base (L2.CX P w) 1 T.f_law_join T.d_law_join P_law_join (LSp K sp_law_join)) (G_law_back : FnG P w K mg base (L2.CX P w) 1 T.f_law_back T.d_law_back P_law_back (LSp K sp_law_back)) (G_law_of : FnG P w K mg base (L2.CX P w) 2 T.f_law_of T.d_law_of P_law_of (LSp K sp_law_of)) (G_law_shuffled : FnG P w K mg base (L2.CX P w) 2 T.f_law_shuffled T.d_law_shuffled P_law_shuffled (LSp K sp_law_shuffled)) : FnG P w K mg base (L2.CX P w) 3 T.f_law_turnings T.d_law_turnings P_law_turnings (LSp K sp_law_turnings) := by
  refine fn3 T.F_law_turnings sc_law_turnings rd_law_turnings len_law_turnings sem_law_turnings ?_
  intro X cdv A outer s H E hX gd hr tk hp
  have sc := sc_law_turnings
  subst hX
  exact (pss3_cons (ps3_set 1 sc.nd rfl (pe3_lstD (pa3_cons (pe3_lstD (pa3_cons (pe3_tup (pa3_cons pi3 (pa3_cons pi3 (pa3_cons pi3 (pa3_cons pi3 (pa3_cons pi3 (pa3_cons pi3 (pa3_cons pi3 (pa3_cons pi3 pa3_nil))))))))) (pa3_cons (pe3_tup (pa3_cons pi3 (pa3_cons pi3 (pa3_cons pi3 (pa3_cons pi3 (pa3_cons pi3 (pa3_cons pi3 (pa3_cons pi3 (pa3_cons pi3 pa3_nil))))))))) pa3_nil))) (pa3_cons (pe3_lstD (pa3_cons (pe3_tup (pa3_cons pi3 (pa3_cons pi3 (pa3_cons pi3 (pa3_cons pi3 (pa3_cons pi3 (pa3_cons pi3 (pa3_cons pi3 (pa3_cons pi3 pa3_nil))))))))) (pa3_cons (pe3_tup (pa3_cons pi3 (pa3_cons pi3 (pa3_cons pi3 (pa3_cons pi3 (pa3_cons pi3 (pa3_cons pi3 (pa3_cons pi3 (pa3_cons pi3 pa3_nil))))))))) pa3_nil))) (pa3_cons (pe3_lstD (pa3_cons (pe3_tup (pa3_cons pi3 (pa3_cons pi3 (pa3_cons pi3 (pa3_cons pi3 pa3_nil))))) (pa3_cons (pe3_tup (pa3_cons pi3 (pa3_cons pi3 (pa3_cons pi3 (pa3_cons pi3 pa3_nil))))) pa3_nil))) (pa3_cons (pe3_lstD (pa3_cons (pe3_tup (pa3_cons pi3 (pa3_cons pi3 (pa3_cons pi3 (pa3_cons pi3 pa3_nil))))) (pa3_cons (pe3_tup (pa3_cons pi3 (pa3_cons pi3 (pa3_cons pi3 (pa3_cons pi3 pa3_nil))))) pa3_nil))) (pa3_cons (pe3_lstD (pa3_cons (pe3_tup (pa3_cons pi3 (pa3_cons pi3 (pa3_cons pi3 pa3_nil)))) (pa3_cons (pe3_tup (pa3_cons pi3 (pa3_cons pi3 (pa3_cons pi3 pa3_nil)))) pa3_nil))) (pa3_cons (pe3_lstD (pa3_cons (pe3_tup (pa3_cons pi3 (pa3_cons pi3 (pa3_cons pi3 (pa3_cons pi3 (pa3_cons pi3 pa3_nil)))))) (pa3_cons (pe3_tup (pa3_cons pi3 (pa3_cons pi3 (pa3_cons pi3 (pa3_cons pi3 (pa3_cons pi3 pa3_nil)))))) pa3_nil))) (pa3_cons (pe3_lstD (pa3_cons (pe3_tup (pa3_cons pi3 (pa3_cons pi3 (pa3_cons pi3 (pa3_cons pi3 pa3_nil))))) (pa3_cons (pe3_tup (pa3_cons pi3 (pa3_cons pi3 (pa3_cons pi3 (pa3_cons pi3 pa3_nil))))) (pa3_cons (pe3_tup (pa3_cons pi3 (pa3_cons pi3 (pa3_cons pi3 (pa3_cons pi3 pa3_nil))))) pa3_nil)))) (pa3_cons (pe3_lstD (pa3_cons (pe3_tup (pa3_cons pi3 (pa3_cons pi3 (pa3_cons pi3 (pa3_cons pi3 (pa3_cons pi3 (pa3_cons pi3 pa3_nil))))))) (pa3_cons (pe3_tup (pa3_cons pi3 (pa3_cons pi3 (pa3_cons pi3 (pa3_cons pi3 (pa3_cons pi3 (pa3_cons pi3 pa3_nil))))))) (pa3_cons (pe3_tup (pa3_cons pi3 (pa3_cons pi3 (pa3_cons pi3 (pa3_cons pi3 (pa3_cons pi3 (pa3_cons pi3 pa3_nil))))))) pa3_nil)))) pa3_nil)))))))))) (pss3_cons (ps3_if (pt3_cmp (op_eqX (un64 hr)) l_eq (pe3_call G_law_any gd (hr.mono (by decide)) tk rfl T.m_law_any T.F_law_any.kp (b_law_any T.F_law_any) (pa3_cons (pv3 0) (pa3_cons pi3 pa3_nil))) pi3 (nomark _)) (pss3_cons (ps3_set 4 sc.nd rfl (pe3_call G_law_of gd (hr.mono (by decide)) tk rfl T.m_law_of T.F_law_of.kp (b_law_of T.F_law_of) (pa3_cons (pv3 0) (pa3_cons (pe3_lstD (pa3_cons pi3 (pa3_cons pi3 (pa3_cons pi3 (pa3_cons pi3 (pa3_cons pi3 pa3_nil)))))) pa3_nil)))) (pss3_one (ps3_ret (pe3_lcD [("turn", 6)] rfl sc.nd (pi3_range1 rfl T.z_range (pa3_cons (pe3_op op_add l_add pi3 (pe3_call G_law_any gd (hr.mono (by decide)) tk rfl T.m_law_any T.F_law_any.kp (b_law_any T.F_law_any) (pa3_cons (pv3 0) (pa3_cons pi3 pa3_nil)))) pa3_nil)) (blkOk_by (N := N_law_turnings) (sc := defScope s_law_turnings) (by decide +kernel)) lgl_name wp_name (fun _ _ _ _ _ => (pg_name (i := 6) sc.nd rfl (Or.inl rfl))) (fun _ _ _ _ _ => pts3_nil) (fun _ _ _ _ _ => (pe3_call G_law_shuffled gd (hr.mono (by decide)) takes0 rfl T.m_law_shuffled T.F_law_shuffled.kp (b_law_shuffled T.F_law_shuffled) (pa3_cons (pv3 0) (pa3_cons (pv3 4) pa3_nil)))))))) pss3_nil) (pss3_cons (ps3_set 2 sc.nd rfl (pe3_call G_law_of gd (hr.mono (by decide)) tk rfl T.m_law_of T.F_law_of.kp (b_law_of T.F_law_of) (pa3_cons (pv3 0) (pa3_cons (pv3 1) pa3_nil)))) (pss3_cons (ps3_set 3 sc.nd rfl (pe3_call G_law_shuffled gd (hr.mono (by decide)) tk rfl T.m_law_shuffled T.F_law_shuffled.kp (b_law_shuffled T.F_law_shuffled) (pa3_cons (pv3 0) (pa3_cons (pe3_B call_len3 l_len rfl T.z_len (by decide +kernel) (pa3_cons (pe3_ix (pv3 2) pi3) pa3_nil)) pa3_nil)))) (pss3_cons (ps3_setLcM 2 [("one", 5)] rfl sc.nd (sw_true rfl rfl rfl (by decide +kernel)) (pi3_seq (pv3 2)) (blkOk_by (N := N_law_turnings) (sc := defScope s_law_turnings) (by decide +kernel)) lgl_name wp_name (fun _ _ _ _ _ => (pg_name (i := 5) sc.nd rfl (Or.inl rfl))) (fun _ _ _ _ _ => pts3_nil) (fun _ _ _ _ _ => (pe3_call G_law_join gd (hr.mono (by decide)) takes0 rfl T.m_law_join T.F_law_join.kp (b_law_join T.F_law_join) (pa3_cons (pe3_call G_law_join gd (hr.mono (by decide)) takes0 rfl T.m_law_join T.F_law_join.kp (b_law_join T.F_law_join) (pa3_cons (pe3_call G_law_back gd (hr.mono (by decide)) takes0 rfl T.m_law_back T.F_law_back.kp (b_law_back T.F_law_back) (pa3_cons (pv3 3) pa3_nil)) (pa3_cons (pv3 5) pa3_nil))) (pa3_cons (pv3 3) pa3_nil))))) (pss3_cons (ps3_if (pt3_cmp (op_eqX (un64 hr)) l_eq (pe3_call G_law_any gd (hr.mono (by decide)) tk rfl T.m_law_any T.F_law_any.kp (b_law_any T.F_law_any) (pa3_cons (pv3 0) (pa3_cons pi3 pa3_nil))) pi3 (nomark _)) (pss3_one (ps3_asg (pe3_call G_law_join gd (hr.mono (by decide)) tk rfl T.m_law_join T.F_law_join.kp (b_law_join T.F_law_join) (pa3_cons (pe3_ix (pv3 2) pi3) (pa3_cons (pe3_ix (pv3 2) pi3) pa3_nil))) (pg3_sub (pv3 2) pi3))) pss3_nil) (pss3_frz 2 (pss3_one (ps3_ret (pe3_if (pt3_cmp (op_eqX (un64 hr)) l_eq (pe3_call G_law_any gd (hr.mono (by decide)) tk rfl T.m_law_any T.F_law_any.kp (b_law_any T.F_law_any) (pa3_cons (pv3 0) (pa3_cons pi3 pa3_nil))) pi3 (nomark _)) (pe3_rev (pv3 2)) (pv3 2)))))))))))
theorem ok_joined {P : Program} {w : World} {K : PySem.W.Frag} {mg : Str → Option Value} {base : Heap} (T : Txt K mg)  : FnG P w K mg base (L2.CX P w) 1 T.f_joined T.d_joined P_joined (LSp K sp_joined) := by
  refine fn3 T.F_joined sc_joined rd_joined len_joined sem_joined ?_
  intro X cdv A outer s H E hX gd hr tk hp
  have sc := sc_joined
  subst hX
  exact (pss3_one (ps3_ret (pe3_Ty call_tuple_ofN l_tuple rfl T.z_tuple (by decide +kernel) (pa3_cons (pe3_lcD [("state", 2)] rfl sc.nd (pi3_seq (pv3 0)) (blkOk_by (N := N_joined) (sc := defScope s_joined) (by decide +kernel)) lgl_name wp_name (fun _ _ _ _ _ => (pg_name (i := 2) sc.nd rfl (Or.inl rfl))) (fun _ _ _ _ _ => pts3_nil) (fun _ _ _ _ _ => (pe3_ix (pv3 1) (pv3 2)))) pa3_nil))))
theorem ok_is_turning {P : Program} {w : World} {K : PySem.W.Frag} {mg : Str → Option Value} {base : Heap} (T : Txt K mg)  : FnG P w K mg base (L2.CX P w) 1 T.f_is_turning T.d_is_turning P_is_turning (LSp K sp_is_turning) := by
  refine fn3 T.F_is_turning sc_is_turning rd_is_turning len_is_turning sem_is_turning ?_
  intro X cdv A outer s H E hX gd hr tk hp
  have sc := sc_is_turning
  subst hX
  exact (pss3_one (ps3_ret (pe3_cmp (op_eqX (un64 hr)) l_eq (pe3_lenSet rfl rfl T.z_len rfl T.z_set (pv3 0)) (pe3_B call_len3 l_len rfl T.z_len (by decide +kernel) (pa3_cons (pv3 0) pa3_nil)) (nomark _))))
theorem ok_need_turning {P : Program} {w : World} {K : PySem.W.Frag} {mg : Str → Option Value} {base : Heap} (T : Txt K mg) (G_is_turning : FnG P w K mg base (L2.CX P w) 1 T.f_is_turning T.d_is_turning P_is_turning (LSp K sp_is_turning)) : FnG P w K mg base (L2.CX P w) 2 T.f_need_turning T.d_need_turning P_need_turning (LSp K sp_need_turning) := by
  refine fn3 T.F_need_turning sc_need_turning rd_need_turning len_need_turning sem_need_turning ?_
  intro X cdv A outer s H E hX gd hr tk hp
  have sc := sc_need_turning
  subst hX
  exact (pss3_one (ps3_if (pt3_not (pt3_val (pe3_call G_is_turning gd (hr.mono (by decide)) tk rfl T.m_is_turning T.F_is_turning.kp (b_is_turning T.F_is_turning) (pa3_cons (pv3 0) pa3_nil)))) (pss3_one ps3_never) pss3_nil))
theorem ok_turned_back {P : Program} {w : World} {K : PySem.W.Frag} {mg : Str → Option Value} {base : Heap} (T : Txt K mg) (G_need_turning : FnG P w K mg base (L2.CX P w) 2 T.f_need_turning T.d_need_turning P_need_turning (LSp K sp_need_turning)) : FnG P w K mg base (L2.CX P w) 3 T.f_turned_back T.d_turned_back P_turned_back (LSp K sp_turned_back) := by
  refine fn3 T.F_turned_back sc_turned_back rd_turned_back len_turned_back sem_turned_back ?_
  intro X cdv A outer s H E hX gd hr tk hp
  have sc := sc_turned_back
  subst hX
  exact (pss3_cons (ps3_expr (pe3_call G_need_turning gd (hr.mono (by decide)) tk rfl T.m_need_turning T.F_need_turning.kp (b_need_turning T.F_need_turning) (pa3_cons (pv3 0) pa3_nil))) (pss3_one (ps3_ret (pe3_Ty call_tuple_ofN l_tuple rfl T.z_tuple (by decide +kernel) (pa3_cons (pe3_lcD [("state", 1)] rfl sc.nd (pi3_range1 rfl T.z_range (pa3_cons (pe3_B call_len3 l_len rfl T.z_len (by decide +kernel) (pa3_cons (pv3 0) pa3_nil)) pa3_nil)) (blkOk_by (N := N_turned_back) (sc := defScope s_turned_back) (by decide +kernel)) lgl_name wp_name (fun _ _ _ _ _ => (pg_name (i := 1) sc.nd rfl (Or.inl rfl))) (fun _ _ _ _ _ => pts3_nil) (fun _ _ _ _ _ => (pe3_tm PySem.F.slot_tuple_index PySem.F.type_tuple_index mt_tupIndexI l_tix (pv3 0) (pa3_cons (pv3 1) pa3_nil)))) pa3_nil)))))
theorem ok_commutator {P : Program} {w : World} {K : PySem.W.Frag} {mg : Str → Option Value} {base : Heap} (T : Txt K mg) (G_joined : FnG P w K mg base (L2.CX P w) 1 T.f_joined T.d_joined P_joined (LSp K sp_joined)) (G_turned_back : FnG P w K mg base (L2.CX P w) 3 T.f_turned_back T.d_turned_back P_turned_back (LSp K sp_turned_back)) : FnG P w K mg base (L2.CX P w) 4 T.f_commutator T.d_commutator P_commutator (LSp K sp_commutator) := by
  refine fn3 T.F_commutator sc_commutator rd_commutator len_commutator sem_commutator ?_
  intro X cdv A outer s H E hX gd hr tk hp
  have sc := sc_commutator
  subst hX
  exact (pss3_one (ps3_ret (pe3_call G_joined gd (hr.mono (by decide)) tk rfl T.m_joined T.F_joined.kp (b_joined T.F_joined) (pa3_cons (pe3_call G_joined gd (hr.mono (by decide)) tk rfl T.m_joined T.F_joined.kp (b_joined T.F_joined) (pa3_cons (pv3 0) (pa3_cons (pv3 1) pa3_nil))) (pa3_cons (pe3_call G_joined gd (hr.mono (by decide)) tk rfl T.m_joined T.F_joined.kp (b_joined T.F_joined) (pa3_cons (pe3_call G_turned_back gd (hr.mono (by decide)) tk rfl T.m_turned_back T.F_turned_back.kp (b_turned_back T.F_turned_back) (pa3_cons (pv3 0) pa3_nil)) (pa3_cons (pe3_call G_turned_back gd (hr.mono (by decide)) tk rfl T.m_turned_back T.F_turned_back.kp (b_turned_back T.F_turned_back) (pa3_cons (pv3 1) pa3_nil)) pa3_nil))) pa3_nil)))))
theorem ok_conjugate {P : Program} {w : World} {K : PySem.W.Frag} {mg : Str → Option Value} {base : Heap} (T : Txt K mg) (G_joined : FnG P w K mg base (L2.CX P w) 1 T.f_joined T.d_joined P_joined (LSp K sp_joined)) (G_turned_back : FnG P w K mg base (L2.CX P w) 3 T.f_turned_back T.d_turned_back P_turned_back (LSp K sp_turned_back)) : FnG P w K mg base (L2.CX P w) 4 T.f_conjugate T.d_conjugate P_conjugate (LSp K sp_conjugate) := by
  refine fn3 T.F_conjugate sc_conjugate rd_conjugate len_conjugate sem_conjugate ?_
  intro X cdv A outer s H E hX gd hr tk hp
  have sc := sc_conjugate
  subst hX
  exact (pss3_one (ps3_ret (pe3_call G_joined gd (hr.mono (by decide)) tk rfl T.m_joined T.F_joined.kp (b_joined T.F_joined) (pa3_cons (pe3_call G_joined gd (hr.mono (by decide)) tk rfl T.m_joined T.F_joined.kp (b_joined T.F_joined) (pa3_cons (pe3_call G_turned_back gd (hr.mono (by decide)) tk rfl T.m_turned_back T.F_turned_back.kp (b_turned_back T.F_turned_back) (pa3_cons (pv3 1) pa3_nil)) (pa3_cons (pv3 0) pa3_nil))) (pa3_cons (pv3 1) pa3_nil)))))
theorem ok_is_within {P : Program} {w : World} {K : PySem.W.Frag} {mg : Str → Option Value} {base : Heap} (T : Txt K mg) (tb : Nat → Addr) {c : Addr} (hcd : T.d_is_within.code = .ref c) (TB : GxR.TabB base mg c (tb 0))  : FnG P w K mg base (L2.CX P w) 1 T.f_is_within T.d_is_within P_is_within (LSp K (sp_is_within tb)) := by
  refine fn3c T.F_is_within sc_is_within (rd_is_within tb) (len_is_within tb) (sem_is_within tb) ?_
  intro X cdv A outer s H E hX hc1 gd hr tk hp
  have hcode : cdv = .ref c := hc1.symm.trans hcd
  have sc := sc_is_within
  subst hX
  exact (pss3_one (ps3_ret (pe3_allIn 1 hr rfl T.z_all TB hcode (genS_by rfl rfl rfl (by decide +kernel) rfl rfl (by decide +kernel)) (pv3 0) rfl rfl rfl)))
theorem ok_still {P : Program} {w : World} {K : PySem.W.Frag} {mg : Str → Option Value} {base : Heap} (T : Txt K mg)  : FnG P w K mg base (L2.CX P w) 1 T.f_still T.d_still P_still (LSp K sp_still) := by
  refine fn3 T.F_still sc_still rd_still len_still sem_still ?_
  intro X cdv A outer s H E hX gd hr tk hp
  have sc := sc_still
  subst hX
  exact (pss3_one (ps3_ret (pe3_tupRg rfl rfl T.z_tuple (prg3_1 rfl T.z_range (pv3 0)))))
theorem ok_passed {P : Program} {w : World} {K : PySem.W.Frag} {mg : Str → Option Value} {base : Heap} (T : Txt K mg) (tb : Nat → Addr) (G_joined : FnG P w K mg base (L2.CX P w) 1 T.f_joined T.d_joined P_joined (LSp K sp_joined)) (G_turned_back : FnG P w K mg base (L2.CX P w) 3 T.f_turned_back T.d_turned_back P_turned_back (LSp K sp_turned_back)) (G_conjugate : FnG P w K mg base (L2.CX P w) 4 T.f_conjugate T.d_conjugate P_conjugate (LSp K sp_conjugate)) (G_is_within : FnG P w K mg base (L2.CX P w) 1 T.f_is_within T.d_is_within P_is_within (LSp K (sp_is_within tb))) (G_still : FnG P w K mg base (L2.CX P w) 1 T.f_still T.d_still P_still (LSp K sp_still)) : FnG P w K mg base (L2.CX P w) 5 T.f_passed T.d_passed P_passed (LSp K (sp_passed tb)) := by
  refine fn3 T.F_passed sc_passed (rd_passed tb) (len_passed tb) (sem_passed tb) ?_
  intro X cdv A outer s H E hX gd hr tk hp
  have sc := sc_passed
  subst hX
  exact (pss3_cons (ps3_asg (pe3_tup (pa3_cons (pv3 0) (pa3_cons (pv3 1) pa3_nil))) (pg3_tup rfl (pgs3_cons (pg3_tup rfl (pgs3_cons (pg3_name 3 sc.nd) (pgs3_cons (pg3_name 4 sc.nd) pgs3_nil))) (pgs3_cons (pg3_tup rfl (pgs3_cons (pg3_name 5 sc.nd) (pgs3_cons (pg3_name 6 sc.nd) pgs3_nil))) pgs3_nil)))) (pss3_cons (ps3_if (pt3_val (pe3_call G_is_within gd (hr.mono (by decide)) tk rfl T.m_is_within T.F_is_within.kp (b_is_within T.F_is_within) (pa3_cons (pv3 5) (pa3_cons (pv3 3) pa3_nil)))) (pss3_one (ps3_ret (pe3_tup (pa3_cons (pv3 1) (pa3_cons (pe3_tup (pa3_cons (pv3 3) (pa3_cons (pe3_call G_conjugate gd (hr.mono (by decide)) tk rfl T.m_conjugate T.F_conjugate.kp (b_conjugate T.F_conjugate) (pa3_cons (pv3 4) (pa3_cons (pv3 6) pa3_nil))) pa3_nil))) pa3_nil))))) pss3_nil) (pss3_cons (ps3_if (pt3_val (pe3_call G_is_within gd (hr.mono (by decide)) tk rfl T.m_is_within T.F_is_within.kp (b_is_within T.F_is_within) (pa3_cons (pv3 3) (pa3_cons (pv3 5) pa3_nil)))) (pss3_one (ps3_ret (pe3_tup (pa3_cons (pe3_tup (pa3_cons (pv3 5) (pa3_cons (pe3_call G_conjugate gd (hr.mono (by decide)) tk rfl T.m_conjugate T.F_conjugate.kp (b_conjugate T.F_conjugate) (pa3_cons (pv3 6) (pa3_cons (pe3_call G_turned_back gd (hr.mono (by decide)) tk rfl T.m_turned_back T.F_turned_back.kp (b_turned_back T.F_turned_back) (pa3_cons (pv3 4) pa3_nil)) pa3_nil))) pa3_nil))) (pa3_cons (pv3 0) pa3_nil))))) pss3_nil) (pss3_cons (ps3_set 2 sc.nd rfl (pe3_call G_joined gd (hr.mono (by decide)) tk rfl T.m_joined T.F_joined.kp (b_joined T.F_joined) (pa3_cons (pe3_call G_turned_back gd (hr.mono (by decide)) tk rfl T.m_turned_back T.F_turned_back.kp (b_turned_back T.F_turned_back) (pa3_cons (pe3_call G_joined gd (hr.mono (by decide)) tk rfl T.m_joined T.F_joined.kp (b_joined T.F_joined) (pa3_cons (pv3 6) (pa3_cons (pv3 4) pa3_nil))) pa3_nil)) (pa3_cons (pe3_call G_joined gd (hr.mono (by decide)) tk rfl T.m_joined T.F_joined.kp (b_joined T.F_joined) (pa3_cons (pv3 4) (pa3_cons (pv3 6) pa3_nil))) pa3_nil)))) (pss3_cons (ps3_if (pt3_cmp (op_eqX (un64 hr)) l_eq (pv3 2) (pe3_call G_still gd (hr.mono (by decide)) tk rfl T.m_still T.F_still.kp (b_still T.F_still) (pa3_cons (pe3_B call_len3 l_len rfl T.z_len (by decide +kernel) (pa3_cons (pv3 2) pa3_nil)) pa3_nil)) (nomark _)) (pss3_one (ps3_ret (pe3_tup (pa3_cons (pv3 1) (pa3_cons (pv3 0) pa3_nil))))) pss3_nil) (pss3_one (ps3_ret (pe3_tup (pa3_cons (pv3 1) (pa3_cons (pv3 0) (pa3_cons (pe3_tup (pa3_cons (pe3_Ty call_tuple_ofN l_tuple rfl T.z_tuple (by decide +kernel) (pa3_cons (pe3_sortSet hr rfl rfl T.z_sorted rfl T.z_set (pe3_op op_catN l_catT (pv3 3) (pv3 5))) pa3_nil)) (pa3_cons (pv3 2) pa3_nil))) pa3_nil)))))))))))
theorem ok_joined_all {P : Program} {w : World} {K : PySem.W.Frag} {mg : Str → Option Value} {base : Heap} (T : Txt K mg) (G_joined : FnG P w K mg base (L2.CX P w) 1 T.f_joined T.d_joined P_joined (LSp K sp_joined)) (G_still : FnG P w K mg base (L2.CX P w) 1 T.f_still T.d_still P_still (LSp K sp_still)) : FnG P w K mg base (L2.CX P w) 2 T.f_joined_all T.d_joined_all P_joined_all (LSp K sp_joined_all) := by
  refine fn3 T.F_joined_all sc_joined_all rd_joined_all len_joined_all sem_joined_all ?_
  intro X cdv A outer s H E hX gd hr tk hp
  have sc := sc_joined_all
  subst hX
  exact (pss3_cons (ps3_set 2 sc.nd rfl (pe3_call G_still gd (hr.mono (by decide)) tk rfl T.m_still T.F_still.kp (b_still T.F_still) (pa3_cons (pv3 0) pa3_nil))) (pss3_cons (ps3_for hp rfl (pi3_seq (pv3 1)) (pg3_name 3 sc.nd) (pss3_one (ps3_set 2 sc.nd rfl (pe3_call G_joined gd (hr.mono (by decide)) tk rfl T.m_joined T.F_joined.kp (b_joined T.F_joined) (pa3_cons (pv3 2) (pa3_cons (pv3 3) pa3_nil)))))) (pss3_one (ps3_ret (pv3 2)))))
theorem ok_shown_of {P : Program} {w : World} {K : PySem.W.Frag} {mg : Str → Option Value} {base : Heap} (T : Txt K mg) (tb : Nat → Addr) (G_is_within : FnG P w K mg base (L2.CX P w) 1 T.f_is_within T.d_is_within P_is_within (LSp K (sp_is_within tb))) (G_joined_all : FnG P w K mg base (L2.CX P w) 2 T.f_joined_all T.d_joined_all P_joined_all (LSp K sp_joined_all)) : FnG P w K mg base (L2.CX P w) 3 T.f_shown_of T.d_shown_of P_shown_of (LSp K (sp_shown_of tb)) := by
  refine fn3 T.F_shown_of sc_shown_of (rd_shown_of tb) (len_shown_of tb) (sem_shown_of tb) ?_
  intro X cdv A outer s H E hX gd hr tk hp
  have sc := sc_shown_of
  subst hX
  exact (pss3_one (ps3_ret (pe3_call G_joined_all gd (hr.mono (by decide)) tk rfl T.m_joined_all T.F_joined_all.kp (b_joined_all T.F_joined_all) (pa3_cons (pv3 0) (pa3_cons (pe3_lcD [("one", 3), ("turning", 4)] rfl sc.nd (pi3_seq (pv3 1)) (blkOk_by (N := N_shown_of) (sc := defScope s_shown_of) (by decide +kernel)) (lgl_tup (lgls_cons (lgls_cons lgls_nil))) (wp_tup (wps_cons (wps_cons wps_nil))) (fun _ _ _ _ _ => (pg_tup rfl (pgs_cons (pg_name (i := 3) sc.nd rfl (Or.inl rfl)) (pgs_cons (pg_name (i := 4) sc.nd rfl (Or.inl rfl)) pgs_nil)))) (fun _ _ _ _ _ => (pts3_one (pt3_val (pe3_call G_is_within gd (hr.mono (by decide)) takes0 rfl T.m_is_within T.F_is_within.kp (b_is_within T.F_is_within) (pa3_cons (pv3 3) (pa3_cons (pv3 2) pa3_nil)))))) (fun _ _ _ _ _ => (pv3 4))) pa3_nil)))))
theorem ok_law {P : Program} {w : World} {K : PySem.W.Frag} {mg : Str → Option Value} {base : Heap} (T : Txt K mg) (tb : Nat → Addr) (G_law_any : FnG P w K mg base (L2.CX P w) 1 T.f_law_any T.d_law_any P_law_any (LSp K sp_law_any)) (G_law_join : FnG P w K mg base (L2.CX P w) 1 T.f_law_join T.d_law_join P_law_join (LSp K sp_law_join)) (G_law_due : FnG P w K mg base (L2.CX P w) 3 T.f_law_due T.d_law_due P_law_due (LSp K sp_law_due)) (G_law_of : FnG P w K mg base (L2.CX P w) 2 T.f_law_of T.d_law_of P_law_of (LSp K sp_law_of)) (G_law_lot : FnG P w K mg base (L2.CX P w) 3 T.f_law_lot T.d_law_lot P_law_lot (LSp K sp_law_lot)) (G_law_shown : FnG P w K mg base (L2.CX P w) 2 T.f_law_shown T.d_law_shown P_law_shown (LSp K sp_law_shown)) (G_law_shuffled : FnG P w K mg base (L2.CX P w) 2 T.f_law_shuffled T.d_law_shuffled P_law_shuffled (LSp K sp_law_shuffled)) (G_law_source : FnG P w K mg base (L2.CX P w) 1 T.f_law_source T.d_law_source P_law_source (LSp K sp_law_source)) (G_law_subsets : FnG P w K mg base (L2.CX P w) 1 T.f_law_subsets T.d_law_subsets P_law_subsets (LSp K sp_law_subsets)) (G_law_turnings : FnG P w K mg base (L2.CX P w) 3 T.f_law_turnings T.d_law_turnings P_law_turnings (LSp K sp_law_turnings)) (G_joined : FnG P w K mg base (L2.CX P w) 1 T.f_joined T.d_joined P_joined (LSp K sp_joined)) (G_turned_back : FnG P w K mg base (L2.CX P w) 3 T.f_turned_back T.d_turned_back P_turned_back (LSp K sp_turned_back)) (G_commutator : FnG P w K mg base (L2.CX P w) 4 T.f_commutator T.d_commutator P_commutator (LSp K sp_commutator)) (G_conjugate : FnG P w K mg base (L2.CX P w) 4 T.f_conjugate T.d_conjugate P_conjugate (LSp K sp_conjugate)) (G_still : FnG P w K mg base (L2.CX P w) 1 T.f_still T.d_still P_still (LSp K sp_still)) (G_passed : FnG P w K mg base (L2.CX P w) 5 T.f_passed T.d_passed P_passed (LSp K (sp_passed tb))) (G_shown_of : FnG P w K mg base (L2.CX P w) 3 T.f_shown_of T.d_shown_of P_shown_of (LSp K (sp_shown_of tb))) : FnG P w K mg base (L2.CX P w) 6 T.f_law T.d_law P_law (LSp K (sp_law tb)) := by
  refine fn3 T.F_law sc_law (rd_law tb) (len_law tb) (sem_law tb) ?_
  intro X cdv A outer s H E hX gd hr tk hp
  have sc := sc_law
  subst hX
  exact (pss3_cons (ps3_set 1 sc.nd rfl (pe3_call G_law_source gd (hr.mono (by decide)) tk rfl T.m_law_source T.F_law_source.kp (b_law_source T.F_law_source) (pa3_cons (pv3 0) pa3_nil))) (pss3_cons (ps3_set 2 sc.nd rfl (pe3_call G_law_turnings gd (hr.mono (by decide)) tk rfl T.m_law_turnings T.F_law_turnings.kp (b_law_turnings T.F_law_turnings) (pa3_cons (pv3 1) pa3_nil))) (pss3_cons (ps3_set 3 sc.nd rfl (pe3_B call_len3 l_len rfl T.z_len (by decide +kernel) (pa3_cons (pe3_ix (pv3 2) pi3) pa3_nil))) (pss3_cons (ps3_for hp rfl (pi3_range1 rfl T.z_range (pa3_cons pi3 pa3_nil)) (pg3_name 4 sc.nd) (pss3_one (ps3_set 2 sc.nd rfl (pe3_op op_catL l_catL (pv3 2) (pe3_lstD (pa3_cons (pe3_call G_law_join gd (hr.mono (by decide)) tk rfl T.m_law_join T.F_law_join.kp (b_law_join T.F_law_join) (pa3_cons (pe3_call G_law_of gd (hr.mono (by decide)) tk rfl T.m_law_of T.F_law_of.kp (b_law_of T.F_law_of) (pa3_cons (pv3 1) (pa3_cons (pv3 2) pa3_nil))) (pa3_cons (pe3_call G_law_of gd (hr.mono (by decide)) tk rfl T.m_law_of T.F_law_of.kp (b_law_of T.F_law_of) (pa3_cons (pv3 1) (pa3_cons (pv3 2) pa3_nil))) pa3_nil))) pa3_nil)))))) (pss3_cons (ps3_set 2 sc.nd rfl (pe3_op op_catL l_catL (pv3 2) (pe3_lstD (pa3_cons (pe3_call G_law_shuffled gd (hr.mono (by decide)) tk rfl T.m_law_shuffled T.F_law_shuffled.kp (b_law_shuffled T.F_law_shuffled) (pa3_cons (pv3 1) (pa3_cons (pv3 3) pa3_nil))) (pa3_cons (pe3_call G_still gd (hr.mono (by decide)) tk rfl T.m_still T.F_still.kp (b_still T.F_still) (pa3_cons (pv3 3) pa3_nil)) pa3_nil))))) (pss3_cons (ps3_for hp rfl (pi3_range1 rfl T.z_range (pa3_cons pi3 pa3_nil)) (pg3_name 4 sc.nd) (pss3_cons (ps3_unp (n := 2) rfl (pa3_cons (pe3_tup (pa3_cons (pe3_call G_law_lot gd (hr.mono (by decide)) tk rfl T.m_law_lot T.F_law_lot.kp (b_law_lot T.F_law_lot) (pa3_cons (pv3 1) (pa3_cons (pv3 4) pa3_nil))) (pa3_cons (pe3_call G_law_of gd (hr.mono (by decide)) tk rfl T.m_law_of T.F_law_of.kp (b_law_of T.F_law_of) (pa3_cons (pv3 1) (pa3_cons (pv3 2) pa3_nil))) pa3_nil))) (pa3_cons (pe3_tup (pa3_cons (pe3_call G_law_lot gd (hr.mono (by decide)) tk rfl T.m_law_lot T.F_law_lot.kp (b_law_lot T.F_law_lot) (pa3_cons (pv3 1) (pa3_cons (pv3 4) pa3_nil))) (pa3_cons (pe3_call G_law_of gd (hr.mono (by decide)) tk rfl T.m_law_of T.F_law_of.kp (b_law_of T.F_law_of) (pa3_cons (pv3 1) (pa3_cons (pv3 2) pa3_nil))) pa3_nil))) pa3_nil)) (pgs3_cons (pg3_name 8 sc.nd) (pgs3_cons (pg3_name 9 sc.nd) pgs3_nil)) (fun ws τ S Q h => unp_len h)) (pss3_cons (ps3_if (pt3_cmp (op_eqX (un64 hr)) l_eq (pe3_call G_law_any gd (hr.mono (by decide)) tk rfl T.m_law_any T.F_law_any.kp (b_law_any T.F_law_any) (pa3_cons (pv3 1) (pa3_cons pi3 pa3_nil))) pi3 (nomark _)) (pss3_one (ps3_set 9 sc.nd rfl (pe3_tup (pa3_cons (pe3_call G_law_of gd (hr.mono (by decide)) tk rfl T.m_law_of T.F_law_of.kp (b_law_of T.F_law_of) (pa3_cons (pv3 1) (pa3_cons (pe3_lstD (pa3_cons (pe3_ix (pv3 8) pi3) (pa3_cons (pe3_slice sl_tupN l_slT (pe3_ix (pv3 8) pi3) po3_none (po3_some pi3)) (pa3_cons (pe3_op op_catN l_catT (pe3_ix (pv3 8) pi3) (pe3_tup (pa3_cons pi3 pa3_nil))) pa3_nil)))) pa3_nil))) (pa3_cons (pe3_ix (pv3 9) pi3) pa3_nil))))) pss3_nil) (pss3_cons (ps3_set 5 sc.nd rfl (pe3_call G_passed gd (hr.mono (by decide)) tk rfl T.m_passed T.F_passed.kp (b_passed T.F_passed) (pa3_cons (pv3 8) (pa3_cons (pv3 9) pa3_nil)))) (pss3_cons (ps3_if (pt3_cmp (op_neX (un64 hr)) l_ne (pe3_B (call_repr3 gd (un70 hr)) l_repr rfl T.z_repr (by decide +kernel) (pa3_cons (pv3 5) pa3_nil)) (pe3_B (call_repr3 gd (un70 hr)) l_repr rfl T.z_repr (by decide +kernel) (pa3_cons (pe3_call G_law_due gd (hr.mono (by decide)) tk rfl T.m_law_due T.F_law_due.kp (b_law_due T.F_law_due) (pa3_cons (pv3 8) (pa3_cons (pv3 9) (pa3_cons (pv3 3) pa3_nil)))) pa3_nil)) (nomark _)) (pss3_one (ps3_ret pb3)) pss3_nil) (pss3_cons (ps3_for hp rfl (pi3_seq (pe3_call G_law_subsets gd (hr.mono (by decide)) tk rfl T.m_law_subsets T.F_law_subsets.kp (b_law_subsets T.F_law_subsets) (pa3_cons (pe3_Ty call_tuple_ofN l_tuple rfl T.z_tuple (by decide +kernel) (pa3_cons (pe3_B (cr_sortV (un70 hr)) l_sortV rfl T.z_sorted (by decide +kernel) (pa3_cons (pe3_op op_catN l_catT (pe3_ix (pv3 8) pi3) (pe3_Ty call_tuple_ofN l_tuple rfl T.z_tuple (by decide +kernel) (pa3_cons (pe3_lcD [("hand", 11)] rfl sc.nd (pi3_seq (pe3_ix (pv3 9) pi3)) (blkOk_by (N := N_law) (sc := defScope s_law) (by decide +kernel)) lgl_name wp_name (fun _ _ _ _ _ => (pg_name (i := 11) sc.nd rfl (Or.inl rfl))) (fun _ _ _ _ _ => (pts3_one (pt3_cmp (op_notInV (un70 hr)) l_in (pv3 11) (pe3_ix (pv3 8) pi3) (by rfl)))) (fun _ _ _ _ _ => (pv3 11))) pa3_nil))) pa3_nil)) pa3_nil)) pa3_nil))) (pg3_name 6 sc.nd) (pss3_cons (ps3_set 10 sc.nd rfl (pe3_call G_law_shown gd (hr.mono (by decide)) tk rfl T.m_law_shown T.F_law_shown.kp (b_law_shown T.F_law_shown) (pa3_cons (pe3_tup (pa3_cons (pv3 8) (pa3_cons (pv3 9) pa3_nil))) (pa3_cons (pv3 6) (pa3_cons (pv3 3) pa3_nil))))) (pss3_one (ps3_if (PW.pt (pw3_or (pt3_cmp (op_neX (un64 hr)) l_ne (pe3_call G_law_shown gd (hr.mono (by decide)) tk rfl T.m_law_shown T.F_law_shown.kp (b_law_shown T.F_law_shown) (pa3_cons (pv3 5) (pa3_cons (pv3 6) (pa3_cons (pv3 3) pa3_nil)))) (pv3 10) (nomark _)) (pw3_or1 (pt3_cmp (op_neX (un64 hr)) l_ne (pe3_call G_shown_of gd (hr.mono (by decide)) tk rfl T.m_shown_of T.F_shown_of.kp (b_shown_of T.F_shown_of) (pa3_cons (pv3 3) (pa3_cons (pv3 5) (pa3_cons (pe3_op op_catN l_catT (pv3 6) (pe3_tup (pa3_cons pi3 pa3_nil))) pa3_nil)))) (pv3 10) (nomark _))))) (pss3_one (ps3_ret pb3)) pss3_nil)))) (pss3_cons (ps3_set 7 sc.nd rfl (pe3_callK (x := "passed") G_passed gd (hr.mono (by decide)) tk rfl T.m_passed T.F_passed.kp (kb_passed_0 T.F_passed) (kw_passed_0 _) (pk3_cons (pe3_ix (pv3 5) pi3) (pk3_cons (pe3_ix (pv3 5) pi3) pk3_nil)))) (pss3_cons (ps3_if (PW.pt (pw3_and (pt3_cmp (op_eqX (un64 hr)) l_eq (pe3_B call_len3 l_len rfl T.z_len (by decide +kernel) (pa3_cons (pv3 5) pa3_nil)) pi3 (nomark _)) (pw3_and (pt3_cmp (op_eqX (un64 hr)) l_eq (pe3_B call_len3 l_len rfl T.z_len (by decide +kernel) (pa3_cons (pv3 7) pa3_nil)) pi3 (nomark _)) (pw3_and1 (pt3_cmp (op_neX (un64 hr)) l_ne (pe3_call G_law_shown gd (hr.mono (by decide)) tk rfl T.m_law_shown T.F_law_shown.kp (b_law_shown T.F_law_shown) (pa3_cons (pv3 7) (pa3_cons (pe3_tup (pa3_cons pi3 (pa3_cons pi3 (pa3_cons pi3 (pa3_cons pi3 (pa3_cons pi3 (pa3_cons pi3 (pa3_cons pi3 pa3_nil)))))))) (pa3_cons (pv3 3) pa3_nil)))) (pe3_call G_law_join gd (hr.mono (by decide)) tk rfl T.m_law_join T.F_law_join.kp (b_law_join T.F_law_join) (pa3_cons (pe3_ix (pv3 8) pi3) (pa3_cons (pe3_ix (pv3 9) pi3) pa3_nil))) (nomark _)))))) (pss3_one (ps3_ret pb3)) pss3_nil) (pss3_cons (ps3_if (PW.pt (pw3_and (pt3_cmp (op_eqX (un64 hr)) l_eq (pe3_B call_len3 l_len rfl T.z_len (by decide +kernel) (pa3_cons (pv3 5) pa3_nil)) pi3 (nomark _)) (pw3_and1 (pt3_cmp (op_neX (un64 hr)) l_ne (pe3_ix (pe3_ix (pv3 5) pi3) pi3) (pe3_call G_commutator gd (hr.mono (by decide)) tk rfl T.m_commutator T.F_commutator.kp (b_commutator T.F_commutator) (pa3_cons (pe3_call G_turned_back gd (hr.mono (by decide)) tk rfl T.m_turned_back T.F_turned_back.kp (b_turned_back T.F_turned_back) (pa3_cons (pe3_ix (pv3 8) pi3) pa3_nil)) (pa3_cons (pe3_call G_turned_back gd (hr.mono (by decide)) tk rfl T.m_turned_back T.F_turned_back.kp (b_turned_back T.F_turned_back) (pa3_cons (pe3_ix (pv3 9) pi3) pa3_nil)) pa3_nil))) (nomark _))))) (pss3_one (ps3_ret pb3)) pss3_nil) (pss3_cons (ps3_if (PW.pt (pw3_and (pt3_cmp (op_eqX (un64 hr)) l_eq (pe3_ix (pv3 8) pi3) (pe3_ix (pv3 9) pi3) (nomark _)) (pw3_and1 (pt3_cmp (op_neX (un64 hr)) l_ne (pe3_call G_joined gd (hr.mono (by decide)) tk rfl T.m_joined T.F_joined.kp (b_joined T.F_joined) (pa3_cons (pe3_ix (pe3_ix (pv3 5) pi3) pi3) (pa3_cons (pe3_ix (pe3_ix (pv3 5) pi3) pi3) pa3_nil))) (pe3_call G_joined gd (hr.mono (by decide)) tk rfl T.m_joined T.F_joined.kp (b_joined T.F_joined) (pa3_cons (pe3_ix (pv3 8) pi3) (pa3_cons (pe3_ix (pv3 9) pi3) pa3_nil))) (nomark _))))) (pss3_one (ps3_ret pb3)) pss3_nil) (pss3_one (ps3_if (PW.pt (pw3_and (pt3_cmp (op_neX (un64 hr)) l_ne (pe3_ix (pe3_ix (pv3 5) pi3) pi3) (pe3_ix (pv3 9) pi3) (nomark _)) (pw3_and1 (pt3_cmp (op_neX (un64 hr)) l_ne (pe3_ix (pe3_ix (pv3 5) pi3) pi3) (pe3_call G_conjugate gd (hr.mono (by decide)) tk rfl T.m_conjugate T.F_conjugate.kp (b_conjugate T.F_conjugate) (pa3_cons (pe3_ix (pv3 9) pi3) (pa3_cons (pe3_call G_turned_back gd (hr.mono (by decide)) tk rfl T.m_turned_back T.F_turned_back.kp (b_turned_back T.F_turned_back) (pa3_cons (pe3_ix (pv3 8) pi3) pa3_nil)) pa3_nil))) (nomark _))))) (pss3_one (ps3_ret pb3)) pss3_nil)))))))))))) (pss3_one (ps3_ret pb3))))))))
theorem facts {P : Program} {w : World} {K : PySem.W.Frag} {h : Heap} {mg : Str → Option Value} {f : Addr} {cs : List (Addr × Addr)} (X : K.In h) (G : h.Ns mainGlobals mg) (hfa : mg ("law" : Str) = some (.ref f)) (c : He.SaysD fal fnl K) (t : Tabs K h tnl cs) :
    ∃ fd : FuncData, (∀ (s : Shared) (v : Value), BindsTo s fd ⟨[v], []⟩ [("script", v)]) ∧ ∀ base : Heap, K.In base → base.Ns mainGlobals mg → (∀ p ∈ cs, GxR.TabB base mg p.1 p.2) → FnG P w K mg base (L2.CX P w) 6 f fd ["script"] (LSp K (sp_law (tblAt cs))) := by
  obtain ⟨d_law_any, F_law_any⟩ := c.def_ 0 (d := dd_law_any) rfl
  obtain ⟨d_law_join, F_law_join⟩ := c.def_ 1 (d := dd_law_join) rfl
  obtain ⟨d_law_all, F_law_all⟩ := c.def_ 2 (d := dd_law_all) rfl
  obtain ⟨d_law_back, F_law_back⟩ := c.def_ 3 (d := dd_law_back) rfl
  obtain ⟨d_law_due, F_law_due⟩ := c.def_ 4 (d := dd_law_due) rfl
  obtain ⟨d_law_of, F_law_of⟩ := c.def_ 5 (d := dd_law_of) rfl
  obtain ⟨d_law_lot, F_law_lot⟩ := c.def_ 6 (d := dd_law_lot) rfl
  obtain ⟨d_law_shown, F_law_shown⟩ := c.def_ 7 (d := dd_law_shown) rfl
  obtain ⟨d_law_shuffled, F_law_shuffled⟩ := c.def_ 8 (d := dd_law_shuffled) rfl
  obtain ⟨d_law_source, F_law_source⟩ := c.def_ 9 (d := dd_law_source) rfl
  obtain ⟨d_law_subsets, F_law_subsets⟩ := c.def_ 10 (d := dd_law_subsets) rfl
  obtain ⟨d_law_turnings, F_law_turnings⟩ := c.def_ 11 (d := dd_law_turnings) rfl
  obtain ⟨d_joined, F_joined⟩ := c.def_ 12 (d := dd_joined) rfl
  obtain ⟨d_is_turning, F_is_turning⟩ := c.def_ 13 (d := dd_is_turning) rfl
  obtain ⟨d_need_turning, F_need_turning⟩ := c.def_ 14 (d := dd_need_turning) rfl
  obtain ⟨d_turned_back, F_turned_back⟩ := c.def_ 15 (d := dd_turned_back) rfl
  obtain ⟨d_commutator, F_commutator⟩ := c.def_ 16 (d := dd_commutator) rfl
  obtain ⟨d_conjugate, F_conjugate⟩ := c.def_ 17 (d := dd_conjugate) rfl
  obtain ⟨d_is_within, F_is_within⟩ := c.def_ 18 (d := dd_is_within) rfl
  obtain ⟨d_still, F_still⟩ := c.def_ 19 (d := dd_still) rfl
  obtain ⟨d_passed, F_passed⟩ := c.def_ 20 (d := dd_passed) rfl
  obtain ⟨d_joined_all, F_joined_all⟩ := c.def_ 21 (d := dd_joined_all) rfl
  obtain ⟨d_shown_of, F_shown_of⟩ := c.def_ 22 (d := dd_shown_of) rfl
  obtain ⟨d_law, F_law⟩ := c.def_ 23 (d := dd_law) rfl
  let T : Txt K mg := { f_law_any := _, d_law_any := d_law_any, F_law_any := F_law_any, m_law_any := He.glo_ok X G (c.fact 0 (f := .glo "_law_any") rfl), f_law_join := _, d_law_join := d_law_join, F_law_join := F_law_join, m_law_join := He.glo_ok X G (c.fact 1 (f := .glo "_law_join") rfl), f_law_all := _, d_law_all := d_law_all, F_law_all := F_law_all, m_law_all := He.glo_ok X G (c.fact 2 (f := .glo "_law_all") rfl), f_law_back := _, d_law_back := d_law_back, F_law_back := F_law_back, m_law_back := He.glo_ok X G (c.fact 3 (f := .glo "_law_back") rfl), f_law_due := _, d_law_due := d_law_due, F_law_due := F_law_due, m_law_due := He.glo_ok X G (c.fact 4 (f := .glo "_law_due") rfl), f_law_of := _, d_law_of := d_law_of, F_law_of := F_law_of, m_law_of := He.glo_ok X G (c.fact 5 (f := .glo "_law_of") rfl), f_law_lot := _, d_law_lot := d_law_lot, F_law_lot := F_law_lot, m_law_lot := He.glo_ok X G (c.fact 6 (f := .glo "_law_lot") rfl), f_law_shown := _, d_law_shown := d_law_shown, F_law_shown := F_law_shown, m_law_shown := He.glo_ok X G (c.fact 7 (f := .glo "_law_shown") rfl), f_law_shuffled := _, d_law_shuffled := d_law_shuffled, F_law_shuffled := F_law_shuffled, m_law_shuffled := He.glo_ok X G (c.fact 8 (f := .glo "_law_shuffled") rfl), f_law_source := _, d_law_source := d_law_source, F_law_source := F_law_source, m_law_source := He.glo_ok X G (c.fact 9 (f := .glo "_law_source") rfl), f_law_subsets := _, d_law_subsets := d_law_subsets, F_law_subsets := F_law_subsets, m_law_subsets := He.glo_ok X G (c.fact 10 (f := .glo "_law_subsets") rfl), f_law_turnings := _, d_law_turnings := d_law_turnings, F_law_turnings := F_law_turnings, m_law_turnings := He.glo_ok X G (c.fact 11 (f := .glo "_law_turnings") rfl), f_joined := _, d_joined := d_joined, F_joined := F_joined, m_joined := He.glo_ok X G (c.fact 12 (f := .glo "joined") rfl), f_is_turning := _, d_is_turning := d_is_turning, F_is_turning := F_is_turning, m_is_turning := He.glo_ok X G (c.fact 13 (f := .glo "is_turning") rfl), f_need_turning := _, d_need_turning := d_need_turning, F_need_turning := F_need_turning, m_need_turning := He.glo_ok X G (c.fact 14 (f := .glo "need_turning") rfl), f_turned_back := _, d_turned_back := d_turned_back, F_turned_back := F_turned_back, m_turned_back := He.glo_ok X G (c.fact 15 (f := .glo "turned_back") rfl), f_commutator := _, d_commutator := d_commutator, F_commutator := F_commutator, m_commutator := He.glo_ok X G (c.fact 16 (f := .glo "commutator") rfl), f_conjugate := _, d_conjugate := d_conjugate, F_conjugate := F_conjugate, m_conjugate := He.glo_ok X G (c.fact 17 (f := .glo "conjugate") rfl), f_is_within := _, d_is_within := d_is_within, F_is_within := F_is_within, m_is_within := He.glo_ok X G (c.fact 18 (f := .glo "is_within") rfl), f_still := _, d_still := d_still, F_still := F_still, m_still := He.glo_ok X G (c.fact 19 (f := .glo "still") rfl), f_passed := _, d_passed := d_passed, F_passed := F_passed, m_passed := He.glo_ok X G (c.fact 20 (f := .glo "passed") rfl), f_joined_all := _, d_joined_all := d_joined_all, F_joined_all := F_joined_all, m_joined_all := He.glo_ok X G (c.fact 21 (f := .glo "joined_all") rfl), f_shown_of := _, d_shown_of := d_shown_of, F_shown_of := F_shown_of, m_shown_of := He.glo_ok X G (c.fact 22 (f := .glo "shown_of") rfl), f_law := _, d_law := d_law, F_law := F_law, m_law := He.glo_ok X G (c.fact 23 (f := .glo "law") rfl), z_len := He.free_ok X G (c.fact 24 (f := .free "len") rfl), z_set := He.free_ok X G (c.fact 25 (f := .free "set") rfl), z_range := He.free_ok X G (c.fact 26 (f := .free "range") rfl), z_tuple := He.free_ok X G (c.fact 27 (f := .free "tuple") rfl), z_all := He.free_ok X G (c.fact 28 (f := .free "all") rfl), z_sorted := He.free_ok X G (c.fact 29 (f := .free "sorted") rfl), z_int := He.free_ok X G (c.fact 30 (f := .free "int") rfl), z_abs := He.free_ok X G (c.fact 31 (f := .free "abs") rfl), z_list := He.free_ok X G (c.fact 32 (f := .free "list") rfl), z_repr := He.free_ok X G (c.fact 33 (f := .free "repr") rfl) }
  have e := hfa.symm.trans T.m_law
  cases e
  obtain ⟨k_is_within, at_is_within, T_is_within⟩ := t.at 0 (p := ("is_within", none)) rfl
  refine ⟨d_law, fun s v => FunD.bindsA (ps := ["script"]) F_law (fun _ _ _ _ _ _ us hl => match us, hl with | [_], _ => rfl) s [v] rfl, fun base _ _ tbs => ?_⟩
  have G_law_any := ok_law_any (P := P) (w := w) (base := base) T 
  have G_law_join := ok_law_join (P := P) (w := w) (base := base) T 
  have G_law_all := ok_law_all (P := P) (w := w) (base := base) T G_law_join
  have G_law_back := ok_law_back (P := P) (w := w) (base := base) T 
  have G_law_due := ok_law_due (P := P) (w := w) (base := base) T G_law_all G_law_back
  have G_law_of := ok_law_of (P := P) (w := w) (base := base) T G_law_any
  have G_law_lot := ok_law_lot (P := P) (w := w) (base := base) T G_law_any G_law_of
  have G_law_shown := ok_law_shown (P := P) (w := w) (base := base) T G_law_join
  have G_law_shuffled := ok_law_shuffled (P := P) (w := w) (base := base) T G_law_any
  have G_law_source := ok_law_source (P := P) (w := w) (base := base) T 
  have G_law_subsets := ok_law_subsets (P := P) (w := w) (base := base) T 
  have G_law_turnings := ok_law_turnings (P := P) (w := w) (base := base) T G_law_any G_law_join G_law_back G_law_of G_law_shuffled
  have G_joined := ok_joined (P := P) (w := w) (base := base) T 
  have G_is_turning := ok_is_turning (P := P) (w := w) (base := base) T 
  have G_need_turning := ok_need_turning (P := P) (w := w) (base := base) T G_is_turning
  have G_turned_back := ok_turned_back (P := P) (w := w) (base := base) T G_need_turning
  have G_commutator := ok_commutator (P := P) (w := w) (base := base) T G_joined G_turned_back
  have G_conjugate := ok_conjugate (P := P) (w := w) (base := base) T G_joined G_turned_back
  have G_is_within := ok_is_within (P := P) (w := w) (base := base) T (tblAt cs) (code_of (x := "is_within") (q := "is_within") (st := s_is_within) F_is_within T_is_within) (tab_at tbs at_is_within) 
  have G_still := ok_still (P := P) (w := w) (base := base) T 
  have G_passed := ok_passed (P := P) (w := w) (base := base) T (tblAt cs) G_joined G_turned_back G_conjugate G_is_within G_still
  have G_joined_all := ok_joined_all (P := P) (w := w) (base := base) T G_joined G_still
  have G_shown_of := ok_shown_of (P := P) (w := w) (base := base) T (tblAt cs) G_is_within G_joined_all
  exact ok_law T (tblAt cs) G_law_any G_law_join G_law_due G_law_of G_law_lot G_law_shown G_law_shuffled G_law_source G_law_subsets G_law_turnings G_joined G_turned_back G_commutator G_conjugate G_still G_passed G_shown_of
end Lk24
open PySem PySem.W PySem.Calls PyProof.Rows in
set_option maxRecDepth 90000 in
set_option maxHeartbeats 0 in
theorem PySem.Challenge.cw_handsaway_k24_whole_two_factors_past_one_holds : PySem.Challenge.rw_handsaway_k24_whole_two_factors_past_one.Holds := by
  w_on; o_law
  refine HandSHeadRun.head_any (r := OpenLaw.row PySem.Challenge.rw_handsaway_k24_whole_two_factors_past_one) (q := view (OpenLaw.row PySem.Challenge.rw_handsaway_k24_whole_two_factors_past_one).prog [31]) (H := Lk24.hk) (ob := Lk24.ob) (M := 2000) (loose := Lk24.loose) (d := HandSHeadRun.topDef (OpenLaw.row PySem.Challenge.rw_handsaway_k24_whole_two_factors_past_one).prog 31) (kwd := []) Lk24.seen_eq
    (by kernel_rfl) (fun s => by kernel_rfl) Lk24.run (by kernel_rfl) (by kernel_rfl) (by kernel_rfl) (by rfl) (by first | assumption | decide +kernel) (by decide +kernel) ⟨rfl, rfl, rfl, rfl, rfl, by decide +kernel⟩ ?hw ?hc
  case hw => w_witness2
  case hc =>
    refine H3.walk3T (l := PySem.Challenge.rw_handsaway_k24_whole_two_factors_past_one) (k := 6) (x := "script") rfl (by kernel_rfl) ⟨rfl, by decide, by decide⟩ Lk24.qsl Lk24.sp_law ?F (fun tb S ns hl ht => Lk24.law_start tb S ns hl ht)
    intro w mg fa h Y G told
    obtain ⟨K, KX, c, cs, t⟩ := Y
    have toldLaw : mg ("law" : PySem.Str) = some (.ref fa) := by
      have e : (HandSHeadRun.topDef (OpenLaw.row PySem.Challenge.rw_handsaway_k24_whole_two_factors_past_one).prog 31).name = ("law" : PySem.Str) := by kernel_rfl
      rw [← e]
      exact told
    obtain ⟨fd, hb, hF⟩ := Lk24.facts (P := (PySem.Challenge.rw_handsaway_k24_whole_two_factors_past_one).prog) (w := w) KX G toldLaw c t
    exact ⟨K, fd, cs, KX, t.len.symm, t.apart, t.each, hb, hF⟩


