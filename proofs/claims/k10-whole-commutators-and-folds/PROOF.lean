import PyProof.Rows.All
import Wide.All
import OpenK.AllK
import Wide.FinOn
import KE.KStateDown
import KE.KIndexOf
import KE.SortData
import HandS.ForMost
import HandS.ForExc
import HandS.Wide
import HandS.Defaults
import HandS.IsInst
import HandS.More
import HandS.HeadEnd
import HandS.Conv
import HandS.TupAny
import HandS.Style
import HandS.Deep
import HandS.SetFor
import HandS.RaiseMore
import Lean
import HandS.Base
import HandS.Call
import HandS.Ends
import HandS.Words
import HandS.WordsExc
import HandS.Head0
import HandS.Head1
import HandS.Head2
import HandS.HeadHook1
import HandS.HeadHook2
import PySem.Challenge.RW_handsaway_k10_whole_commutators_and_fold
set_option Elab.async false
set_option linter.all false
set_option maxRecDepth 100000
set_option maxHeartbeats 0
/-! H3t: tuples whose objects have no dict, so that their methods can be called; rules of the hand layer that make tuples, with that told. -/
namespace H3
open PySem PySem.Spec L2
open PyProof.Rows hiding St

structure NoD (o : Obj) : Prop where
  cls : o.cls = .type "tuple"
  dict : o.dict = none
/-- a tuple without a dict -/
def TupN (K : PySem.W.Frag) (F : Hp) (a : Addr) (xs : List V) : Prop :=
  (∃ o, F a = some (.frz o (.tup xs)) ∧ NoD o) ∨ ∃ (o : Obj) (its : Array Value) (n : Nat), K.lookup a = some o ∧ NoD o ∧ o.data = .seq its n ∧ its.size ≤ sizeLine ∧ Vals xs its.toList
theorem TupN.sqt {K : PySem.W.Frag} {F : Hp} {a : Addr} {xs : List V} : TupN K F a xs → SqT K F a xs
  | .inl ⟨o, h, _⟩ => .inl (.inr ⟨o, h⟩)
  | .inr ⟨o, its, n, h1, h2, h3, h4, h5⟩ => .inr ⟨o, its, n, h1, h2.cls, h3, h4, h5⟩
theorem TupN.mono {K : PySem.W.Frag} {F F' : Hp} {a : Addr} {xs : List V} (e : Same F F') : TupN K F a xs → TupN K F' a xs
  | .inl ⟨o, h, n⟩ => .inl ⟨o, e _ _ h, n⟩
  | .inr h => .inr h
theorem TupN.ty {X : Cx} {pins : List (Addr × Obj)} {σ : L2.St} {H : Hp} {s : Shared} {a : Addr} {xs : List V} (I : Inv X pins σ H s) (h : TupN X.K H a xs) : s.TypeIs (.ref a) "tuple" ∧ ∃ ob, s.heap.get? a = some ob ∧ ob.dict = none := by
  rcases h with ⟨o, h, n⟩ | ⟨o, its, n, h1, h2, _⟩
  · have e : s.heap.get? a = some o := (I.hok a _ h).1
    exact ⟨⟨o, e, n.cls⟩, o, e, n.dict⟩
  · have e := I.kIn a o h1
    exact ⟨⟨o, e, h2.cls⟩, o, e, h2.dict⟩
mutual
/-- data, its tuples without dicts -/
inductive Dp (K : PySem.W.Frag) (F : Hp) : V → PyData → Prop
  | non : Dp K F .non .none
  | bl (b : Bool) : Dp K F (.bl b) (.bool b)
  | int (i : Int) : Dp K F (.int i) (.int i)
  | str (x : Str) : Dp K F (.str x) (.str x)
  | lst {a : Addr} {xs : List V} {ds : List PyData} (h : SqL K F a xs) (t : DpAll K F xs ds) : Dp K F (.ref a) (.list ds)
  | tup {a : Addr} {xs : List V} {ds : List PyData} (h : TupN K F a xs) (t : DpAll K F xs ds) : Dp K F (.ref a) (.tuple ds)
inductive DpAll (K : PySem.W.Frag) (F : Hp) : List V → List PyData → Prop
  | nil : DpAll K F [] []
  | cons {v : V} {vs : List V} {d : PyData} {ds : List PyData} (h : Dp K F v d) (t : DpAll K F vs ds) : DpAll K F (v :: vs) (d :: ds)
end
mutual
theorem Dp.q {K : PySem.W.Frag} {F : Hp} : ∀ {v : V} {x : PyData}, Dp K F v x → L2.Dp K F v x
  | _, _, .non => .non
  | _, _, .bl b => .bl b
  | _, _, .int i => .int i
  | _, _, .str x => .str x
  | _, _, .lst h t => .lst h (DpAll.q t)
  | _, _, .tup h t => .tup h.sqt (DpAll.q t)
theorem DpAll.q {K : PySem.W.Frag} {F : Hp} : ∀ {vs : List V} {xs : List PyData}, DpAll K F vs xs → L2.DpAll K F vs xs
  | _, _, .nil => .nil
  | _, _, .cons h t => .cons (Dp.q h) (DpAll.q t)
end
/-- the object of a new tuple -/
abbrev tobj (its : Array Value) : Obj := { cls := .type "tuple", data := .seq its }
theorem tobj_no {its : Array Value} : NoD (tobj its) := ⟨rfl, rfl⟩
section
variable {X : Cx} {s : Shared} {H : Hp} {σ : L2.St} {pins : List (Addr × Obj)}
/-- a new tuple is laid -/
theorem laidT {xs : List V} {its : Array Value} {h' : Heap} {t' : Nat} (I : Inv X pins σ H { s with heap := h' }) (r : Vals xs its.toList) (hz : xs.length ≤ sizeLine) :
    Inv X pins σ (upd H h'.objs.size (.frz (tobj its) (.tup xs))) { s with heap := h'.push (tobj its), toks := t' } :=
  I.laid (fun b o e => Heap.get?_push_of_some _ e) (Nat.le_refl _) ⟨Heap.get?_push_size _ rfl, hz, its.toList, r, tobj its, Heap.get?_push_size _ rfl, rfl, 0, by rw [Array.toArray_toList]⟩
/-- what follows a new tuple -/
def NewT (Q : VK) (xs : List V) (H : Hp) : Prop := ∀ p o, H p = none → NoD o → Q (.ref p) (upd H p (.frz o (.tup xs)))
variable {es : List Expr} {t : TA} {pos : Pos}
theorem pe_tupN {x1} (h : PA X es t) : PE X (.Tuple es x1 pos) (fun σ H Q => t σ H fun xs H1 => xs.length ≤ sizeLine ∧ NewT Q xs H1) := by
  constructor
  intro pins s σ H Q I hq
  refine wpAny_Tuple_spliced (thn (h.run pos pins s σ H _ I hq) fun us s1 ⟨xs, H1, I1, r, z, q⟩ => ⟨r.length ▸ z, ?_⟩)
  exact ⟨.ref _, _, laidT (its := us.toArray) (s := s1) (t' := s1.toks) I1 (by simpa using r) z, rfl, q _ _ I1.fresh tobj_no⟩
/-- a tuple's values in the state -/
theorem tupAt {a : Addr} {xs : List V} (I : Inv X pins σ H s) (h : SqT X.K H a xs) : ∃ its : List Value, Vals xs its ∧ IsTup s.heap a its.toArray ∧ its.toArray.size = xs.length ∧ xs.length ≤ sizeLine :=
  let ⟨its, rv, pt, hz⟩ := I.tuple h
  ⟨its, rv, pt, by rw [List.size_toArray]; exact rv.length.symm, hz⟩
theorem call_tuple_ofN : CallR X (.type "tuple") (fun xs H Q => ∃ p ys, xs = [.ref p] ∧ ((SqL X.K H p ys ∧ NewT Q ys H) ∨ (SqT X.K H p ys ∧ Q (.ref p) H))) := by
  rintro pins st σ H xs us Q I rr ⟨p, ys, rfl, hq⟩
  rw [Vals.ref1 rr]
  rcases hq with ⟨hl, q⟩ | ⟨ht, q⟩
  · obtain ⟨its, rv, pl, hz⟩ := I.list hl
    refine call_tuple_list pl.isList (fun hp kp => ?_) (by rw [List.size_toArray, ← rv.length]; exact hz)
    have J : Inv X pins σ H { st with heap := hp } := I.kept (t' := st.toks) kp
    exact ⟨.ref _, _, laidT (its := its.toArray) (s := st) (t' := st.toks) J (by simpa using rv) hz, rfl, q _ _ J.fresh tobj_no⟩
  · obtain ⟨_, _, pt, _⟩ := tupAt I ht
    exact call_tuple_same pt ⟨.ref p, H, I, rfl, q⟩
theorem pe_tupRgN {e : Expr} {te : L2.St → Hp → (Int → Int → Hp → Prop) → Prop} {p : Pos} (hc : X.calm = true) (hg : Gl X "tuple") (hm : X.mg "tuple" = none) (he : PRg X e te) (na : starEach [e] X.env = (false, eval e X.env) :: starEach [] X.env := by rfl) :
    PE X (.Call (.Name "tuple" p) [e] [] pos) (fun σ H Q => te σ H fun a b H1 => RgOk a b ∧ NewT Q (rgV a b) H1) := by
  constructor
  intro pins st σ H Q I h
  have arg := he pins st σ H _ I h
  refine Call_ (ld_blt I hg hm boot_tuple ?_)
  refine PyProof.Rows.callWith_type1 (args_cons (thn arg ?_) na) na
  rintro _ s1 ⟨rg, a, b, t1, t2, t3, H1, rfl, hr, I1, ⟨a1, a2, b1, b2, hn⟩, q⟩
  refine args_nil (call_tuple_range (n := (b - a).toNat) (I1.ok.hd hc) hr (small_one a1 a2 b1 b2) (rangeSize_nat a b) hn fun hp tk acc hk hi => ?_)
  have J : Inv X pins σ H1 { s1 with heap := hp, toks := tk } := I1.kept hk
  have hz : (rgV a b).length ≤ sizeLine := by rw [rgV_length, sizeLine_eq]; omega
  exact ⟨.ref _, _, laidT (its := acc) (s := { s1 with toks := tk }) (t' := tk) J (vals_rg hi) hz, rfl, q _ _ J.fresh tobj_no⟩
/-- all of a tuple is cut -/
def Whole (n : Nat) (lo hi : Option Int) : Prop := HT.sIx n 0 lo = 0 ∧ HT.sIx n n hi = n
/-- t[lo:hi] -/
def rSlN (K : PySem.W.Frag) : V → Option Int → Option Int → Hp → VK → Prop := fun x lo hi H Q => ∃ a xs, x = .ref a ∧ SqT K H a xs ∧ (Whole xs.length lo hi → Q (.ref a) H) ∧ (¬ Whole xs.length lo hi → NewT Q (cutV xs lo hi) H)
theorem sl_tupN : SlR X (rSlN X.K) := by
  rintro pins st σ H _ v vl vu lo hi sl Q I rx hs pl pu ⟨a, xs, rfl, hx, qw, qc⟩
  rcases Classical.em (Whole xs.length lo hi) with yes | no
  · exact sl_tupA pins st σ H _ v vl vu lo hi sl Q I rx hs pl pu ⟨a, xs, rfl, hx, qw, fun n => absurd yes n⟩
  · cases rx
    obtain ⟨its, rv, pt, sz, hz⟩ := tupAt I hx
    refine ⟨"tuple", _, PyProof.Rows.slot_tuple_getitem.lookup, pt.typeIs, HT.getItem_tuple_cut pt hs pl pu (by rw [sz]; exact no) ?_ (by rw [sz]; exact hz)⟩
    rw [sz]
    have rc : Vals (cutV xs lo hi) _ := (rv.drop (HT.sIx xs.length 0 lo)).take (HT.sIx xs.length xs.length hi - HT.sIx xs.length 0 lo)
    exact ⟨.ref _, _, laidT (s := st) (t' := st.toks) I (by simpa using rc) (Nat.le_trans (cutV_length xs lo hi) hz), rfl, qc no _ _ I.fresh tobj_no⟩
/-- t + u -/
def rCatN (K : PySem.W.Frag) : R2 := fun x y H Q => ∃ a b xs ys, x = .ref a ∧ y = .ref b ∧ SqT K H a xs ∧ SqT K H b ys ∧ xs.length + ys.length ≤ sizeLine ∧
  (xs = [] → Q (.ref b) H) ∧ (xs ≠ [] → ys = [] → Q (.ref a) H) ∧ (xs ≠ [] → ys ≠ [] → NewT Q (xs ++ ys) H)
theorem op_catN : OpR X (binaryOp .Add) (rCatN X.K) := by
  rintro pins st σ H _ _ v u Q I rx ry ⟨a, b, xs, ys, rfl, rfl, ha, hb, hz, qe, ql, qn⟩
  rcases Classical.em (xs = []) with e | ne
  · exact op_catA pins st σ H _ _ v u Q I rx ry ⟨a, b, xs, ys, rfl, rfl, ha, hb, hz, qe, ql, fun n => absurd e n⟩
  · cases rx
    cases ry
    obtain ⟨ia, va, pa, na, _⟩ := tupAt I ha
    obtain ⟨ib, vb, pb, nb, _⟩ := tupAt I hb
    refine HT.cat_tup pa pb (fun z => ne (va.nil_iff.mp z)) (fun z => ⟨.ref a, H, I, rfl, ql ne (vb.nil_iff.mp z)⟩) (fun z => ?_) (by rw [← va.length, ← vb.length]; exact hz)
    exact ⟨.ref _, _, laidT (s := st) (t' := st.toks) I (by simpa using va.append vb) (by rw [List.length_append]; exact hz), rfl, qn ne (fun y0 => z (vb.nil_iff.mpr y0)) _ _ I.fresh tobj_no⟩
/-! ### methods of tuples -/
/-- a call o.name(e, ..) of the plain kind: five facts of its text -/
structure MCall (X : Cx) (o : Expr) (name : Str) (apos cpos : Pos) (e : Expr) (es : List Expr) : Prop where
  base : attributeBase o name X.env (eval o X.env) = eval o X.env
  few : ((backTo cpos (starEach (e :: es) X.env)).all (fun z => !z.1) && (backToKw cpos (keywordEach [] X.env)).all (fun z => z.1.isSome) && decide ((e :: es).length + ([] : List Keyword).length + (if ([] : List Keyword).isEmpty then 0 else 1) < 30)) = true
  sameRow : (apos.endLine == cpos.line) = true
  star : starEach (e :: es) X.env = (false, eval e X.env) :: starEach es X.env
  plain : (backTo cpos (starEach es X.env)).any (·.1) = false
variable {o e : Expr} {to : TE} {name : Str} {apos cpos : Pos} {id : String} {r : V → List V → Hp → VK → Prop}
theorem pe_tm (slot : Slot "tuple" name id) (hty : typeOf (.builtin id) = pure (.type "method_descriptor")) (hm : MtR X id r) (ho : PE X o to) (ha : PA X (e :: es) t) (mc : MCall X o name apos cpos e es) :
    PE X (.Call (.Attribute o name apos) (e :: es) [] cpos) (fun σ H Q => to σ H fun x H1 => (∃ a xs, x = .ref a ∧ TupN X.K H1 a xs) ∧ t σ H1 fun xs H2 => r x xs H2 Q) := by
  constructor
  intro pins s σ H Q I h
  refine wpAny_Call_method_late mc.base mc.few mc.sameRow rfl (thn (ho.run pins s σ H _ I h) ?_)
  rintro v s1 ⟨x, H1, I1, r1, ⟨a, xs, e1, ty⟩, q1⟩
  subst e1
  cases (show v = .ref a from r1)
  have tt := ty.ty I1
  refine ⟨"tuple", id, PySem.F.plainAttrs_tuple, slot, hty, tt.1, fun b eb => by cases eb; exact tt.2, ?_⟩
  have args := ha.run cpos pins s1 σ H1 _ I1 q1
  rw [mc.star] at args ⊢
  have noStar : (((false, eval e X.env) :: backTo cpos (starEach es X.env)).any (·.1)) = false := by rw [List.any_cons, mc.plain]; rfl
  exact Calls.callWith_builtin noStar (Calls.evalArgs_plain (thn args fun us s2 ⟨vs, H2, I2, r2, q2⟩ => hm pins s2 σ H2 (.ref a) vs (.ref a) us Q I2 (show RelV (V.ref a) (Value.ref a) from rfl) r2 q2))
theorem mt_tupIndexI : MtR X "tuple.index" (fun x xs H Q => ∃ (p : Addr) (ns : List Int) (k : Int), x = .ref p ∧ xs = [.int k] ∧ SqT X.K H p (ns.map V.int) ∧ k ∈ ns ∧ Q (.int (ns.idxOf k : Nat)) H) := by
  rintro pins st σ H x xs v us Q I rx rxs ⟨p, ns, k, rfl, rfl, hq, hk, q⟩
  cases (show v = .ref p from rx)
  obtain ⟨y, rfl, tk, rfl⟩ := vals1 rxs
  obtain ⟨its, rv, pl, hz⟩ := I.tuple hq
  exact SeqAt.tuple_index_ints (vs := its) (show st.heap.IsTuple p its.toArray from pl) (intsAre_of rv) hk ⟨.int (ns.idxOf k : Nat), H, I.tok _, ⟨_, rfl⟩, q⟩
end
end H3

/-! H3: data as values. Tuples, ints, texts and lists that nobody changes any more are plain data (PyData); lists that are changed, and instances, lie in a small store. -/
namespace H3
open PySem PySem.Spec L2

/-! ### worlds of values -/
inductive W where
  | d (x : PyData)
  | r (a : Addr)
  | ty (n : String)
abbrev W.int (i : Int) : W := .d (.int i)
abbrev W.bl (b : Bool) : W := .d (.bool b)
abbrev W.str (s : Str) : W := .d (.str s)
abbrev W.non : W := .d .none
abbrev W.tup (xs : List PyData) : W := .d (.tuple xs)
abbrev W.lst (xs : List PyData) : W := .d (.list xs)
/-- what may change -/
inductive SO where
  | lst (ws : List W)
  | ins (C : Addr) (fs : List (Str × W))
  /-- a table of code objects -/
  | tb
abbrev Sto := Addr → Option SO
def put (S : Sto) (a : Addr) (o : SO) : Sto := fun b => if b = a then some o else S b
def drp (S : Sto) (a : Addr) : Sto := fun b => if b = a then none else S b
theorem put_same {S : Sto} {a : Addr} {o : SO} : put S a o a = some o := if_pos rfl
theorem put_ne {S : Sto} {a b : Addr} {o : SO} (h : b ≠ a) : put S a o b = S b := if_neg h
theorem put_put {S : Sto} {a : Addr} {o u : SO} : put (put S a o) a u = put S a u := by
  funext b
  unfold put
  by_cases h : b = a
  · rw [if_pos h, if_pos h]
  · rw [if_neg h, if_neg h, if_neg h]
theorem drp_ne {S : Sto} {a b : Addr} (h : b ≠ a) : drp S a b = S b := if_neg h
theorem drp_same {S : Sto} {a : Addr} : drp S a a = none := if_pos rfl

mutual
theorem dp_mono {K : PySem.W.Frag} {F F' : Hp} (e : Same F F') : ∀ {v : V} {x : PyData}, Dp K F v x → Dp K F' v x
  | _, _, .non => .non
  | _, _, .bl b => .bl b
  | _, _, .int i => .int i
  | _, _, .str x => .str x
  | _, _, .lst h t => .lst (e.seq h) (dpAll_mono e t)
  | _, _, .tup h t => .tup (h.mono e) (dpAll_mono e t)
theorem dpAll_mono {K : PySem.W.Frag} {F F' : Hp} (e : Same F F') : ∀ {vs : List V} {xs : List PyData}, DpAll K F vs xs → DpAll K F' vs xs
  | _, _, .nil => .nil
  | _, _, .cons h t => .cons (dp_mono e h) (dpAll_mono e t)
end
theorem sqt_mono {K : PySem.W.Frag} {F F' : Hp} (e : Same F F') {a : Addr} {xs : List V} : SqT K F a xs → SqT K F' a xs
  | .inl (.inl q) => .inl (.inl (e _ _ q))
  | .inl (.inr ⟨o, q⟩) => .inl (.inr ⟨o, e _ _ q⟩)
  | .inr q => .inr q

/-- what stays for good (f), and what is hidden: nobody reads or writes it meanwhile (g) -/
structure Fz where
  g : Hp
  f : Hp
def Fz.new (F : Fz) (p : Addr) (o : HO) : Fz := ⟨F.g, upd F.f p o⟩
structure Sm (F F' : Fz) : Prop where
  g : F'.g = F.g
  f : Same F.f F'.f
theorem Sm.refl (F : Fz) : Sm F F := ⟨rfl, fun _ _ h => h⟩
theorem Sm.trans {F F' F2 : Fz} (a : Sm F F') (b : Sm F' F2) : Sm F F2 := ⟨b.g.trans a.g, a.f.trans b.f⟩

def RepW (K : PySem.W.Frag) (F : Fz) : W → V → Prop
  | .d x, v => Dp K F.f v x
  | .r a, v => v = .ref a
  | .ty n, v => v = .ty n
theorem RepW.mono {K : PySem.W.Frag} {F F' : Fz} (e : Sm F F') {w : W} {v : V} (h : RepW K F w v) : RepW K F' w v := by
  cases w with
  | d x => exact dp_mono e.f h
  | r a => exact h
  | ty n => exact h
abbrev RepWs (K : PySem.W.Frag) (F : Fz) : List W → List V → Prop := Paired (RepW K F)
theorem RepWs.mono {K : PySem.W.Frag} {F F' : Fz} (e : Sm F F') {ws : List W} {vs : List V} (h : RepWs K F ws vs) : RepWs K F' ws vs := Paired.mapP h fun _ _ r => RepW.mono e r
theorem repWs_of_all {K : PySem.W.Frag} {F : Fz} : ∀ {vs : List V} {ds : List PyData}, DpAll K F.f vs ds → RepWs K F (ds.map W.d) vs
  | _, _, .nil => .nil
  | _, _, .cons h t => .cons h (repWs_of_all t)
theorem all_of_repWs {K : PySem.W.Frag} {F : Fz} : ∀ {ds : List PyData} {vs : List V}, RepWs K F (ds.map W.d) vs → DpAll K F.f vs ds
  | [], _, h => by cases h; exact .nil
  | _ :: _, _, h => by
    cases h with
    | cons a t => exact .cons a (all_of_repWs t)
/-- fields of an instance -/
def RepFs (K : PySem.W.Frag) (F : Fz) : List (Str × W) → List (Str × V) → Prop := Paired fun p q => p.1 = q.1 ∧ RepW K F p.2 q.2
theorem RepFs.mono {K : PySem.W.Frag} {F F' : Fz} (e : Sm F F') {fs : List (Str × W)} {gs : List (Str × V)} (h : RepFs K F fs gs) : RepFs K F' fs gs := Paired.mapP h fun _ _ r => ⟨r.1, RepW.mono e r.2⟩
def RepO (K : PySem.W.Frag) (F : Fz) : SO → HO → Prop
  | .lst ws, o => ∃ vs, o = .lst vs ∧ RepWs K F ws vs
  | .ins C fs, o => ∃ dx gs, o = .ins C dx gs ∧ RepFs K F fs gs
  | .tb, o => ∃ ps, o = .tbl ps ∧ TriplesOk ps.toList
theorem RepO.mono {K : PySem.W.Frag} {F F' : Fz} (e : Sm F F') {p : SO} {o : HO} (h : RepO K F p o) : RepO K F' p o := by
  cases p with
  | lst ws => obtain ⟨vs, rfl, r⟩ := h; exact ⟨vs, rfl, RepWs.mono e r⟩
  | ins C fs => obtain ⟨dx, gs, rfl, r⟩ := h; exact ⟨dx, gs, rfl, RepFs.mono e r⟩
  | tb => exact h

/-- the heap H: F the part that stays for good (and what is hidden), S what may change -/
structure Rel (K : PySem.W.Frag) (F : Fz) (S : Sto) (H : Hp) : Prop where
  fz : ∀ a o, F.f a = some o → H a = some o ∧ S a = none ∧ F.g a = none
  st : ∀ a p, S a = some p → F.g a = none ∧ ∃ o, H a = some o ∧ RepO K F p o
  hd : ∀ a o, F.g a = some o → H a = some o
section
variable {K : PySem.W.Frag} {F : Fz} {S : Sto} {H : Hp}
theorem Rel.same (R : Rel K F S H) : Same F.f H := fun a o h => (R.fz a o h).1
theorem Rel.freeF (R : Rel K F S H) {p : Addr} (h : H p = none) : F.f p = none := by
  cases e : F.f p with
  | none => rfl
  | some o => rw [(R.fz p o e).1] at h; cases h
theorem Rel.freeG (R : Rel K F S H) {p : Addr} (h : H p = none) : F.g p = none := by
  cases e : F.g p with
  | none => rfl
  | some o => rw [R.hd p o e] at h; cases h
theorem Rel.freeS (R : Rel K F S H) {p : Addr} (h : H p = none) : S p = none := by
  cases e : S p with
  | none => rfl
  | some o =>
    obtain ⟨_, u, hu, _⟩ := R.st p o e
    rw [hu] at h; cases h
theorem same_upd {G : Hp} {p : Addr} {o : HO} (h : G p = none) : Same G (upd G p o) := fun b u e => by
  rw [upd_ne (ne_of_none e h)]; exact e
theorem sm_new {p : Addr} {o : HO} (h : F.f p = none) : Sm F (F.new p o) := ⟨rfl, same_upd h⟩
/-- a new thing that stays -/
theorem Rel.newF (R : Rel K F S H) {p : Addr} {o : HO} (h : H p = none) : Rel K (F.new p o) S (upd H p o) := by
  have hF := R.freeF h
  have hS := R.freeS h
  have hG := R.freeG h
  refine ⟨fun a u e => ?_, fun a u e => ?_, fun a u e => ?_⟩
  · have e : upd F.f p o a = some u := e
    by_cases ha : a = p
    · subst ha
      rw [upd_same] at e ⊢
      exact ⟨e, hS, hG⟩
    · rw [upd_ne ha] at e ⊢
      exact R.fz a u e
  · obtain ⟨g, v, hv, r⟩ := R.st a u e
    have ha : a ≠ p := ne_of_none hv h
    exact ⟨g, v, by rw [upd_ne ha]; exact hv, r.mono (sm_new hF)⟩
  · have e : F.g a = some u := e
    rw [upd_ne (ne_of_none e hG)]
    exact R.hd a u e
/-- a new thing that may change -/
theorem Rel.newS (R : Rel K F S H) {p : Addr} {o : HO} {q : SO} (h : H p = none) (r : RepO K F q o) : Rel K F (put S p q) (upd H p o) := by
  have hF := R.freeF h
  have hG := R.freeG h
  refine ⟨fun a u e => ?_, fun a u e => ?_, fun a u e => ?_⟩
  · have ha : a ≠ p := ne_of_none e hF
    rw [upd_ne ha, put_ne ha]
    exact R.fz a u e
  · by_cases ha : a = p
    · subst ha
      rw [put_same] at e
      cases e
      exact ⟨hG, o, upd_same, r⟩
    · rw [put_ne ha] at e
      obtain ⟨g, v, hv, r'⟩ := R.st a u e
      exact ⟨g, v, by rw [upd_ne ha]; exact hv, r'⟩
  · rw [upd_ne (ne_of_none e hG)]
    exact R.hd a u e
/-- a change -/
theorem Rel.write (R : Rel K F S H) {p : Addr} {o : HO} {q0 q : SO} (h : S p = some q0) (r : RepO K F q o) : Rel K F (put S p q) (upd H p o) := by
  have hG := (R.st p q0 h).1
  refine ⟨fun a u e => ?_, fun a u e => ?_, fun a u e => ?_⟩
  · have ha : a ≠ p := by
      rintro rfl
      rw [(R.fz a u e).2.1] at h; cases h
    rw [upd_ne ha, put_ne ha]
    exact R.fz a u e
  · by_cases ha : a = p
    · subst ha
      rw [put_same] at e
      cases e
      exact ⟨hG, o, upd_same, r⟩
    · rw [put_ne ha] at e
      obtain ⟨g, v, hv, r'⟩ := R.st a u e
      exact ⟨g, v, by rw [upd_ne ha]; exact hv, r'⟩
  · rw [upd_ne (ne_of_none e hG)]
    exact R.hd a u e
/-- a list that is not changed any more -/
theorem Rel.freeze (R : Rel K F S H) {a : Addr} {ds : List PyData} (h : S a = some (.lst (ds.map W.d))) : ∃ F', Sm F F' ∧ Rel K F' (drp S a) H ∧ RepW K F' (.d (.list ds)) (.ref a) := by
  obtain ⟨hG, o, ho, vs, rfl, rv⟩ := R.st a _ h
  have hF : F.f a = none := by
    cases e : F.f a with
    | none => rfl
    | some u => rw [(R.fz a u e).2.1] at h; cases h
  have s := sm_new (p := a) (o := HO.lst vs) hF
  refine ⟨F.new a (.lst vs), s, ⟨fun b u e => ?_, fun b u e => ?_, R.hd⟩, Dp.lst (.inl (.inl (show upd F.f a (HO.lst vs) a = _ from upd_same))) (dpAll_mono s.f (all_of_repWs rv))⟩
  · have e : upd F.f a (.lst vs) b = some u := e
    by_cases hb : b = a
    · subst hb
      rw [upd_same] at e
      cases e
      exact ⟨ho, drp_same, hG⟩
    · rw [upd_ne hb] at e
      rw [drp_ne hb]
      exact R.fz b u e
  · by_cases hb : b = a
    · subst hb
      rw [drp_same] at e; cases e
    · rw [drp_ne hb] at e
      obtain ⟨g, v, hv, r⟩ := R.st b u e
      exact ⟨g, v, hv, r.mono s⟩
/-- less is known -/
def Sub (S S' : Sto) : Prop := ∀ a p, S a = some p → S' a = some p
theorem Sub.refl (S : Sto) : Sub S S := fun _ _ h => h
theorem Sub.trans {S1 S2 S3 : Sto} (a : Sub S1 S2) (b : Sub S2 S3) : Sub S1 S3 := fun c p h => b c p (a c p h)
theorem Sub.new {S : Sto} {p : Addr} {o : SO} (h : S p = none) : Sub S (put S p o) := fun a q e => by
  have ha : a ≠ p := by rintro rfl; rw [h] at e; cases e
  rw [put_ne ha]; exact e
theorem Rel.less {S' : Sto} (R : Rel K F S' H) (h : Sub S S') : Rel K F S H := by
  refine ⟨fun a o e => ⟨(R.fz a o e).1, ?_, (R.fz a o e).2.2⟩, fun a p e => R.st a p (h a p e), R.hd⟩
  cases q : S a with
  | none => rfl
  | some u =>
    have := h a u q
    rw [(R.fz a o e).2.1] at this; cases this
/-- something new is hidden; what was hidden comes forth -/
theorem Rel.hide (R : Rel K F S H) {p : Addr} {o : HO} (h : H p = none) : Rel K ⟨upd F.g p o, F.f⟩ S (upd H p o) := by
  have hF := R.freeF h
  have hS := R.freeS h
  have rm : ∀ {q : SO} {u : HO}, RepO K F q u → RepO K ⟨upd F.g p o, F.f⟩ q u := fun {q u} r => by
    cases q with
    | lst ws => obtain ⟨vs, e, r⟩ := r; exact ⟨vs, e, Paired.mapP r fun w v z => by cases w <;> exact z⟩
    | ins C fs => obtain ⟨dx, gs, e, r⟩ := r; exact ⟨dx, gs, e, Paired.mapP r fun w v z => ⟨z.1, by cases w; rename_i a b; cases b <;> exact z.2⟩⟩
    | tb => exact r
  refine ⟨fun a u e => ?_, fun a u e => ?_, fun a u e => ?_⟩
  · have ha : a ≠ p := ne_of_none e hF
    refine ⟨by rw [upd_ne ha]; exact (R.fz a u e).1, (R.fz a u e).2.1, ?_⟩
    show upd F.g p o a = none
    rw [upd_ne ha]
    exact (R.fz a u e).2.2
  · obtain ⟨g, v, hv, r⟩ := R.st a u e
    have ha : a ≠ p := ne_of_none hv h
    refine ⟨?_, v, by rw [upd_ne ha]; exact hv, rm r⟩
    show upd F.g p o a = none
    rw [upd_ne ha]; exact g
  · have e : upd F.g p o a = some u := e
    by_cases ha : a = p
    · subst ha; rw [upd_same] at e ⊢; exact e
    · rw [upd_ne ha] at e ⊢; exact R.hd a u e
end

/-! ### the slots -/
abbrev Sl := List (Option W)
/-- what is wanted of an exception: its class, its attributes, the slots and the store -/
abbrev XS := Addr → List (Str × W) → Sl → Sto → Prop
structure S3 where
  sl : Sl
  ex : XS
abbrev S3.set (τ : S3) (i : Nat) (w : Option W) : S3 := ⟨τ.sl.set i w, τ.ex⟩
def SlE (K : PySem.W.Frag) (F : Fz) (τ : Sl) (σ : St) : Prop := τ.length = σ.length ∧ ∀ (i : Nat) (w : W), τ[i]? = some (some w) → ∃ v, σ[i]? = some (some v) ∧ RepW K F w v
section
variable {K : PySem.W.Frag} {F F' : Fz} {τ : Sl} {σ : St}
theorem SlE.mono (e : Sm F F') (h : SlE K F τ σ) : SlE K F' τ σ := ⟨h.1, fun i w q => let ⟨v, a, b⟩ := h.2 i w q; ⟨v, a, RepW.mono e b⟩⟩
theorem SlE.set {i : Nat} {w : W} {v : V} (h : SlE K F τ σ) (r : RepW K F w v) : SlE K F (τ.set i (some w)) (σ.set i (some v)) := by
  refine ⟨by simpa using h.1, fun j u q => ?_⟩
  by_cases hj : i = j
  · subst hj
    have hi : i < τ.length := by
      have := (List.getElem?_eq_some_iff.mp q).1
      simpa using this
    rw [List.getElem?_set_self hi] at q
    cases q
    exact ⟨v, List.getElem?_set_self (by rw [← h.1]; exact hi), r⟩
  · rw [List.getElem?_set_ne hj] at q ⊢
    exact h.2 j u q
theorem SlE.unset {i : Nat} (h : SlE K F τ σ) : SlE K F (τ.set i none) (σ.set i none) := by
  refine ⟨by simpa using h.1, fun j u q => ?_⟩
  by_cases hj : i = j
  · subst hj
    have hi : i < τ.length := by
      have := (List.getElem?_eq_some_iff.mp q).1
      simpa using this
    rw [List.getElem?_set_self hi] at q
    cases q
  · rw [List.getElem?_set_ne hj] at q ⊢
    exact h.2 j u q
end
/-- an exception's wish -/
def KXS (K : PySem.W.Frag) (F : Fz) (ex : XS) (E : WX) : Prop := ∀ F' S' H' C dd fs gs sl σ, Sm F F' → Rel K F' S' H' → F'.f dd = some (.xd gs) → RepFs K F' fs gs → SlE K F' sl σ → ex C fs sl S' → E (.ref C) (some dd) σ H'
structure EnvR (K : PySem.W.Frag) (F : Fz) (E : WX) (τ : S3) (σ : St) : Prop where
  sl : SlE K F τ.sl σ
  ex : KXS K F τ.ex E
section
variable {K : PySem.W.Frag} {F F' : Fz} {E : WX} {τ : S3} {σ : St}
theorem KXS.mono {ex : XS} (k : KXS K F ex E) (e : Sm F F') : KXS K F' ex E := fun F2 S' H' C dd fs gs sl σ s => k F2 S' H' C dd fs gs sl σ (e.trans s)
theorem EnvR.mono (e : Sm F F') (h : EnvR K F E τ σ) : EnvR K F' E τ σ := ⟨h.sl.mono e, h.ex.mono e⟩
theorem EnvR.set {i : Nat} {w : W} {v : V} (h : EnvR K F E τ σ) (r : RepW K F w v) : EnvR K F E (τ.set i (some w)) (σ.set i (some v)) := ⟨h.sl.set r, h.ex⟩
theorem EnvR.unset {i : Nat} (h : EnvR K F E τ σ) : EnvR K F E (τ.set i none) (σ.set i none) := ⟨h.sl.unset, h.ex⟩
end
def wipe3 (τ : Sl) : List Nat → Sl
  | [] => τ
  | i :: l => (wipe3 τ l).set i none

/-! ### readings -/
abbrev K3 := W → Sto → Prop
abbrev TE3 := S3 → Sto → K3 → Prop
abbrev TT3 := S3 → Sto → (Bool → Sto → Prop) → Prop
abbrev TA3 := S3 → Sto → (List W → Sto → Prop) → Prop
structure Ends3 where
  nx : S3 → Sto → Prop
  rt : K3
  bk : S3 → Sto → Prop := fun _ _ => False
  ct : S3 → Sto → Prop := fun _ _ => False
abbrev TS3 := Ends3 → S3 → Sto → Prop

/-- what follows -/
def KE (K : PySem.W.Frag) (F : Fz) (Q3 : K3) (Q : VK) : Prop := ∀ F' S' H' w v, Sm F F' → Rel K F' S' H' → RepW K F' w v → Q3 w S' → Q v H'
def KT (K : PySem.W.Frag) (F : Fz) (Q3 : Bool → Sto → Prop) (Q : Bool → Hp → Prop) : Prop := ∀ F' S' H' b, Sm F F' → Rel K F' S' H' → Q3 b S' → Q b H'
def KA (K : PySem.W.Frag) (F : Fz) (Q3 : List W → Sto → Prop) (Q : List V → Hp → Prop) : Prop := ∀ F' S' H' ws vs, Sm F F' → Rel K F' S' H' → RepWs K F' ws vs → Q3 ws S' → Q vs H'
def KS (K : PySem.W.Frag) (F : Fz) (E : WX) (Q3 : S3 → Sto → Prop) (Q : St → Hp → Prop) : Prop := ∀ F' S' H' τ σ, Sm F F' → Rel K F' S' H' → EnvR K F' E τ σ → Q3 τ S' → Q σ H'
section
variable {K : PySem.W.Frag} {F F' : Fz} {E : WX}
theorem KE.mono {Q3 : K3} {Q : VK} (k : KE K F Q3 Q) (e : Sm F F') : KE K F' Q3 Q := fun F2 S' H' w v s => k F2 S' H' w v (e.trans s)
theorem KT.mono {Q3 : Bool → Sto → Prop} {Q : Bool → Hp → Prop} (k : KT K F Q3 Q) (e : Sm F F') : KT K F' Q3 Q := fun F2 S' H' b s => k F2 S' H' b (e.trans s)
theorem KA.mono {Q3 : List W → Sto → Prop} {Q : List V → Hp → Prop} (k : KA K F Q3 Q) (e : Sm F F') : KA K F' Q3 Q := fun F2 S' H' w v s => k F2 S' H' w v (e.trans s)
theorem KS.mono {Q3 : S3 → Sto → Prop} {Q : St → Hp → Prop} (k : KS K F E Q3 Q) (e : Sm F F') : KS K F' E Q3 Q := fun F2 S' H' w v s => k F2 S' H' w v (e.trans s)
end
structure KD (K : PySem.W.Frag) (F : Fz) (E : WX) (D3 : Ends3) (D : Ends) : Prop where
  nx : KS K F E D3.nx D.nx
  rt : KE K F D3.rt D.rt
  bk : KS K F E D3.bk D.bk
  ct : KS K F E D3.ct D.ct
theorem KD.mono {K : PySem.W.Frag} {F F' : Fz} {E : WX} {Q3 : Ends3} {Q : Ends} (k : KD K F E Q3 Q) (e : Sm F F') : KD K F' E Q3 Q := ⟨k.nx.mono e, k.rt.mono e, k.bk.mono e, k.ct.mono e⟩

def LE (K : PySem.W.Frag) (E : WX) (t : TE3) : TE := fun σ H Q => ∃ F S τ Q3, Rel K F S H ∧ EnvR K F E τ σ ∧ t τ S Q3 ∧ KE K F Q3 Q
def LT (K : PySem.W.Frag) (E : WX) (t : TT3) : TT := fun σ H Q => ∃ F S τ Q3, Rel K F S H ∧ EnvR K F E τ σ ∧ t τ S Q3 ∧ KT K F Q3 Q
def LA (K : PySem.W.Frag) (E : WX) (t : TA3) : TA := fun σ H Q => ∃ F S τ Q3, Rel K F S H ∧ EnvR K F E τ σ ∧ t τ S Q3 ∧ KA K F Q3 Q
def LS (K : PySem.W.Frag) (E : WX) (t : TS3) : TS := fun D σ H => ∃ F S τ D3, Rel K F S H ∧ EnvR K F E τ σ ∧ t D3 τ S ∧ KD K F E D3 D

/-! ### weaker readings -/
section
variable {X : Cx}
theorem pe_imp {e : Expr} {t u : TE} (h : PE X e t) (i : ∀ σ H Q, u σ H Q → t σ H Q) : PE X e u := ⟨fun pins s σ H Q I q => h.run pins s σ H Q I (i _ _ _ q)⟩
theorem pt_imp {e : Expr} {t u : TT} (h : PT X e t) (i : ∀ σ H Q, u σ H Q → t σ H Q) : PT X e u := ⟨fun pins s σ H Q I q => h.run pins s σ H Q I (i _ _ _ q)⟩
theorem pw_imp {e : Expr} {t u : TT} (h : PW X e t) (i : ∀ σ H Q, u σ H Q → t σ H Q) : PW X e u := ⟨fun whole pins s σ H Q I q => h.run whole pins s σ H Q I (i _ _ _ q)⟩
theorem pa_imp {e : List Expr} {t u : TA} (h : PA X e t) (i : ∀ σ H Q, u σ H Q → t σ H Q) : PA X e u := ⟨fun pos pins s σ H Q I q => h.run pos pins s σ H Q I (i _ _ _ q)⟩
theorem pk_imp {e : List Keyword} {t u : TA} (h : PK X e t) (i : ∀ σ H Q, u σ H Q → t σ H Q) : PK X e u := ⟨fun pos pins s σ H Q I q => h.run pos pins s σ H Q I (i _ _ _ q)⟩
theorem ps_imp {e : Stmt} {t u : TS} (h : PS X e t) (i : ∀ D σ H, u D σ H → t D σ H) : PS X e u := ⟨fun pins s σ H D I q => h.run pins s σ H D I (i _ _ _ q)⟩
theorem pss_imp {e : List Stmt} {t u : TS} (h : PSs X e t) (i : ∀ D σ H, u D σ H → t D σ H) : PSs X e u := ⟨fun pins s σ H D I q => h.run pins s σ H D I (i _ _ _ q)⟩
end

/-! ### names, constants -/
section
variable {X : Cx} {E : WX}
def tVar3 (i : Nat) : TE3 := fun τ S Q => ∃ w, τ.sl[i]? = some (some w) ∧ Q w S
def tC3 (w : W) : TE3 := fun _ S Q => Q w S
theorem pv3 (i : Nat) {x : Str} {pos : Pos} (hN : X.N[i]? = some x := by rfl) (hv : Vis X.env.scope x := by first | exact Or.inl rfl | exact Or.inr (Or.inl rfl) | exact Or.inr (Or.inr rfl)) (hd : (x == ("__debug__" : Str)) = false := by decide)
    (hcd : (x == ("__classdict__" : Str)) = false := by decide) : PE X (.Name x pos) (LE X.K E (tVar3 i)) :=
  pe_imp (pv i hN hv hd hcd) fun σ H Q ⟨F, S, τ, Q3, R, Ev, ⟨w, e, h⟩, k⟩ => by
    obtain ⟨v, ev, r⟩ := Ev.sl.2 i w e
    exact ⟨v, ev, k F S H w v (Sm.refl F) R r h⟩
theorem le_const {t : TE} {e : Expr} {v : V} {w : W} (h : PE X e (tC v)) (r : ∀ F, RepW X.K F w v) : PE X e (LE X.K E (tC3 w)) :=
  pe_imp h fun σ H Q ⟨F, S, τ, Q3, R, Ev, h, k⟩ => k F S H w v (Sm.refl F) R (r F) h
theorem pi3 {i : Int} {j pos} : PE X (.Constant (.int i) j pos) (LE X.K E (tC3 (.int i))) := le_const (t := tC (.int i)) pe_int fun _ => Dp.int i
theorem pb3 {b j pos} : PE X (.Constant (.bool b) j pos) (LE X.K E (tC3 (.bl b))) := le_const (t := tC (.bl b)) pe_bl fun _ => Dp.bl b
theorem pn3 {j pos} : PE X (.Constant .none j pos) (LE X.K E (tC3 .non)) := le_const (t := tC .non) pe_non fun _ => Dp.non
theorem pstr3 {x j pos} : PE X (.Constant (.str x) j pos) (LE X.K E (tC3 (.str x))) := le_const (t := tC (.str x)) pe_str fun _ => Dp.str x
/-- the name of a built-in class -/
theorem pty3 {x : Str} {n : String} {pos : Pos} (hg : Gl X x) (hm : X.mg x = none) (hv : bootBuiltins x = some (.type n)) (hn : x ≠ "__name__" := by decide) (hd : (x == ("__debug__" : Str)) = false := by decide) : PE X (.Name x pos) (LE X.K E (tC3 (.ty n))) :=
  le_const (t := tC (.ty n)) (pe_bltn (v := V.ty n) hg hm hv rfl hn hd) fun _ => rfl
/-- a module's own def or class -/
theorem pref3 {x : Str} {a : Addr} {pos : Pos} (hg : Gl X x) (hm : X.mg x = some (.ref a)) (hd : (x == ("__debug__" : Str)) = false := by decide) : PE X (.Name x pos) (LE X.K E (tC3 (.r a))) :=
  le_const (t := tC (.ref a)) (pe_glob (v := V.ref a) hg hm rfl hd) fun _ => rfl
/-- a module's constant text -/
theorem pgstr3 {x z : Str} {t : Tok} {pos : Pos} (hg : Gl X x) (hm : X.mg x = some (.str z t)) (hd : (x == ("__debug__" : Str)) = false := by decide) : PE X (.Name x pos) (LE X.K E (tC3 (.str z))) :=
  le_const (t := tC (.str z)) (pe_glob (v := V.str z) hg hm ⟨_, rfl⟩ hd) fun _ => Dp.str z
end

/-! ### argument lists -/
def tNil3 : TA3 := fun _ S Q => Q [] S
def tCons3 (t : TE3) (u : TA3) : TA3 := fun τ S Q => t τ S fun w S1 => u τ S1 fun ws S2 => Q (w :: ws) S2
section
variable {X : Cx} {K : PySem.W.Frag} {E : WX}
theorem la_nil : ∀ σ H Q, LA K E tNil3 σ H Q → tNil σ H Q := fun σ H Q ⟨F, S, τ, Q3, R, Ev, h, k⟩ => k F S H [] [] (Sm.refl F) R .nil h
theorem la_cons {t : TE3} {u : TA3} : ∀ σ H Q, LA K E (tCons3 t u) σ H Q → tCons (LE K E t) (LA K E u) σ H Q := fun σ H Q ⟨F, S, τ, Q3, R, Ev, h, k⟩ =>
  ⟨F, S, τ, _, R, Ev, h, fun F1 S1 H1 w v s1 R1 r1 h1 => ⟨F1, S1, τ, _, R1, Ev.mono s1, h1, fun F2 S2 H2 ws vs s2 R2 r2 h2 => k F2 S2 H2 _ _ (s1.trans s2) R2 (.cons (r1.mono s2) r2) h2⟩⟩
theorem pa3_nil : PA X [] (LA X.K E tNil3) := pa_imp pa_nil la_nil
theorem pa3_cons {e : Expr} {es : List Expr} {t : TE3} {u : TA3} (h : PE X e (LE X.K E t)) (hr : PA X es (LA X.K E u)) (hs : starEach (e :: es) X.env = (false, eval e X.env) :: starEach es X.env := by rfl) : PA X (e :: es) (LA X.K E (tCons3 t u)) :=
  pa_imp (pa_cons h hr hs) la_cons
theorem pk3_nil : PK X [] (LA X.K E tNil3) := pk_imp pk_nil la_nil
theorem pk3_cons {e : Expr} {es : List Keyword} {nm : Option Str} {kpos : Pos} {t : TE3} {u : TA3} (h : PE X e (LE X.K E t)) (hr : PK X es (LA X.K E u)) : PK X (⟨nm, e, kpos⟩ :: es) (LA X.K E (tCons3 t u)) :=
  pk_imp (pk_cons h hr) la_cons
end
end H3

namespace H3
open PySem PySem.Spec L2
open PyProof.Rows hiding St

/-! ### defs, where no text is being shown around (repr asks that) -/
structure FnG (P : Program) (w : World) (K : PySem.W.Frag) (mg : Str → Option Value) (base : Heap) (CX : CXT) (k : Nat) (f : Addr) (fd : FuncData) (ps : List Str) (sp : Sp) : Prop where
  len : ∀ (vs : List V) (H : Hp) (Q : VK) (E : XK), sp vs H Q E → vs.length = ps.length
  run : ∀ (A : Around) (outer : List Env) (s : Shared) (H : Hp) (args : Args) (us : List Value) (vs : List V) (Q : VK) (E : XK), A.guards = some [] → Room k A → Env0 P w K mg base A outer s H →
    BindsTo s fd args (ps.zip us) → Vals vs us → sp vs H Q E → codeAny (model P w) A (.call (.ref f) args) (CR CX outer P w H s Q E) s

section
variable {P : Program} {w : World} {K : PySem.W.Frag} {mg : Str → Option Value} {base : Heap} {CX : CXT} {f : Addr} {fd : FuncData} {ps : List Str} {sp : Sp}
theorem FnG.up {j k : Nat} (F : FnG P w K mg base CX j f fd ps sp) (h : j ≤ k) : FnG P w K mg base CX k f fd ps sp :=
  { len := F.len, run := fun A outer s H args us vs Q E hg hr => F.run A outer s H args us vs Q E hg (Room.mono hr h) }

theorem guards_deep {A : Around} {env : Env} (h : A.guards = some []) : (A.deeper env).guards = some [] := h

/-- a def by its body -/
theorem fng_of {x qual : Str} {params : Arguments} {body : List Stmt} {scope : Scope} {dV kV doc pm cdv ct oc : Value} {an od : Option Addr} {osl : Array (Option Value)} {N : List Str} {k : Nat}
    (lk : K.lookup f = some ⟨oc, od, .func (PySem.W.fnOf x qual params body scope dV kV doc pm an cdv ct), osl⟩) (hcd : PySem.W.codeIn K cdv qual = true) (S : FnScope N ps scope)
    (len : ∀ (vs : List V) (H : Hp) (Q : VK) (E : XK), sp vs H Q E → vs.length = ps.length) (hbody : ∀ (A : Around) (outer : List Env) (s : Shared) (H : Hp) (vs : List V) (Q : VK) (E : XK), A.guards = some [] → Room k (A.deeper (envOfC qual scope s.heap.objs.size f cdv)) → sp vs H Q E →
      ∃ t : TS, PSs (cxOf CX P w K mg base N qual scope f cdv A outer s H E) body t ∧ t ⟨fun _ H' => Q .non H', Q, fun _ _ => False, fun _ _ => False⟩ (start N vs) H) :
    FnG P w K mg base CX (k + 1) f (PySem.W.fnOf x qual params body scope dV kV doc pm an cdv ct) ps sp := by
  constructor
  · exact len
  intro A outer s H args us vs Q E hg hr e0 hb r hsp
  have lenE := len vs H Q E hsp
  have KX : K.In s.heap := PySem.W.Frag.In.keeps e0.mod.kin (fun b o e => (e0.bs b o e).1)
  have lim := Heap.NoLimit.keeps e0.mod.nolimit (fun b o e => (e0.bs b o e).1)
  apply codeAny_call_function hr.depth (KX f _ lk) rfl S.co S.gen rfl (PySem.W.codeRec_of KX hcd)
  apply hb
  apply wpAny_newFunctionEnv_cells S.kind
  · rintro ⟨n, v⟩ hy
    have hn := (List.of_mem_zip hy).1
    cases S.par n hn with
    | inl q => exact Or.inl q
    | inr q => exact Or.inr ⟨q, PySem.W.cellsFrom_some scope.names _ [] (Or.inl q)⟩
  · rintro env rfl s1 x
    refine ⟨Heap.NoLimit.keeps lim x.toInCall.keep, codeAny_func ?_⟩
    obtain ⟨t, ht, hq⟩ := hbody A outer s H vs Q E hg (hr.deeper _) hsp
    have I := inv_start (CX := CX) (E := E) S hr.hd e0 lenE r x
    apply wpAny_mono (ht.run [] s1 (start N vs) H _ I hq)
    · intro fl s' hs
      cases fl
      case ret u =>
        obtain ⟨y, _, G, J, ry, q⟩ := hs
        exact ⟨y, G, J.os, J.bare, J.base, J.hok, ry, q⟩
      case next =>
        obtain ⟨σ', H', J, q⟩ := hs
        exact ⟨.non, H', J.os, J.bare, J.base, J.hok, rfl, q⟩
      case brk => exact hs.elim fun _ z => z.elim fun _ z => z.2.elim
      case cont => exact hs.elim fun _ z => z.elim fun _ z => z.2.elim
    · intro e s' hs
      exact hs
end

/-- a top-level definition, told by its statement -/
abbrev FnP (K : PySem.W.Frag) (nm : Str) (st : Stmt) (fa : Addr) (fd : FuncData) : Prop := FunD K nm nm (defArgs st) (defBody st) (defScope st) [] [] fa fd
abbrev MtP (K : PySem.W.Frag) (x q : Str) (st : Stmt) (f : Addr) (fd : FuncData) : Prop := FunD K x q (defArgs st) (defBody st) (defScope st) [] [] f fd
section
variable {K : PySem.W.Frag} {P : Program} {w : World} {base : Heap} {mg : Str → Option Value}
theorem fng_mk {CX : CXT} {x q : Str} {st : Stmt} {f : Addr} {fd : FuncData} {N ps : List Str} {k : Nat} {sp : Sp} (F : MtP K x q st f fd) (S : FnScope N ps (defScope st)) (len : ∀ vs H Q E, sp vs H Q E → vs.length = ps.length)
    (hbody : ∀ (cdv : Value) (A : Around) (outer : List Env) (s : Shared) (H : Hp) (vs : List V) (Q : VK) (E : XK), A.guards = some [] → Room k (A.deeper (envOfC q (defScope st) s.heap.objs.size f cdv)) → sp vs H Q E →
      ∃ t, PSs (cxOf CX P w K mg base N q (defScope st) f cdv A outer s H E) (defBody st) t ∧ t { nx := fun _ H' => Q .non H', rt := Q } (start N vs) H) : FnG P w K mg base CX (k + 1) f fd ps sp := by
  obtain ⟨oc, od, dV, kV, doc, pm, an, cdv, ct, osl, rfl, lk, hcd, _⟩ := F.ex
  exact fng_of lk hcd S len (hbody cdv)
end

/-! ### calls of such -/
section
variable {X : Cx} {CX : CXT} {k : Nat} {f C : Addr} {fd : FuncData} {ps : List Str} {sp : Sp} {E : XK} {x m : Str} {p pos apos : Pos} {e o : Expr} {es : List Expr} {ta : TE} {t : TA}
theorem cr_end {pins : List (Addr × Obj)} {σ : St} {H : Hp} {s : Shared} {Q : VK} {r : Result} {s' : Shared} (hx : Passes CX X E) (I : Inv X pins σ H s) (h : CR CX X.stack X.prog X.w H s Q E r s') :
    match r with
    | .ok (.ret u) => EP X pins σ Q u s'
    | .ok _ => False
    | .error e => X.xe e s' := by
  cases r with
  | error e => exact hx pins σ H s e s' I h
  | ok fl => cases fl <;> first | exact I.after h | exact h
theorem run_fng {pins : List (Addr × Obj)} {σ : St} {H : Hp} {s : Shared} {Q : VK} {us : List Value} {vs : List V} (F : FnG X.prog X.w X.K X.mg X.base CX k f fd ps sp) (hg : X.A.guards = some []) (hr : Room k X.A) (hb : Binds X.K fd ps [])
    (hx : Passes CX X E) (I : Inv X pins σ H s) (r : Vals vs us) (h : sp vs H Q E) : wpAny (model X.prog X.w) X.A (call (.ref f) us) (EP X pins σ Q) X.xe s := by
  have hl : us.length = ps.length := r.length ▸ F.len vs H Q E h
  have hb' : BindsTo s fd ⟨us, []⟩ (ps.zip us) := by simpa using hb s us I.kIn (by simpa using hl)
  apply wpAny_call
  apply codeAny_mono (F.run X.A X.stack s H _ us vs Q E hg hr I.env0 hb' r h)
  intro q s' hq
  have z := cr_end hx I hq
  cases q with
  | error e => exact z
  | ok fl => cases fl <;> exact z
/-- a call by keywords alone: where each value goes -/
structure KwTo (fd : FuncData) (ps ks : List Str) (g : {α : Type} → List α → List α) : Prop where
  to : ∀ (s : Shared) (ws : List Value), ws.length = ks.length → BindsTo s fd ⟨[], ks.zip ws⟩ (ps.zip (g ws))
  rel : ∀ {zs : List V} {ws : List Value}, zs.length = ks.length → Vals zs ws → Vals (g zs) (g ws)
theorem run_fngk {ks : List Str} {E : XK} {g : {α : Type} → List α → List α} {pins : List (Addr × Obj)} {σ : St} {H : Hp} {s : Shared} {Q : VK} {ws : List Value} {zs : List V} (F : FnG X.prog X.w X.K X.mg X.base CX k f fd ps sp) (gd : X.A.guards = some []) (hr : Room k X.A)
    (hb : KwTo fd ps ks g) (hx : Passes CX X E) (I : Inv X pins σ H s) (rz : Vals zs ws) (hz : zs.length = ks.length) (h : sp (g zs) H Q E) : wpAny (model X.prog X.w) X.A (call (.ref f) [] (ks.zip ws)) (EP X pins σ Q) X.xe s := by
  apply wpAny_call
  apply codeAny_mono (F.run X.A X.stack s H ⟨[], ks.zip ws⟩ (g ws) (g zs) Q E gd hr I.env0 (hb.to s ws (rz.length ▸ hz)) (hb.rel hz rz) h)
  intro q s' hq
  have z := cr_end hx I hq
  cases q with
  | error e => exact z
  | ok fl => cases fl <;> exact z
end

/-! ### promises over values -/
/-- an exception of the class at C, with these attributes -/
abbrev X3 := Addr → List (Str × W) → Sto → Prop
abbrev Sp3 := List W → Sto → K3 → X3 → Prop
abbrev X0 : X3 := fun _ _ _ => False
def KX (K : PySem.W.Frag) (F : Fz) (E3 : X3) (E : XK) : Prop := ∀ F' S' H' C dd fs gs, Sm F F' → Rel K F' S' H' → F'.f dd = some (.xd gs) → RepFs K F' fs gs → E3 C fs S' → E (.ref C) (some dd) H'
theorem KX.mono {K : PySem.W.Frag} {F F' : Fz} {E3 : X3} {E : XK} (k : KX K F E3 E) (e : Sm F F') : KX K F' E3 E := fun F2 S' H' C dd fs gs s => k F2 S' H' C dd fs gs (e.trans s)
theorem KX.no {K : PySem.W.Frag} {F : Fz} {E : XK} : KX K F X0 E := fun _ _ _ _ _ _ _ _ _ _ _ h => h.elim
def LSp (K : PySem.W.Frag) (sp : Sp3) : Sp := fun vs H Q E => ∃ F S ws Q3 E3, Rel K F S H ∧ RepWs K F ws vs ∧ sp ws S Q3 E3 ∧ KE K F Q3 Q ∧ KX K F E3 E
/-- what a def leaves; what it made may be forgotten -/
def DQ (Q3 : K3) : Ends3 where
  nx := fun _ S' => ∃ S2, Sub S2 S' ∧ Q3 .non S2
  rt := fun w S' => ∃ S2, Sub S2 S' ∧ Q3 w S2
/-- a start's slots -/
def start3 (N : Nat) (ws : List W) (E3 : X3) : S3 := ⟨ws.map some ++ List.replicate (N - ws.length) none, fun C fs _ S' => ∃ S2, Sub S2 S' ∧ E3 C fs S2⟩
theorem slR_start {K : PySem.W.Frag} {F : Fz} {N : List Str} {ws : List W} {vs : List V} (r : RepWs K F ws vs) : SlE K F (ws.map some ++ List.replicate (N.length - ws.length) none) (L2.start N vs) := by
  have hl := Paired.length r
  refine ⟨by simp [L2.start, hl], fun i w h => ?_⟩
  by_cases hi : i < ws.length
  · rw [List.getElem?_append_left (by simpa using hi), List.getElem?_map] at h
    obtain ⟨u, hu, e⟩ : ∃ u, ws[i]? = some u ∧ some u = some w := by
      cases q : ws[i]? with
      | none => rw [q] at h; cases h
      | some u => rw [q] at h; exact ⟨u, rfl, Option.some.inj h⟩
    cases e
    obtain ⟨v, hv, rv⟩ : ∃ v, vs[i]? = some v ∧ RepW K F w v := by
      clear h hi hl
      induction r generalizing i with
      | nil => cases hu
      | cons a t ih =>
        cases i with
        | zero => cases hu; exact ⟨_, rfl, a⟩
        | succ j => exact ih j hu
    refine ⟨v, ?_, rv⟩
    unfold L2.start
    rw [List.getElem?_append_left (by rw [← hl] at *; simpa using (List.getElem?_eq_some_iff.mp hv).1), List.getElem?_map, hv]
    rfl
  · rw [List.getElem?_append_right (by simpa using hi), List.getElem?_replicate] at h
    split at h <;> cases h

/-- THE RULE for a def: its reading t, and that the promise gives it -/
theorem fn3 {P : Program} {w : World} {K : PySem.W.Frag} {mg : Str → Option Value} {base : Heap} {x q : Str} {st : Stmt} {f : Addr} {fd : FuncData} {N ps : List Str} {k : Nat} {sp : Sp3} (F : MtP K x q st f fd) (S : FnScope N ps (defScope st)) (t : TS3)
    (len : ∀ ws S Q E, sp ws S Q E → ws.length = ps.length) (sem : ∀ ws S Q E, sp ws S Q E → t (DQ Q) (start3 N.length ws E) S)
    (body : ∀ (X : Cx) (cdv : Value) (A : Around) (outer : List Env) (s : Shared) (H : Hp) (E : XK), X = cxOf (L2.CX P w) P w K mg base N q (defScope st) f cdv A outer s H E → A.guards = some [] → Room k X.A → Takes X (fun cls d _ H => E cls d H) → PassesOwn (model X.prog X.w) X.A X.env X.xe →
      PSs X (defBody st) (LS X.K (fun cls d _ H => E cls d H) t)) :
    FnG P w K mg base (L2.CX P w) (k + 1) f fd ps (LSp K sp) := by
  refine fng_mk F S (fun vs H Q E h => ?_) (fun cdv A outer s H vs Q E hg hr h => ?_)
  · obtain ⟨F, S, ws, Q3, E3, _, r, h, _⟩ := h
    rw [← Paired.length r]
    exact len _ _ _ _ h
  · obtain ⟨F, S0, ws, Q3, E3, R, r, h, kq, kx⟩ := h
    refine ⟨_, body _ cdv A outer s H E rfl hg hr (takes_of rfl rfl rfl rfl) (passes_of rfl), F, S0, start3 N.length ws E3, DQ Q3, R, ⟨slR_start r, ?_⟩, sem _ _ _ _ h, ⟨?_, ?_, ?_, ?_⟩⟩
    · intro F' S' H' C dd fs gs sl σ s1 R1 e1 r1 _ ⟨S2, sb, q⟩
      exact kx F' S2 H' C dd fs gs s1 (R1.less sb) e1 r1 q
    · intro F' S' H' τ σ s1 R1 _ ⟨S2, sb, q⟩
      exact kq F' S2 H' _ _ s1 (R1.less sb) (show RepW K F' .non .non from Dp.non) q
    · intro F' S' H' w v s1 R1 r1 ⟨S2, sb, q⟩
      exact kq F' S2 H' _ _ s1 (R1.less sb) r1 q
    · intro _ _ _ _ _ _ _ _ q; exact q.elim
    · intro _ _ _ _ _ _ _ _ q; exact q.elim

/-! ### calls over values -/
def tCall3 (sp : Sp3) (t : TA3) : TE3 := fun τ S Q => t τ S fun ws S1 => sp ws S1 Q fun C fs S2 => τ.ex C fs τ.sl S2
def tCallK3 (sp : Sp3) (g : List W → List W) (n : Nat) (t : TA3) : TE3 := fun τ S Q => t τ S fun ws S1 => ws.length = n ∧ sp (g ws) S1 Q fun C fs S2 => τ.ex C fs τ.sl S2
section
variable {X : Cx} {Ex : WX} {k : Nat} {f : Addr} {fd : FuncData} {ps : List Str} {x : Str} {p pos : Pos} {e : Expr} {es : List Expr}
/-- a call f(k = e, ..) by keywords alone: facts of its text -/
structure KwCall (X : Cx) (pos : Pos) (kws : List Keyword) (ks : List Str) : Prop where
  all : (backToKw pos (keywordEach kws X.env)).all (fun z => z.1.isSome) = true
  names : (backToKw pos (keywordEach kws X.env)).filterMap (fun z => z.1) = ks
  plain : ((backTo pos (starEach [] X.env)).any (fun z => z.1) || (backToKw pos (keywordEach kws X.env)).any fun z => z.1.isNone) = false
/-- calls from a state with slots -/
theorem pe_callGs {sp : Sp} {t : TA} {E : St → XK} (F : FnG X.prog X.w X.K X.mg X.base (L2.CX X.prog X.w) k f fd ps sp) (gd : X.A.guards = some []) (hr : Room k X.A) (hg : Gl X x) (hm : X.mg x = some (.ref f)) (hk : PySem.W.keepIn X.K (.ref f) = true) (hb : Binds X.K fd ps [])
    (hx : ∀ σ, PassesAt (L2.CX X.prog X.w) X σ (E σ)) (ha : PA X (e :: es) t) (hdb : (x == ("__debug__" : Str)) = false := by decide) (he : starEach (e :: es) X.env = (false, eval e X.env) :: starEach es X.env := by rfl) (hpl : (backTo pos (starEach es X.env)).any (·.1) = false := by rfl) :
    PE X (.Call (.Name x p) (e :: es) [] pos) (fun σ H Q => t σ H fun vs H1 => sp vs H1 Q (E σ)) := by
  constructor
  intro pins s σ H Q I h
  apply wpAny_Call_Name_kw
  apply ld_glob I hg hm _ hdb
  apply PySem.W.callWith_K (h₀ := X.base) I.ok.mod.kin hk _ he hpl
  refine thn (ha.run pos pins s σ H _ I h) (fun us s1 ⟨vs, H1, I1, r, q⟩ => ⟨I1.kIn, ?_⟩)
  have hl : us.length = ps.length := r.length ▸ F.len vs H1 Q _ q
  have hb' : BindsTo s1 fd ⟨us, []⟩ (ps.zip us) := by simpa using hb s1 us I1.kIn (by simpa using hl)
  apply wpAny_call
  apply codeAny_mono (F.run X.A X.stack s1 H1 _ us vs Q _ gd hr I1.env0 hb' r q)
  intro o s' ho
  cases o with
  | error e => exact hx σ pins H1 s1 e s' I1 ho
  | ok fl => cases fl <;> first | exact I1.after ho | exact ho.elim
theorem pe_callGs0 {sp : Sp} {E : St → XK} (F : FnG X.prog X.w X.K X.mg X.base (L2.CX X.prog X.w) k f fd ps sp) (gd : X.A.guards = some []) (hr : Room k X.A) (hg : Gl X x) (hm : X.mg x = some (.ref f)) (hk : PySem.W.keepIn X.K (.ref f) = true) (hb : Binds X.K fd ps [])
    (hx : ∀ σ, PassesAt (L2.CX X.prog X.w) X σ (E σ)) (hdb : (x == ("__debug__" : Str)) = false := by decide) :
    PE X (.Call (.Name x p) [] [] pos) (fun σ H Q => sp [] H Q (E σ)) := by
  constructor
  intro pins s σ H Q I q
  apply wpAny_Call_Name_kw
  apply ld_glob I hg hm _ hdb
  apply PySem.W.callWith_K0 I.kIn hk
  have hl : ([] : List Value).length = ps.length := F.len [] H Q _ q
  have hb' : BindsTo s fd ⟨[], []⟩ (ps.zip []) := by simpa using hb s [] I.kIn (by simpa using hl)
  apply wpAny_call
  apply codeAny_mono (F.run X.A X.stack s H _ [] [] Q _ gd hr I.env0 hb' .nil q)
  intro o s' ho
  cases o with
  | error e => exact hx σ pins H s e s' I ho
  | ok fl => cases fl <;> first | exact I.after ho | exact ho.elim
theorem pe_callGk {sp : Sp} {t : TA} {E : St → XK} {ks : List Str} {g : {α : Type} → List α → List α} {kws : List Keyword} (F : FnG X.prog X.w X.K X.mg X.base (L2.CX X.prog X.w) k f fd ps sp) (gd : X.A.guards = some []) (hr : Room k X.A) (hg : Gl X x) (hm : X.mg x = some (.ref f))
    (hk : PySem.W.keepIn X.K (.ref f) = true) (hb : KwTo fd ps ks g) (hx : ∀ σ, PassesAt (L2.CX X.prog X.w) X σ (E σ)) (hkw : PK X kws t) (kc : KwCall X pos kws ks := by exact ⟨rfl, rfl, rfl⟩) (hdb : (x == ("__debug__" : Str)) = false := by decide) :
    PE X (.Call (.Name x p) [] kws pos) (fun σ H Q => t σ H fun zs H1 => zs.length = ks.length ∧ sp (g zs) H1 Q (E σ)) := by
  constructor
  intro pins s σ H Q I h
  apply wpAny_Call_Name_kw
  apply ld_glob I hg hm _ hdb
  apply PySem.W.callWith_KW0 (h₀ := X.base) I.ok.mod.kin hk kc.all _ kc.plain
  refine thn (hkw.run pos pins s σ H _ I h) (fun ws s2 ⟨zs, H2, I2, rz, hz, q2⟩ => ⟨I2.kIn, ?_⟩)
  rw [kc.names]
  apply wpAny_call
  apply codeAny_mono (F.run X.A X.stack s2 H2 ⟨[], ks.zip ws⟩ (g ws) (g zs) Q _ gd hr I2.env0 (hb.to s2 ws (rz.length ▸ hz)) (hb.rel hz rz) q2)
  intro o s' ho
  cases o with
  | error e => exact hx σ pins H2 s2 e s' I2 ho
  | ok fl => cases fl <;> first | exact I2.after ho | exact ho.elim
variable {sp : Sp3} {t : TA3}
theorem kx_of {K : PySem.W.Frag} {F F1 : Fz} {τ : S3} {σ : St} (Ev : EnvR K F Ex τ σ) (s1 : Sm F F1) : KX K F1 (fun C fs S2 => τ.ex C fs τ.sl S2) (WE Ex σ) := fun F' S' H' C dd fs gs s R e r q =>
  Ev.ex F' S' H' C dd fs gs τ.sl σ (s1.trans s) R e r (Ev.sl.mono (s1.trans s)) q
theorem pe3_call (F : FnG X.prog X.w X.K X.mg X.base (L2.CX X.prog X.w) k f fd ps (LSp X.K sp)) (gd : X.A.guards = some []) (hr : Room k X.A) (tk : Takes X Ex) (hg : Gl X x) (hm : X.mg x = some (.ref f)) (hk : PySem.W.keepIn X.K (.ref f) = true) (hb : Binds X.K fd ps [])
    (ha : PA X (e :: es) (LA X.K Ex t)) (hdb : (x == ("__debug__" : Str)) = false := by decide) (he : starEach (e :: es) X.env = (false, eval e X.env) :: starEach es X.env := by rfl) (hpl : (backTo pos (starEach es X.env)).any (·.1) = false := by rfl) :
    PE X (.Call (.Name x p) (e :: es) [] pos) (LE X.K Ex (tCall3 sp t)) :=
  pe_imp (pe_callGs F gd hr hg hm hk hb (fun σ => passAt tk σ) ha hdb he hpl) fun σ H Q ⟨F, S, τ, Q3, R, Ev, h, k⟩ =>
    ⟨F, S, τ, _, R, Ev, h, fun F1 S1 H1 ws vs s1 R1 r1 h1 => ⟨F1, S1, ws, Q3, _, R1, r1, h1, k.mono s1, kx_of Ev s1⟩⟩
theorem pe3_call0 (F : FnG X.prog X.w X.K X.mg X.base (L2.CX X.prog X.w) k f fd ps (LSp X.K sp)) (gd : X.A.guards = some []) (hr : Room k X.A) (tk : Takes X Ex) (hg : Gl X x) (hm : X.mg x = some (.ref f)) (hk : PySem.W.keepIn X.K (.ref f) = true) (hb : Binds X.K fd ps [])
    (hdb : (x == ("__debug__" : Str)) = false := by decide) : PE X (.Call (.Name x p) [] [] pos) (LE X.K Ex (tCall3 sp tNil3)) :=
  pe_imp (pe_callGs0 F gd hr hg hm hk hb (fun σ => passAt tk σ) hdb) fun σ H Q ⟨F, S, τ, Q3, R, Ev, h, k⟩ => ⟨F, S, [], Q3, _, R, .nil, h, k, kx_of Ev (Sm.refl F)⟩
theorem pe3_callK {ks : List Str} {g : {α : Type} → List α → List α} {gW : List W → List W} {kws : List Keyword} (F : FnG X.prog X.w X.K X.mg X.base (L2.CX X.prog X.w) k f fd ps (LSp X.K sp)) (gd : X.A.guards = some []) (hr : Room k X.A) (tk : Takes X Ex) (hg : Gl X x) (hm : X.mg x = some (.ref f))
    (hk : PySem.W.keepIn X.K (.ref f) = true) (hb : KwTo fd ps ks g) (hgW : ∀ (F : Fz) (ws : List W) (vs : List V), ws.length = ks.length → RepWs X.K F ws vs → RepWs X.K F (gW ws) (g vs)) (hkw : PK X kws (LA X.K Ex t)) (kc : KwCall X pos kws ks := by exact ⟨rfl, rfl, rfl⟩) (hdb : (x == ("__debug__" : Str)) = false := by decide) :
    PE X (.Call (.Name x p) [] kws pos) (LE X.K Ex (tCallK3 sp gW ks.length t)) :=
  pe_imp (pe_callGk F gd hr hg hm hk hb (fun σ => passAt tk σ) hkw kc hdb) fun σ H Q ⟨F, S, τ, Q3, R, Ev, h, k⟩ =>
    ⟨F, S, τ, _, R, Ev, h, fun F1 S1 H1 ws vs s1 R1 r1 ⟨hl, h1⟩ => ⟨(Paired.length r1).symm.trans hl, F1, S1, gW ws, Q3, _, R1, hgW F1 ws vs hl r1, h1, k.mono s1, kx_of Ev s1⟩⟩
end
end H3

namespace H3
open PySem PySem.Spec L2

/-! ### what a value is -/
section
variable {K : PySem.W.Frag} {F : Fz} {v : V}
theorem rep_int {i : Int} (h : RepW K F (.int i) v) : v = .int i := by cases (show Dp K F.f v (.int i) from h); rfl
theorem rep_bl {b : Bool} (h : RepW K F (.bl b) v) : v = .bl b := by cases (show Dp K F.f v (.bool b) from h); rfl
theorem rep_str {x : Str} (h : RepW K F (.str x) v) : v = .str x := by cases (show Dp K F.f v (.str x) from h); rfl
theorem rep_non (h : RepW K F .non v) : v = .non := by cases (show Dp K F.f v .none from h); rfl
theorem rep_r {a : Addr} (h : RepW K F (.r a) v) : v = .ref a := h
theorem rep_ty {n : String} (h : RepW K F (.ty n) v) : v = .ty n := h
theorem mk_int {i : Int} : RepW K F (.int i) (.int i) := Dp.int i
theorem mk_bl {b : Bool} : RepW K F (.bl b) (.bl b) := Dp.bl b
theorem mk_str {x : Str} : RepW K F (.str x) (.str x) := Dp.str x
theorem mk_non : RepW K F .non .non := Dp.non
end
/-- the items of a list or tuple -/
def seqW (S : Sto) : W → Option (List W)
  | .d (.list ds) => some (ds.map W.d)
  | .d (.tuple ds) => some (ds.map W.d)
  | .r a => match S a with
    | some (.lst ws) => some ws
    | _ => none
  | _ => none
/-- a value as data, now -/
def viewW (S : Sto) : W → Option PyData
  | .d x => some x
  | .r a => match S a with
    | some (.lst ws) => (ws.mapM fun | W.d x => some x | _ => none).map .list
    | _ => none
  | .ty _ => none
section
variable {K : PySem.W.Frag} {F : Fz} {S : Sto} {H : Hp} {v : V} {w : W}
theorem seq_rep {ws : List W} (R : Rel K F S H) (r : RepW K F w v) (h : seqW S w = some ws) : ∃ a vs, v = .ref a ∧ (SqL K H a vs ∨ SqT K H a vs) ∧ RepWs K F ws vs := by
  cases w with
  | d x =>
    cases (show Dp K F.f v x from r) with
    | lst hs ha => cases h; exact ⟨_, _, rfl, .inl (R.same.seq hs), repWs_of_all ha⟩
    | tup hs ha => cases h; exact ⟨_, _, rfl, .inr (sqt_mono R.same hs.sqt), repWs_of_all ha⟩
    | non => cases h
    | bl => cases h
    | int => cases h
    | str => cases h
  | r a =>
    have h' : (match S a with | some (.lst ws) => some ws | _ => none) = some ws := h
    cases e : S a with
    | none => rw [e] at h'; exact nomatch h'
    | some p =>
      rw [e] at h'
      cases p with
      | ins C fs => cases h'
      | tb => cases h'
      | lst us =>
        cases h'
        obtain ⟨_, o, ho, vs, rfl, rv⟩ := R.st a _ e
        exact ⟨a, vs, r, .inl (.inl (.inl ho)), rv⟩
  | ty n => cases h
theorem mapM_d : ∀ {ws : List W} {ds : List PyData}, (ws.mapM fun | W.d x => some x | _ => none) = some ds → ws = ds.map W.d
  | [], ds, h => by cases h; rfl
  | w :: ws, ds, h => by
    rw [List.mapM_cons] at h
    cases w with
    | d x =>
      cases e : (ws.mapM fun | W.d x => some x | _ => none) with
      | none => rw [e] at h; exact nomatch h
      | some es =>
        rw [e] at h
        cases h
        rw [mapM_d e]; rfl
    | r a => cases h
    | ty n => cases h
theorem mapM_of : ∀ (ds : List PyData), ((ds.map W.d).mapM fun | W.d x => some x | _ => none) = some ds
  | [] => rfl
  | d :: ds => by
    rw [List.map_cons, List.mapM_cons, mapM_of ds]; rfl
theorem view_lst {a : Addr} {ds : List PyData} (h : S a = some (.lst (ds.map W.d))) : viewW S (.r a) = some (.list ds) := by
  show (match S a with | some (.lst ws) => (ws.mapM fun | W.d x => some x | _ => none).map PyData.list | _ => none) = _
  rw [h]
  show ((ds.map W.d).mapM fun | W.d x => some x | _ => none).map PyData.list = _
  rw [mapM_of]; rfl
theorem view_rep {x : PyData} (R : Rel K F S H) (r : RepW K F w v) (h : viewW S w = some x) : L2.Dp K H v x := by
  cases w with
  | d y => cases h; exact (dp_mono R.same r).q
  | r a =>
    have h' : (match S a with | some (.lst ws) => (ws.mapM fun | W.d x => some x | _ => none).map PyData.list | _ => none) = some x := h
    cases e : S a with
    | none => rw [e] at h'; exact nomatch h'
    | some p =>
      rw [e] at h'
      cases p with
      | ins C fs => cases h'
      | tb => cases h'
      | lst us =>
        cases e2 : (us.mapM fun | W.d x => some x | _ => none) with
        | none =>
          have h2 : (us.mapM fun | W.d x => some x | _ => none).map PyData.list = some x := h'
          rw [e2] at h2; cases h2
        | some ds =>
          have h2 : (us.mapM fun | W.d x => some x | _ => none).map PyData.list = some x := h'
          rw [e2] at h2; cases h2
          have e3 := mapM_d e2
          subst e3
          obtain ⟨_, o, ho, vs, rfl, rv⟩ := R.st a _ e
          cases (show v = .ref a from r)
          exact L2.Dp.lst (.inl (.inl ho)) (dpAll_mono R.same (all_of_repWs rv)).q
  | ty n => cases h
end

/-! ### operators -/
abbrev R3 := W → W → Sto → K3 → Prop
def OpL (K : PySem.W.Frag) (r3 : R3) (r : R2) : Prop := ∀ F S H w u x y Q3 Q, Rel K F S H → RepW K F w x → RepW K F u y → r3 w u S Q3 → KE K F Q3 Q → r x y H Q
def tOp3 (r : R3) (ta tb : TE3) : TE3 := fun τ S Q => ta τ S fun w S1 => tb τ S1 fun u S2 => r w u S2 Q
section
variable {K : PySem.W.Frag} {Ex : WX} {ta tb tc : TE3} {r3 r3' : R3} {r r' : R2}
theorem le_op (l : OpL K r3 r) : ∀ σ H Q, LE K Ex (tOp3 r3 ta tb) σ H Q → tOp r (LE K Ex ta) (LE K Ex tb) σ H Q := fun σ H Q ⟨F, S, τ, Q3, R, Ev, h, k⟩ =>
  ⟨F, S, τ, _, R, Ev, h, fun F1 S1 H1 w x s1 R1 r1 h1 => ⟨F1, S1, τ, _, R1, Ev.mono s1, h1, fun F2 S2 H2 u y s2 R2 r2 h2 => l F2 S2 H2 w u x y Q3 Q R2 (r1.mono s2) r2 h2 (k.mono (s1.trans s2))⟩⟩
end
section
variable {X : Cx} {Ex : WX} {a b c : Expr} {ta tb tc : TE3} {r3 r3' : R3} {r r' : R2} {pos : Pos}
theorem pe3_op {op : Operator} (ho : OpR X (binaryOp op) r) (l : OpL X.K r3 r) (ha : PE X a (LE X.K Ex ta)) (hb : PE X b (LE X.K Ex tb)) : PE X (.BinOp a op b pos) (LE X.K Ex (tOp3 r3 ta tb)) := pe_imp (pe_op ho ha hb) (le_op l)
theorem pe3_cmp {op : CmpOp} (ho : OpR X (compareOp op) r) (l : OpL X.K r3 r) (ha : PE X a (LE X.K Ex ta)) (hb : PE X b (LE X.K Ex tb)) (hm : behindInMarks op b = false) : PE X (.Compare a [op] [b] pos) (LE X.K Ex (tOp3 r3 ta tb)) := pe_imp (pe_cmpR ho ha hb hm) (le_op l)
/-- a value as a test -/
def tB3 (t : TE3) : TT3 := fun τ S Q => t τ S fun w S1 => ∃ c, w = .bl c ∧ Q c S1
theorem lt_val {K : PySem.W.Frag} {t : TE3} : ∀ σ H Q, LT K Ex (tB3 t) σ H Q → tB (LE K Ex t) σ H Q := fun σ H Q ⟨F, S, τ, Q3, R, Ev, h, k⟩ =>
  ⟨F, S, τ, _, R, Ev, h, fun F1 S1 H1 w x s1 R1 r1 ⟨c, e, h1⟩ => by subst e; exact ⟨c, rep_bl r1, k F1 S1 H1 c s1 R1 h1⟩⟩
theorem pt3_cmp {op : CmpOp} (ho : OpR X (compareOp op) r) (l : OpL X.K r3 r) (ha : PE X a (LE X.K Ex ta)) (hb : PE X b (LE X.K Ex tb)) (hm : behindInMarks op b = false) : PT X (.Compare a [op] [b] pos) (LT X.K Ex (tB3 (tOp3 r3 ta tb))) :=
  pt_imp (pt_cmpR ho ha hb hm) fun σ H Q h => lt_val σ H Q h |> fun q => show tTest (tOp r (LE X.K Ex ta) (LE X.K Ex tb)) σ H Q from le_op l σ H _ q
theorem pt3_val {e : Expr} {t : TE3} (h : PE X e (LE X.K Ex t)) (he : ∀ whole, isTrue e X.env whole = (do let v ← whole; standAt e.pos; holding [v] (truthy v)) := by intro _; rfl) : PT X e (LT X.K Ex (tB3 t)) := pt_imp (pt_val h he) lt_val
/-- a < b < c -/
def tChain3 (r r' : R3) (ta tb tc : TE3) : TE3 := fun τ S Q => ta τ S fun w S1 => tb τ S1 fun u S2 => r w u S2 fun z S3 => ∃ k, z = .bl k ∧ (k = true → tc τ S3 fun x S4 => r' u x S4 Q) ∧ (k = false → Q (.bl false) S3)
theorem le_chain {K : PySem.W.Frag} (l : OpL K r3 r) (l' : OpL K r3' r') : ∀ σ H Q, LE K Ex (tChain3 r3 r3' ta tb tc) σ H Q → tChain r r' (LE K Ex ta) (LE K Ex tb) (LE K Ex tc) σ H Q := fun σ H Q ⟨F, S, τ, Q3, R, Ev, h, k⟩ =>
  ⟨F, S, τ, _, R, Ev, h, fun F1 S1 H1 w x s1 R1 r1 h1 => ⟨F1, S1, τ, _, R1, Ev.mono s1, h1, fun F2 S2 H2 u y s2 R2 r2 h2 =>
    l F2 S2 H2 w u x y _ _ R2 (r1.mono s2) r2 h2 fun F3 S3 H3 z v s3 R3 r3 ⟨b, e, h3, h4⟩ => by
      subst e
      refine ⟨b, rep_bl r3, ?_⟩
      cases b with
      | true => exact iteT ⟨F3, S3, τ, _, R3, Ev.mono (s1.trans (s2.trans s3)), h3 rfl, fun F4 S4 H4 w' x' s4 R4 r4 h5 => l' F4 S4 H4 u w' y x' Q3 Q R4 (r2.mono (s3.trans s4)) r4 h5 (k.mono (s1.trans (s2.trans (s3.trans s4))))⟩
      | false => exact iteF (k F3 S3 H3 _ _ (s1.trans (s2.trans s3)) R3 mk_bl (h4 rfl))⟩⟩
theorem pe3_chain {op op' : CmpOp} (ho : OpR X (compareOp op) r) (ho' : OpR X (compareOp op') r') (l : OpL X.K r3 r) (l' : OpL X.K r3' r') (ha : PE X a (LE X.K Ex ta)) (hb : PE X b (LE X.K Ex tb)) (hc : PE X c (LE X.K Ex tc))
    (hm : lastMarks [op, op'] [b, c] = false := by with_unfolding_all rfl) : PE X (.Compare a [op, op'] [b, c] pos) (LE X.K Ex (tChain3 r3 r3' ta tb tc)) := pe_imp (pe_chain ho ho' ha hb hc hm) (le_chain l l')
theorem pt3_chain {op op' : CmpOp} (ho : OpR X (compareOp op) r) (ho' : OpR X (compareOp op') r') (l : OpL X.K r3 r) (l' : OpL X.K r3' r') (ha : PE X a (LE X.K Ex ta)) (hb : PE X b (LE X.K Ex tb)) (hc : PE X c (LE X.K Ex tc))
    (hm : lastMarks [op, op'] [b, c] = false := by with_unfolding_all rfl) : PT X (.Compare a [op, op'] [b, c] pos) (LT X.K Ex (tB3 (tChain3 r3 r3' ta tb tc))) :=
  pt_imp (pt_chain ho ho' ha hb hc hm) fun σ H Q h => lt_val σ H Q h |> fun q => show tTest (tChain r r' (LE X.K Ex ta) (LE X.K Ex tb) (LE X.K Ex tc)) σ H Q from le_chain l l' σ H _ q

/-! ### and, or, not; conditional expressions -/
variable {t u v : TT3} {rest : List Expr}
def tAnd3 (t u : TT3) : TT3 := fun τ S Q => t τ S fun b S1 => (b = true → u τ S1 Q) ∧ (b = false → Q false S1)
def tOr3 (t u : TT3) : TT3 := fun τ S Q => t τ S fun b S1 => (b = true → Q true S1) ∧ (b = false → u τ S1 Q)
def tNot3 (t : TT3) : TT3 := fun τ S Q => t τ S fun b S1 => Q (!b) S1
theorem pw3_and1 (ha : PT X a (LT X.K Ex t)) : PW X (.BoolOp .And [a] pos) (LT X.K Ex t) := pw_and1 ha
theorem pw3_or1 (ha : PT X a (LT X.K Ex t)) : PW X (.BoolOp .Or [a] pos) (LT X.K Ex t) := pw_or1 ha
theorem pw3_and (ha : PT X a (LT X.K Ex t)) (hb : PW X (.BoolOp .And (b :: rest) pos) (LT X.K Ex u)) : PW X (.BoolOp .And (a :: b :: rest) pos) (LT X.K Ex (tAnd3 t u)) :=
  pw_imp (pw_and ha hb) fun σ H Q ⟨F, S, τ, Q3, R, Ev, h, k⟩ => ⟨F, S, τ, _, R, Ev, h, fun F1 S1 H1 b s1 R1 ⟨h1, h2⟩ => by
    cases b with
    | true => exact iteT ⟨F1, S1, τ, Q3, R1, Ev.mono s1, h1 rfl, k.mono s1⟩
    | false => exact iteF (k F1 S1 H1 _ s1 R1 (h2 rfl))⟩
theorem pw3_or (ha : PT X a (LT X.K Ex t)) (hb : PW X (.BoolOp .Or (b :: rest) pos) (LT X.K Ex u)) : PW X (.BoolOp .Or (a :: b :: rest) pos) (LT X.K Ex (tOr3 t u)) :=
  pw_imp (pw_or ha hb) fun σ H Q ⟨F, S, τ, Q3, R, Ev, h, k⟩ => ⟨F, S, τ, _, R, Ev, h, fun F1 S1 H1 b s1 R1 ⟨h1, h2⟩ => by
    cases b with
    | true => exact iteT (k F1 S1 H1 _ s1 R1 (h1 rfl))
    | false => exact iteF ⟨F1, S1, τ, Q3, R1, Ev.mono s1, h2 rfl, k.mono s1⟩⟩
theorem pt3_not (ha : PT X a (LT X.K Ex t)) : PT X (.UnaryOp .Not a pos) (LT X.K Ex (tNot3 t)) :=
  pt_imp (pt_not ha) fun σ H Q ⟨F, S, τ, Q3, R, Ev, h, k⟩ => ⟨F, S, τ, _, R, Ev, h, fun F1 S1 H1 b s1 R1 h1 => k F1 S1 H1 _ s1 R1 h1⟩
/-- as values -/
def tAndV3 (ta tb : TE3) : TE3 := fun τ S Q => ta τ S fun w S1 => ∃ c, w = .bl c ∧ (c = true → tb τ S1 Q) ∧ (c = false → Q (.bl false) S1)
def tOrV3 (ta tb : TE3) : TE3 := fun τ S Q => ta τ S fun w S1 => ∃ c, w = .bl c ∧ (c = true → Q (.bl true) S1) ∧ (c = false → tb τ S1 Q)
def tNotV3 (ta : TE3) : TE3 := fun τ S Q => ta τ S fun w S1 => ∃ c, w = .bl c ∧ Q (.bl (!c)) S1
theorem pe3_one {op} {t : TE3} (h : PE X a (LE X.K Ex t)) : PE X (.BoolOp op [a] pos) (LE X.K Ex t) := pe_one h
theorem pe3_and (ha : PE X a (LE X.K Ex ta)) (hb : PE X (.BoolOp .And (b :: rest) pos) (LE X.K Ex tb)) : PE X (.BoolOp .And (a :: b :: rest) pos) (LE X.K Ex (tAndV3 ta tb)) :=
  pe_imp (pe_and ha hb) fun σ H Q ⟨F, S, τ, Q3, R, Ev, h, k⟩ => ⟨F, S, τ, _, R, Ev, h, fun F1 S1 H1 w x s1 R1 r1 ⟨c, e, h1, h2⟩ => by
    subst e
    refine ⟨c, rep_bl r1, ?_⟩
    cases c with
    | true => exact iteT ⟨F1, S1, τ, Q3, R1, Ev.mono s1, h1 rfl, k.mono s1⟩
    | false => exact iteF (k F1 S1 H1 _ _ s1 R1 mk_bl (h2 rfl))⟩
theorem pe3_or (ha : PE X a (LE X.K Ex ta)) (hb : PE X (.BoolOp .Or (b :: rest) pos) (LE X.K Ex tb)) : PE X (.BoolOp .Or (a :: b :: rest) pos) (LE X.K Ex (tOrV3 ta tb)) :=
  pe_imp (pe_or ha hb) fun σ H Q ⟨F, S, τ, Q3, R, Ev, h, k⟩ => ⟨F, S, τ, _, R, Ev, h, fun F1 S1 H1 w x s1 R1 r1 ⟨c, e, h1, h2⟩ => by
    subst e
    refine ⟨c, rep_bl r1, ?_⟩
    cases c with
    | true => exact iteT (k F1 S1 H1 _ _ s1 R1 mk_bl (h1 rfl))
    | false => exact iteF ⟨F1, S1, τ, Q3, R1, Ev.mono s1, h2 rfl, k.mono s1⟩⟩
theorem pe3_not (ha : PE X a (LE X.K Ex ta)) : PE X (.UnaryOp .Not a pos) (LE X.K Ex (tNotV3 ta)) :=
  pe_imp (pe_not ha) fun σ H Q ⟨F, S, τ, Q3, R, Ev, h, k⟩ => ⟨F, S, τ, _, R, Ev, h, fun F1 S1 H1 w x s1 R1 r1 ⟨c, e, h1⟩ => by
    subst e
    exact ⟨c, rep_bl r1, k F1 S1 H1 _ _ s1 R1 mk_bl h1⟩⟩
def tIfE3 (t : TT3) (ta tb : TE3) : TE3 := fun τ S Q => t τ S fun b S1 => (b = true → ta τ S1 Q) ∧ (b = false → tb τ S1 Q)
theorem pe3_if {c : Expr} (hc : PT X c (LT X.K Ex t)) (ha : PE X a (LE X.K Ex ta)) (hb : PE X b (LE X.K Ex tb)) : PE X (.IfExp c a b pos) (LE X.K Ex (tIfE3 t ta tb)) :=
  pe_imp (pe_ifExp hc ha hb) fun σ H Q ⟨F, S, τ, Q3, R, Ev, h, k⟩ => ⟨F, S, τ, _, R, Ev, h, fun F1 S1 H1 b s1 R1 ⟨h1, h2⟩ => by
    cases b with
    | true => exact iteT ⟨F1, S1, τ, Q3, R1, Ev.mono s1, h1 rfl, k.mono s1⟩
    | false => exact iteF ⟨F1, S1, τ, Q3, R1, Ev.mono s1, h2 rfl, k.mono s1⟩⟩
end

/-! ### operators on ints, texts, data -/
section
variable {X : Cx} {K : PySem.W.Frag}
def gI3 (C : Int → Int → Prop) (g : Int → Int → W) : R3 := fun w u S Q => ∃ i j, w = .int i ∧ u = .int j ∧ C i j ∧ Q (g i j) S
def gI03 (g : Int → Int → W) : R3 := fun w u S Q => ∃ i j, w = .int i ∧ u = .int j ∧ Q (g i j) S
theorem ol_i {C : Int → Int → Prop} {g : Int → Int → W} {gV : Int → Int → V} (h : ∀ F i j, RepW K F (g i j) (gV i j)) : OpL K (gI3 C g) (rI C gV) := fun F S H w u x y Q3 Q R rw ru ⟨i, j, e1, e2, c, q⟩ k => by
  subst e1 e2
  exact ⟨i, j, rep_int rw, rep_int ru, c, k F S H _ _ (Sm.refl F) R (h F i j) q⟩
theorem ol_i0 {g : Int → Int → W} {gV : Int → Int → V} (h : ∀ F i j, RepW K F (g i j) (gV i j)) : OpL K (gI03 g) (rI0 gV) := fun F S H w u x y Q3 Q R rw ru ⟨i, j, e1, e2, q⟩ k => by
  subst e1 e2
  exact ⟨i, j, rep_int rw, rep_int ru, k F S H _ _ (Sm.refl F) R (h F i j) q⟩
abbrev gAdd : R3 := gI03 fun i j => .int (i + j)
abbrev gSub : R3 := gI03 fun i j => .int (i - j)
abbrev gMul : R3 := gI3 CMul fun i j => .int (i * j)
abbrev gMulW : R3 := gI3 CMulW fun i j => .int (i * j)
abbrev gDiv : R3 := gI3 CDivW fun i j => .int (i / j)
abbrev gMod : R3 := gI3 (fun _ j => 0 < j) fun i j => .int (i % j)
abbrev gPow : R3 := gI3 CPow fun i j => .int (i ^ j.toNat)
abbrev gLt : R3 := gI03 fun i j => .bl (decide (i < j))
abbrev gLe : R3 := gI03 fun i j => .bl (decide (i ≤ j))
abbrev gGt : R3 := gI03 fun i j => .bl (decide (j < i))
abbrev gGe : R3 := gI03 fun i j => .bl (decide (j ≤ i))
theorem l_add : OpL K gAdd (rI0 fun i j => .int (i + j)) := ol_i0 fun _ _ _ => mk_int
theorem l_sub : OpL K gSub (rI0 fun i j => .int (i - j)) := ol_i0 fun _ _ _ => mk_int
theorem l_mul : OpL K gMul (rI CMul fun i j => .int (i * j)) := ol_i fun _ _ _ => mk_int
theorem l_mulW : OpL K gMulW (rI CMulW fun i j => .int (i * j)) := ol_i fun _ _ _ => mk_int
theorem l_div : OpL K gDiv (rI CDivW fun i j => .int (i / j)) := ol_i fun _ _ _ => mk_int
theorem l_mod : OpL K gMod (rI (fun _ j => 0 < j) fun i j => .int (i % j)) := ol_i fun _ _ _ => mk_int
theorem l_pow : OpL K gPow (rI CPow fun i j => .int (i ^ j.toNat)) := ol_i fun _ _ _ => mk_int
theorem l_lt : OpL K gLt (rI0 fun i j => .bl (decide (i < j))) := ol_i0 fun _ _ _ => mk_bl
theorem l_le : OpL K gLe (rI0 fun i j => .bl (decide (i ≤ j))) := ol_i0 fun _ _ _ => mk_bl
theorem l_gt : OpL K gGt (rI0 fun i j => .bl (decide (j < i))) := ol_i0 fun _ _ _ => mk_bl
theorem l_ge : OpL K gGe (rI0 fun i j => .bl (decide (j ≤ i))) := ol_i0 fun _ _ _ => mk_bl
/-- == and != of texts, of data -/
def rEqX (K : PySem.W.Frag) : R2 := fun x y H Q => (∃ a b, x = .str a ∧ y = .str b ∧ Q (.bl (decide (a = b))) H) ∨ rEqD K x y H Q
def rNeX (K : PySem.W.Frag) : R2 := fun x y H Q => (∃ a b, x = .str a ∧ y = .str b ∧ Q (.bl (!decide (a = b))) H) ∨ rNeD K x y H Q
theorem dec_vstr {a b : Str} : decide (V.str a = V.str b) = decide (a = b) := decide_eq_decide.mpr ⟨fun h => by cases h; rfl, fun h => by rw [h]⟩
theorem op_eqX (hu : X.A.units + 64 < cLine) : OpR X (compareOp .Eq) (rEqX X.K) := fun pins s σ H x y v u Q I rx ry h => h.elim (fun ⟨a, b, e1, e2, q⟩ => op_eq pins s σ H x y v u Q I rx ry (by subst e1 e2; exact ⟨rfl, by rw [dec_vstr]; exact q⟩)) (op_eqD hu pins s σ H x y v u Q I rx ry)
theorem op_neX (hu : X.A.units + 64 < cLine) : OpR X (compareOp .NotEq) (rNeX X.K) := fun pins s σ H x y v u Q I rx ry h => h.elim (fun ⟨a, b, e1, e2, q⟩ => op_ne pins s σ H x y v u Q I rx ry (by subst e1 e2; exact ⟨rfl, by rw [dec_vstr]; exact q⟩)) (op_neD hu pins s σ H x y v u Q I rx ry)
def gEq : R3 := fun w u S Q => (∃ a b, w = .str a ∧ u = .str b ∧ Q (.bl (decide (a = b))) S) ∨ ∃ d e, viewW S w = some d ∧ viewW S u = some e ∧ SeqAt.shaped d = true ∧ SeqAt.shaped e = true ∧ Q (.bl (PyData.eqv d e)) S
def gNe : R3 := fun w u S Q => (∃ a b, w = .str a ∧ u = .str b ∧ Q (.bl (!decide (a = b))) S) ∨ ∃ d e, viewW S w = some d ∧ viewW S u = some e ∧ SeqAt.shaped d = true ∧ SeqAt.shaped e = true ∧ Q (.bl (!PyData.eqv d e)) S
theorem l_eq : OpL K gEq (rEqX K) := fun F S H w u x y Q3 Q R rw ru h k => h.imp
  (fun ⟨a, b, e1, e2, q⟩ => by subst e1 e2; exact ⟨a, b, rep_str rw, rep_str ru, k F S H _ _ (Sm.refl F) R mk_bl q⟩)
  fun ⟨d, e, e1, e2, s1, s2, q⟩ => ⟨d, e, view_rep R rw e1, view_rep R ru e2, s1, s2, k F S H _ _ (Sm.refl F) R mk_bl q⟩
theorem l_ne : OpL K gNe (rNeX K) := fun F S H w u x y Q3 Q R rw ru h k => h.imp
  (fun ⟨a, b, e1, e2, q⟩ => by subst e1 e2; exact ⟨a, b, rep_str rw, rep_str ru, k F S H _ _ (Sm.refl F) R mk_bl q⟩)
  fun ⟨d, e, e1, e2, s1, s2, q⟩ => ⟨d, e, view_rep R rw e1, view_rep R ru e2, s1, s2, k F S H _ _ (Sm.refl F) R mk_bl q⟩
/-- texts -/
def gAddS : R3 := fun w u S Q => ∃ i j, w = .str i ∧ u = .str j ∧ i.length + j.length ≤ sizeLine ∧ Q (.str (i ++ j)) S
theorem l_addS : OpL K gAddS (fun x y H Q => ∃ i j, x = .str i ∧ y = .str j ∧ i.length + j.length ≤ sizeLine ∧ Q (.str (i ++ j)) H) := fun F S H w u x y Q3 Q R rw ru ⟨i, j, e1, e2, c, q⟩ k => by
  subst e1 e2
  exact ⟨i, j, rep_str rw, rep_str ru, c, k F S H _ _ (Sm.refl F) R mk_str q⟩
/-- None -/
def nonW : W → Bool
  | .d .none => true
  | _ => false
def gIsN : R3 := fun w u S Q => u = .non ∧ Q (.bl (nonW w)) S
def gNotN : R3 := fun w u S Q => u = .non ∧ Q (.bl (!nonW w)) S
theorem rep_nonW {F : Fz} {v : V} {w : W} (h : RepW K F w v) : decide (v = .non) = nonW w := by
  cases w with
  | d x => cases (show Dp K F.f v x from h) <;> rfl
  | r a => cases (show v = .ref a from h); rfl
  | ty n => cases (show v = .ty n from h); rfl
theorem l_isN : OpL K gIsN (fun x y H Q => y = .non ∧ Q (.bl (decide (x = .non))) H) := fun F S H w u x y Q3 Q R rw ru ⟨e2, q⟩ k => by
  subst e2
  refine ⟨rep_non ru, ?_⟩
  rw [rep_nonW rw]
  exact k F S H _ _ (Sm.refl F) R mk_bl q
theorem l_notN : OpL K gNotN (fun x y H Q => y = .non ∧ Q (.bl (!decide (x = .non))) H) := fun F S H w u x y Q3 Q R rw ru ⟨e2, q⟩ k => by
  subst e2
  refine ⟨rep_non ru, ?_⟩
  rw [rep_nonW rw]
  exact k F S H _ _ (Sm.refl F) R mk_bl q
end
end H3

namespace H3
open PySem PySem.Spec L2
open PyProof.Rows hiding St

/-! ### built-in functions -/
abbrev RC3 := List W → Sto → K3 → Prop
def CallL (K : PySem.W.Frag) (r3 : RC3) (r : List V → Hp → VK → Prop) : Prop := ∀ F S H ws vs Q3 Q, Rel K F S H → RepWs K F ws vs → r3 ws S Q3 → KE K F Q3 Q → r vs H Q
def tCB3 (r : RC3) (t : TA3) : TE3 := fun τ S Q => t τ S fun ws S1 => r ws S1 Q
theorem le_cb {K : PySem.W.Frag} {Ex : WX} {r3 : RC3} {r : List V → Hp → VK → Prop} {t : TA3} (l : CallL K r3 r) : ∀ σ H Q, LE K Ex (tCB3 r3 t) σ H Q → tCB r (LA K Ex t) σ H Q := fun σ H Q ⟨F, S, τ, Q3, R, Ev, h, k⟩ =>
  ⟨F, S, τ, _, R, Ev, h, fun F1 S1 H1 ws vs s1 R1 r1 h1 => l F1 S1 H1 ws vs Q3 Q R1 r1 h1 (k.mono s1)⟩
section
variable {X : Cx} {Ex : WX} {x : Str} {p pos : Pos} {e : Expr} {es : List Expr} {t : TA3} {id T : String} {r3 : RC3} {r : List V → Hp → VK → Prop}
theorem pe3_B (hc : CallR X (.builtin id) r) (l : CallL X.K r3 r) (hg : Gl X x) (hm : X.mg x = none) (hv : bootBuiltins x = some (.builtin id)) (ha : PA X (e :: es) (LA X.K Ex t)) (hn : x ≠ "__name__" := by decide) (hdb : (x == ("__debug__" : Str)) = false := by decide)
    (he : starEach (e :: es) X.env = (false, eval e X.env) :: starEach es X.env := by rfl) (hpl : (backTo pos (starEach es X.env)).any (·.1) = false := by rfl) : PE X (.Call (.Name x p) (e :: es) [] pos) (LE X.K Ex (tCB3 r3 t)) := pe_imp (pe_callB hc hg hm hv ha hn hdb he hpl) (le_cb l)
theorem pe3_Ty (hc : CallR X (.type T) r) (l : CallL X.K r3 r) (hg : Gl X x) (hm : X.mg x = none) (hv : bootBuiltins x = some (.type T)) (ha : PA X (e :: es) (LA X.K Ex t)) (hn : x ≠ "__name__" := by decide) (hdb : (x == ("__debug__" : Str)) = false := by decide)
    (he : starEach (e :: es) X.env = (false, eval e X.env) :: starEach es X.env := by rfl) (hpl : (backTo pos (starEach es X.env)).any (·.1) = false := by rfl) : PE X (.Call (.Name x p) (e :: es) [] pos) (LE X.K Ex (tCB3 r3 t)) := pe_imp (pe_callTy hc hg hm hv ha hn hdb he hpl) (le_cb l)
end
section
variable {X : Cx} {K : PySem.W.Frag}
theorem ws1 {F : Fz} {w : W} {vs : List V} (r : RepWs K F [w] vs) : ∃ v, vs = [v] ∧ RepW K F w v := by
  cases r with
  | cons a t => cases t; exact ⟨_, rfl, a⟩
theorem ws2 {F : Fz} {w u : W} {vs : List V} (r : RepWs K F [w, u] vs) : ∃ v y, vs = [v, y] ∧ RepW K F w v ∧ RepW K F u y := by
  cases r with
  | cons a t =>
    cases t with
    | cons b t => cases t; exact ⟨_, _, rfl, a, b⟩
/-- abs, int, max, min -/
def gAbs : RC3 := fun ws S Q => ∃ i, ws = [.int i] ∧ Q (.int (if i < 0 then -i else i)) S
theorem l_abs : CallL K gAbs (fun xs H Q => ∃ i, xs = [.int i] ∧ Q (.int (if i < 0 then -i else i)) H) := fun F S H ws vs Q3 Q R r ⟨i, e, q⟩ k => by
  subst e
  obtain ⟨v, rfl, rv⟩ := ws1 r
  exact ⟨i, by rw [rep_int rv], k F S H _ _ (Sm.refl F) R mk_int q⟩
def gInt : RC3 := fun ws S Q => ∃ i, ws = [.int i] ∧ Q (.int i) S
theorem l_int : CallL K gInt (fun xs H Q => (∃ i, xs = [.int i] ∧ Q (.int i) H) ∨ ∃ k, xs = [.bl k] ∧ Q (.int (if k then 1 else 0)) H) := fun F S H ws vs Q3 Q R r ⟨i, e, q⟩ k => by
  subst e
  obtain ⟨v, rfl, rv⟩ := ws1 r
  exact .inl ⟨i, by rw [rep_int rv], k F S H _ _ (Sm.refl F) R mk_int q⟩
def gMax2 : RC3 := fun ws S Q => ∃ i j, ws = [.int i, .int j] ∧ Q (.int (if j > i then j else i)) S
theorem l_max2 : CallL K gMax2 (fun xs H Q => ∃ i j, xs = [.int i, .int j] ∧ Q (.int (if j > i then j else i)) H) := fun F S H ws vs Q3 Q R r ⟨i, j, e, q⟩ k => by
  subst e
  obtain ⟨v, y, rfl, rv, ry⟩ := ws2 r
  exact ⟨i, j, by rw [rep_int rv, rep_int ry], k F S H _ _ (Sm.refl F) R mk_int q⟩
def gMin2 : RC3 := fun ws S Q => ∃ i j, ws = [.int i, .int j] ∧ Q (.int (if j < i then j else i)) S
theorem l_min2 : CallL K gMin2 (fun xs H Q => ∃ i j, xs = [.int i, .int j] ∧ Q (.int (if j < i then j else i)) H) := fun F S H ws vs Q3 Q R r ⟨i, j, e, q⟩ k => by
  subst e
  obtain ⟨v, y, rfl, rv, ry⟩ := ws2 r
  exact ⟨i, j, by rw [rep_int rv, rep_int ry], k F S H _ _ (Sm.refl F) R mk_int q⟩
/-- len -/
def lenW (S : Sto) : W → Option Nat
  | .d (.str z) => if z.length ≤ sizeLine then some z.length else none
  | w => (seqW S w).map List.length
def gLen : RC3 := fun ws S Q => ∃ w n, ws = [w] ∧ lenW S w = some n ∧ Q (.int n) S
theorem call_len3 : CallR X (.builtin "len") (fun xs H Q => (∃ p ys, xs = [.ref p] ∧ (SqL X.K H p ys ∨ SqT X.K H p ys) ∧ Q (.int ys.length) H) ∨ ∃ z, xs = [.str z] ∧ z.length ≤ sizeLine ∧ Q (.int z.length) H) := CallR.or call_len_seq call_len_str
theorem l_len : CallL K gLen (fun xs H Q => (∃ p ys, xs = [.ref p] ∧ (SqL K H p ys ∨ SqT K H p ys) ∧ Q (.int ys.length) H) ∨ ∃ z, xs = [.str z] ∧ z.length ≤ sizeLine ∧ Q (.int z.length) H) := fun F S H ws vs Q3 Q R r ⟨w, n, e, hn, q⟩ k => by
  subst e
  obtain ⟨v, rfl, rv⟩ := ws1 r
  have fin : ∀ xs, seqW S w = some xs → xs.length = n → ∃ p ys, ([v] : List V) = [.ref p] ∧ (SqL K H p ys ∨ SqT K H p ys) ∧ Q (.int ys.length) H := fun xs hx hl => by
    obtain ⟨a, us, rfl, hs, ru⟩ := seq_rep R rv hx
    have e := Paired.length ru
    exact ⟨a, us, rfl, hs, by rw [← e, hl]; exact k F S H _ _ (Sm.refl F) R mk_int q⟩
  have gen : (seqW S w).map List.length = some n → _ := fun h => by
    cases e : seqW S w with
    | none => rw [e] at h; exact nomatch h
    | some xs => rw [e] at h; exact fin xs e (Option.some.inj h)
  cases w with
  | d x =>
    cases x with
    | str z =>
      have hn' : (if z.length ≤ sizeLine then some z.length else none) = some n := hn
      by_cases hz : z.length ≤ sizeLine
      · rw [if_pos hz] at hn'
        cases hn'
        exact .inr ⟨z, by rw [rep_str rv], hz, k F S H _ _ (Sm.refl F) R mk_int q⟩
      · rw [if_neg hz] at hn'; cases hn'
    | none => exact .inl (gen hn)
    | bool b => exact .inl (gen hn)
    | int i => exact .inl (gen hn)
    | list l => exact .inl (gen hn)
    | tuple l => exact .inl (gen hn)
    | dict l => exact .inl (gen hn)
  | r a => exact .inl (gen hn)
  | ty m => exact .inl (gen hn)
/-- the items as data -/
def itemsW (S : Sto) (w : W) : Option (List PyData) := match viewW S w with
  | some (.list ds) => some ds
  | some (.tuple ds) => some ds
  | _ => none
theorem list_rep {F : Fz} {S : Sto} {H : Hp} {w : W} {v : V} {ds : List PyData} (R : Rel K F S H) (r : RepW K F w v) (h : viewW S w = some (.list ds)) : ∃ a vs, v = .ref a ∧ SqL K H a vs ∧ DpAll K F.f vs ds ∧ seqW S w = some (ds.map W.d) := by
  cases w with
  | d y =>
    cases h
    cases (show Dp K F.f v (.list ds) from r) with
    | lst h1 h2 => exact ⟨_, _, rfl, R.same.seq h1, h2, rfl⟩
  | r a =>
    have h' : (match S a with | some (.lst ws) => (ws.mapM fun | W.d x => some x | _ => none).map PyData.list | _ => none) = some (.list ds) := h
    cases e : S a with
    | none => rw [e] at h'; exact nomatch h'
    | some p =>
      rw [e] at h'
      cases p with
      | ins C fs => cases h'
      | tb => cases h'
      | lst us =>
        have h2 : (us.mapM fun | W.d x => some x | _ => none).map PyData.list = some (.list ds) := h'
        cases e2 : (us.mapM fun | W.d x => some x | _ => none) with
        | none => rw [e2] at h2; exact nomatch h2
        | some es =>
          rw [e2] at h2
          cases h2
          have e3 := mapM_d e2
          subst e3
          obtain ⟨_, o, ho, vs, rfl, rv⟩ := R.st a _ e
          refine ⟨a, vs, r, .inl (.inl ho), all_of_repWs rv, ?_⟩
          show (match S a with | some (.lst ws) => some ws | _ => none) = _
          rw [e]
  | ty n => cases h
theorem tup_rep {F : Fz} {S : Sto} {H : Hp} {w : W} {v : V} {ds : List PyData} (R : Rel K F S H) (r : RepW K F w v) (h : viewW S w = some (.tuple ds)) : w = .tup ds ∧ ∃ a vs, v = .ref a ∧ SqT K H a vs ∧ DpAll K F.f vs ds := by
  cases w with
  | d y =>
    cases h
    cases (show Dp K F.f v (.tuple ds) from r) with
    | tup h1 h2 => exact ⟨rfl, _, _, rfl, sqt_mono R.same h1.sqt, h2⟩
  | r a =>
    exfalso
    have h' : (match S a with | some (.lst ws) => (ws.mapM fun | W.d x => some x | _ => none).map PyData.list | _ => none) = some (.tuple ds) := h
    cases e : S a with
    | none => rw [e] at h'; exact nomatch h'
    | some p =>
      rw [e] at h'
      cases p with
      | ins C fs => cases h'
      | tb => cases h'
      | lst us =>
        have h2 : (us.mapM fun | W.d x => some x | _ => none).map PyData.list = some (.tuple ds) := h'
        cases e2 : (us.mapM fun | W.d x => some x | _ => none) with
        | none => rw [e2] at h2; exact nomatch h2
        | some es => rw [e2] at h2; cases h2
  | ty n => cases h
theorem items_rep {F : Fz} {S : Sto} {H : Hp} {w : W} {v : V} {ds : List PyData} (R : Rel K F S H) (r : RepW K F w v) (h : itemsW S w = some ds) : ∃ a vs, v = .ref a ∧ ((SqL K H a vs) ∨ (SqT K H a vs ∧ RepW K F (.d (.tuple ds)) v)) ∧ DpAll K F.f vs ds ∧ seqW S w = some (ds.map W.d) := by
  unfold itemsW at h
  cases e : viewW S w with
  | none => rw [e] at h; exact nomatch h
  | some x =>
    rw [e] at h
    cases x with
    | list l =>
      cases h
      obtain ⟨a, vs, h1, h2, h3, h4⟩ := list_rep R r e
      exact ⟨a, vs, h1, .inl h2, h3, h4⟩
    | tuple l =>
      cases h
      obtain ⟨rfl, a, vs, h1, h2, h3⟩ := tup_rep R r e
      exact ⟨a, vs, h1, .inr ⟨h2, r⟩, h3, rfl⟩
    | none => cases h
    | bool => cases h
    | int => cases h
    | str => cases h
    | dict => cases h
/-- tuple(x): x a list or a tuple of data -/
def gTuple : RC3 := fun ws S Q => ∃ w ds, ws = [w] ∧ itemsW S w = some ds ∧ Q (.tup ds) S
theorem newTup {F : Fz} {S : Sto} {H : Hp} {p : Addr} {vs : List V} {ds : List PyData} {o : Obj} (R : Rel K F S H) (h : H p = none) (no : NoD o) (ha : DpAll K F.f vs ds) : Sm F (F.new p (.frz o (.tup vs))) ∧ Rel K (F.new p (.frz o (.tup vs))) S (upd H p (.frz o (.tup vs))) ∧ RepW K (F.new p (.frz o (.tup vs))) (.tup ds) (.ref p) :=
  have s := sm_new (p := p) (o := HO.frz o (.tup vs)) (R.freeF h)
  ⟨s, R.newF h, Dp.tup (.inl ⟨o, show upd F.f p (HO.frz o (.tup vs)) p = _ from upd_same, no⟩) (dpAll_mono s.f ha)⟩
theorem newLst {F : Fz} {S : Sto} {H : Hp} {p : Addr} {vs : List V} {ds : List PyData} (R : Rel K F S H) (h : H p = none) (ha : DpAll K F.f vs ds) : Sm F (F.new p (.lst vs)) ∧ Rel K (F.new p (.lst vs)) S (upd H p (.lst vs)) ∧ RepW K (F.new p (.lst vs)) (.lst ds) (.ref p) :=
  have s := sm_new (p := p) (o := HO.lst vs) (R.freeF h)
  ⟨s, R.newF h, Dp.lst (.inl (.inl (show upd F.f p (HO.lst vs) p = _ from upd_same))) (dpAll_mono s.f ha)⟩
theorem newMut {F : Fz} {S : Sto} {H : Hp} {p : Addr} {vs : List V} {ws : List W} (R : Rel K F S H) (h : H p = none) (ha : RepWs K F ws vs) : Rel K F (put S p (.lst ws)) (upd H p (.lst vs)) := R.newS h ⟨vs, rfl, ha⟩
theorem l_tuple : CallL K gTuple (fun xs H Q => ∃ p ys, xs = [.ref p] ∧ ((SqL K H p ys ∧ NewT Q ys H) ∨ (SqT K H p ys ∧ Q (.ref p) H))) := fun F S H ws vs Q3 Q R r ⟨w, ds, e, hd, q⟩ k => by
  subst e
  obtain ⟨v, rfl, rv⟩ := ws1 r
  obtain ⟨a, us, rfl, hs, ha, _⟩ := items_rep R rv hd
  rcases hs with hs | ⟨hs, rt⟩
  · refine ⟨a, us, rfl, .inl ⟨hs, fun l o hl no => ?_⟩⟩
    obtain ⟨s, R', rw'⟩ := newTup R hl no ha
    exact k _ S _ _ _ s R' rw' q
  · exact ⟨a, us, rfl, .inr ⟨hs, k F S H _ _ (Sm.refl F) R rt q⟩⟩
/-- list(x), to stay; list(x), to be changed -/
def gListD : RC3 := fun ws S Q => ∃ w ds, ws = [w] ∧ itemsW S w = some ds ∧ Q (.lst ds) S
def gListM : RC3 := fun ws S Q => ∃ w us, ws = [w] ∧ seqW S w = some us ∧ ∀ p, S p = none → Q (.r p) (put S p (.lst us))
theorem l_listD : CallL K gListD (fun xs H Q => ∃ p ys, xs = [.ref p] ∧ (SqL K H p ys ∨ SqT K H p ys) ∧ ∀ l, H l = none → Q (.ref l) (upd H l (.lst ys))) := fun F S H ws vs Q3 Q R r ⟨w, ds, e, hd, q⟩ k => by
  subst e
  obtain ⟨v, rfl, rv⟩ := ws1 r
  obtain ⟨a, us, rfl, hs, ha, _⟩ := items_rep R rv hd
  refine ⟨a, us, rfl, hs.imp id And.left, fun l hl => ?_⟩
  obtain ⟨s, R', rw'⟩ := newLst R hl ha
  exact k _ S _ _ _ s R' rw' q
theorem l_listM : CallL K gListM (fun xs H Q => ∃ p ys, xs = [.ref p] ∧ (SqL K H p ys ∨ SqT K H p ys) ∧ ∀ l, H l = none → Q (.ref l) (upd H l (.lst ys))) := fun F S H ws vs Q3 Q R r ⟨w, us, e, hd, q⟩ k => by
  subst e
  obtain ⟨v, rfl, rv⟩ := ws1 r
  obtain ⟨a, vs, rfl, hs, ha⟩ := seq_rep R rv hd
  exact ⟨a, vs, rfl, hs, fun l hl => k F _ _ (.r l) _ (Sm.refl F) (newMut R hl ha) (show V.ref l = V.ref l from rfl) (q l (R.freeS hl))⟩
/-- all, any of a list of truth values -/
theorem bools_of {F : Fz} : ∀ {bs : List Bool} {vs : List V}, DpAll K F.f vs (bs.map PyData.bool) → vs = bs.map V.bl
  | [], _, h => by cases h; rfl
  | b :: bs, _, h => by
    cases h with
    | cons a t => cases a; rw [bools_of t]; rfl
theorem ints_of {F : Fz} : ∀ {ns : List Int} {vs : List V}, DpAll K F.f vs (ns.map PyData.int) → vs = ns.map V.int
  | [], _, h => by cases h; rfl
  | b :: bs, _, h => by
    cases h with
    | cons a t => cases a; rw [ints_of t]; rfl
theorem strs_of {F : Fz} : ∀ {ns : List Str} {vs : List V}, DpAll K F.f vs (ns.map PyData.str) → vs = ns.map V.str
  | [], _, h => by cases h; rfl
  | b :: bs, _, h => by
    cases h with
    | cons a t => cases a; rw [strs_of t]; rfl
def gAll : RC3 := fun ws S Q => ∃ bs : List Bool, ws = [.lst (bs.map PyData.bool)] ∧ Q (.bl (bs.all id)) S
theorem l_all : CallL K gAll (rAll K) := fun F S H ws vs Q3 Q R r ⟨bs, e, q⟩ k => by
  subst e
  obtain ⟨v, rfl, rv⟩ := ws1 r
  cases (show Dp K F.f v (.list (bs.map PyData.bool)) from rv) with
  | lst hs ha =>
    have e := bools_of ha
    subst e
    exact ⟨_, bs, rfl, R.same.seq hs, k F S H _ _ (Sm.refl F) R mk_bl q⟩
def gAny : RC3 := fun ws S Q => ∃ bs : List Bool, ws = [.lst (bs.map PyData.bool)] ∧ Q (.bl (bs.any id)) S
theorem l_any : CallL K gAny (rAny K) := fun F S H ws vs Q3 Q R r ⟨bs, e, q⟩ k => by
  subst e
  obtain ⟨v, rfl, rv⟩ := ws1 r
  cases (show Dp K F.f v (.list (bs.map PyData.bool)) from rv) with
  | lst hs ha =>
    have e := bools_of ha
    subst e
    exact ⟨_, bs, rfl, R.same.seq hs, k F S H _ _ (Sm.refl F) R mk_bl q⟩
/-- repr of data -/
def gRepr : RC3 := fun ws S Q => ∃ w d, ws = [w] ∧ viewW S w = some d ∧ d.showable = true ∧ d.hasDict = false ∧ d.depth ≤ 64 ∧ d.shown.length ≤ sizeLine ∧ Q (.str d.shown) S
theorem call_repr3 (hg : X.A.guards = some []) (hu : X.A.units + 70 < cLine) : CallR X (.builtin "repr") (fun xs H Q => ∃ x d, xs = [x] ∧ L2.Dp X.K H x d ∧ d.showable = true ∧ d.hasDict = false ∧ d.depth ≤ 64 ∧ d.shown.length ≤ sizeLine ∧ Q (.str d.shown) H) := by
  rintro pins s σ H _ us Q I rr ⟨x, d, rfl, hd, h1, h2, h3, h4, q⟩
  obtain ⟨u, eu, ru⟩ := vals1 rr
  subst eu
  obtain ⟨as, rd⟩ := L2.Dp.reads I d x u hd ru
  have big : ∀ a, u = .ref a → wpAny (model X.prog X.w) X.A (call (.builtin "repr") [u]) (EP X pins σ Q) X.xe s := fun a e => by
    subst e
    refine repr_of_reads' rd h1 (fun z => by rw [h2] at z; cases z) hg (by omega) (fun _ _ e => e) (fun h' t tk kp => ?_) h4
    exact ⟨.str d.shown, H, I.kept (t' := tk) kp, ⟨_, rfl⟩, q⟩
  cases hd with
  | non => cases ru; exact PySem.P.repr_of_none ⟨.str _, H, I.tok _, ⟨_, rfl⟩, q⟩
  | bl b => cases ru; exact PySem.P.repr_of_bool ⟨.str _, H, I.tok _, ⟨_, rfl⟩, q⟩
  | int i =>
    obtain ⟨t, rfl⟩ := ru
    exact PySem.P.repr_of_int (of_decide_eq_true h1) ⟨.str _, H, I.tok _, ⟨_, rfl⟩, q⟩
  | str z =>
    obtain ⟨t, rfl⟩ := ru
    exact PySem.P.repr_of_str ⟨.str _, H, I.tok _, ⟨_, rfl⟩, q⟩ h4
  | lst hs ha => cases ru; exact big _ rfl
  | tup hs ha => cases ru; exact big _ rfl
theorem l_repr : CallL K gRepr (fun xs H Q => ∃ x d, xs = [x] ∧ L2.Dp K H x d ∧ d.showable = true ∧ d.hasDict = false ∧ d.depth ≤ 64 ∧ d.shown.length ≤ sizeLine ∧ Q (.str d.shown) H) := fun F S H ws vs Q3 Q R r ⟨w, d, e, hd, h1, h2, h3, h4, q⟩ k => by
  subst e
  obtain ⟨v, rfl, rv⟩ := ws1 r
  exact ⟨v, d, rfl, view_rep R rv hd, h1, h2, h3, h4, k F S H _ _ (Sm.refl F) R mk_str q⟩
/-- isinstance of data and a built-in class -/
def tyD : PyData → String
  | .none => "NoneType"
  | .bool _ => "bool"
  | .int _ => "int"
  | .str _ => "str"
  | .list _ => "list"
  | .tuple _ => "tuple"
  | .dict _ => "dict"
def tyIs (t u : String) : Bool := t == u || (t == "bool" && u == "int")
theorem dp_ty {H : Hp} {x : V} {d : PyData} (h : L2.Dp K H x d) : TyX K H x (.type (tyD d)) := by
  cases h with
  | non => exact .base .non
  | bl b => exact .base (.bl b)
  | int i => exact .base (.int i)
  | str z => exact .base (.str z)
  | lst hs ha =>
    rcases hs with (h | ⟨o, h⟩) | ⟨o, its, n, h, c, _⟩
    · exact .base (.lst h)
    · exact .base (.frz h)
    · exact .kList h c
  | tup hs ha =>
    rcases hs with (h | ⟨o, h⟩) | ⟨o, its, n, h, c, _⟩
    · exact .base (.tup h)
    · exact .fTuple h
    · exact .kTuple h c
def isiB (d : PyData) (n : String) : Option Bool := kitB (tyD d) n
def gIsi : RC3 := fun ws S Q => ∃ w d n b, ws = [w, .ty n] ∧ viewW S w = some d ∧ isiB d n = some b ∧ Q (.bl b) S
theorem l_isi : CallL K gIsi (rIsi K) := fun F S H ws vs Q3 Q R r ⟨w, d, n, b, e, hd, hb, q⟩ k => by
  subst e
  obtain ⟨v, y, rfl, rv, ry⟩ := ws2 r
  cases (show y = .ty n from ry)
  exact ⟨v, .ty n, _, _, b, rfl, .ty n, dp_ty (view_rep R rv hd), kit_ty hb, k F S H _ _ (Sm.refl F) R mk_bl q⟩
end
end H3

namespace H3
open PySem PySem.Spec L2
open PyProof.Rows hiding St

/-! ### tuples and lists that are written -/
def tTup3 (t : TA3) : TE3 := fun τ S Q => t τ S fun ws S1 => ∃ ds : List PyData, ws = ds.map W.d ∧ ds.length ≤ 1000 ∧ Q (.tup ds) S1
def tLstD3 (t : TA3) : TE3 := fun τ S Q => t τ S fun ws S1 => ∃ ds : List PyData, ws = ds.map W.d ∧ ds.length ≤ 1000 ∧ Q (.lst ds) S1
def tLstM3 (t : TA3) : TE3 := fun τ S Q => t τ S fun ws S1 => ws.length ≤ 1000 ∧ ∀ p, S1 p = none → Q (.r p) (put S1 p (.lst ws))
theorem le1000 {n : Nat} (h : n ≤ 1000) : n ≤ sizeLine := Nat.le_trans h (by decide)
section
variable {X : Cx} {Ex : WX} {es : List Expr} {t : TA3} {pos : Pos}
theorem pe3_tup {x1} (h : PA X es (LA X.K Ex t)) : PE X (.Tuple es x1 pos) (LE X.K Ex (tTup3 t)) :=
  pe_imp (pe_tupN h) fun σ H Q ⟨F, S, τ, Q3, R, Ev, h, k⟩ => ⟨F, S, τ, _, R, Ev, h, fun F1 S1 H1 ws vs s1 R1 r1 ⟨ds, e, hl, q⟩ => by
    subst e
    have ra := all_of_repWs r1
    have hv : vs.length = ds.length := by have z := Paired.length r1; rw [List.length_map] at z; exact z.symm
    refine ⟨by rw [hv]; exact le1000 hl, fun p o hp no => ?_⟩
    obtain ⟨s, R', rw'⟩ := newTup R1 hp no ra
    exact k _ _ _ _ _ (s1.trans s) R' rw' q⟩
theorem le_lstD {K : PySem.W.Frag} : ∀ σ H Q, LE K Ex (tLstD3 t) σ H Q → tLst (LA K Ex t) σ H Q := fun σ H Q ⟨F, S, τ, Q3, R, Ev, h, k⟩ => ⟨F, S, τ, _, R, Ev, h, fun F1 S1 H1 ws vs s1 R1 r1 ⟨ds, e, hl, q⟩ => by
    subst e
    have ra := all_of_repWs r1
    have hv : vs.length = ds.length := by have z := Paired.length r1; rw [List.length_map] at z; exact z.symm
    refine ⟨by rw [hv]; exact le1000 hl, fun p hp => ?_⟩
    obtain ⟨s, R', rw'⟩ := newLst R1 hp ra
    exact k _ _ _ _ _ (s1.trans s) R' rw' q⟩
theorem pe3_lstD (h : PA X es (LA X.K Ex t)) : PE X (.List es pos) (LE X.K Ex (tLstD3 t)) := pe_imp (pe_lst h) le_lstD
theorem pe3_lstM (h : PA X es (LA X.K Ex t)) : PE X (.List es pos) (LE X.K Ex (tLstM3 t)) :=
  pe_imp (pe_lst h) fun σ H Q ⟨F, S, τ, Q3, R, Ev, h, k⟩ => ⟨F, S, τ, _, R, Ev, h, fun F1 S1 H1 ws vs s1 R1 r1 ⟨hl, q⟩ => by
    refine ⟨by rw [← Paired.length r1]; exact le1000 hl, fun p hp => ?_⟩
    exact k _ _ _ (.r p) _ s1 (newMut R1 hp r1) (show V.ref p = V.ref p from rfl) (q p (R1.freeS hp))⟩
end

/-! ### subscripts -/
theorem rep_get {K : PySem.W.Frag} {F : Fz} : ∀ {ws : List W} {vs : List V} {i : Nat} {w : W}, RepWs K F ws vs → ws[i]? = some w → ∃ v, vs[i]? = some v ∧ RepW K F w v
  | _, _, i, _, .nil, h => by simp at h
  | _, _, 0, _, .cons r _, h => by cases h; exact ⟨_, rfl, r⟩
  | _, _, i + 1, _, .cons _ t, h => rep_get (i := i) t h
theorem rep_at {K : PySem.W.Frag} {F : Fz} {ws : List W} {vs : List V} {i : Int} {w : W} (r : RepWs K F ws vs) (h : atI ws i = some w) : ∃ v, atI vs i = some v ∧ RepW K F w v := by
  unfold atI at h ⊢
  rw [← Paired.length r]
  cases e : ixN ws.length i with
  | none => rw [e] at h; exact nomatch h
  | some j => rw [e] at h; exact rep_get r h
/-- x[i] -/
def ixW (S : Sto) (i : Int) : W → Option W
  | .d (.str z) => if z.length ≤ sizeLine then (atI z.cps.toList i).map fun c => .str ⟨#[c]⟩ else none
  | w => (seqW S w).bind fun ws => atI ws i
def gIx : R3 := fun w u S Q => ∃ i x, u = .int i ∧ ixW S i w = some x ∧ Q x S
section
variable {X : Cx} {Ex : WX} {a b : Expr} {ta tb : TE3} {pos : Pos}
theorem l_ix {K : PySem.W.Frag} : OpL K gIx (rIx K) := fun F S H w u x y Q3 Q R rw ru ⟨i, z, e, hz, q⟩ k => by
  subst e
  have ey := rep_int ru
  have gen : (seqW S w).bind (fun ws => atI ws i) = some z → rIx K x y H Q := fun h => by
    cases e : seqW S w with
    | none => rw [e] at h; exact nomatch h
    | some ws =>
      rw [e] at h
      obtain ⟨p, vs, rfl, hs, rv⟩ := seq_rep R rw e
      obtain ⟨v, hv, r1⟩ := rep_at rv h
      have fin := k F S H _ _ (Sm.refl F) R r1 q
      rcases hs with hs | hs
      · exact .inl ⟨p, vs, i, v, rfl, ey, hs, hv, fin⟩
      · exact .inr (.inl ⟨p, vs, i, v, rfl, ey, hs, hv, fin⟩)
  cases w with
  | d x' =>
    cases x' with
    | str s =>
      have hz' : (if s.length ≤ sizeLine then (atI s.cps.toList i).map fun c => W.str ⟨#[c]⟩ else none) = some z := hz
      by_cases hl : s.length ≤ sizeLine
      · rw [if_pos hl] at hz'
        cases e : atI s.cps.toList i with
        | none => rw [e] at hz'; cases hz'
        | some c =>
          rw [e] at hz'
          cases hz'
          exact .inr (.inr ⟨s, i, c, rep_str rw, ey, hl, e, k F S H _ _ (Sm.refl F) R mk_str q⟩)
      · rw [if_neg hl] at hz'; cases hz'
    | none => exact gen hz
    | bool b => exact gen hz
    | int j => exact gen hz
    | list l => exact gen hz
    | tuple l => exact gen hz
    | dict l => exact gen hz
  | r p => exact gen hz
  | ty n => exact gen hz
theorem pe3_ix (ha : PE X a (LE X.K Ex ta)) (hb : PE X b (LE X.K Ex tb)) (hs : PlainIx b := by intro _ _; rfl) : PE X (.Subscript a b pos) (LE X.K Ex (tOp3 gIx ta tb)) := pe_imp (pe_ix ix_seq ha hb hs) (le_op l_ix)
end

/-! ### slices -/
abbrev TO3 := S3 → Sto → (Option Int → Sto → Prop) → Prop
def LO (K : PySem.W.Frag) (E : WX) (t : TO3) : TO := fun σ H Q => ∃ F S τ Q3, Rel K F S H ∧ EnvR K F E τ σ ∧ t τ S Q3 ∧ ∀ F' S' H' o, Sm F F' → Rel K F' S' H' → Q3 o S' → Q o H'
def tNoP3 : TO3 := fun _ S Q => Q none S
def tPart3 (t : TE3) : TO3 := fun τ S Q => t τ S fun w S1 => ∃ i, w = .int i ∧ Q (some i) S1
def tSl3 (r : W → Option Int → Option Int → Sto → K3 → Prop) (te : TE3) (tl th : TO3) : TE3 := fun τ S Q => te τ S fun w S1 => tl τ S1 fun l S2 => th τ S2 fun u S3 => r w l u S3 Q
def cutG {α : Type} (xs : List α) (lo hi : Option Int) : List α := (xs.drop (HT.sIx xs.length 0 lo)).take (HT.sIx xs.length xs.length hi - HT.sIx xs.length 0 lo)
section
variable {X : Cx} {Ex : WX} {e : Expr} {te : TE3} {lo hi : Option Expr} {tl th : TO3} {pos p2 : Pos}
theorem po3_none : PO X none (LO X.K Ex tNoP3) := ⟨fun pins s σ H Q I ⟨F, S, τ, Q3, R, Ev, h, k⟩ => po_none.run pins s σ H Q I (k F S H _ (Sm.refl F) R h)⟩
theorem po3_some (h : PE X e (LE X.K Ex te)) : PO X (some e) (LO X.K Ex (tPart3 te)) := ⟨fun pins s σ H Q I ⟨F, S, τ, Q3, R, Ev, hh, k⟩ => (po_some h).run pins s σ H Q I ⟨F, S, τ, _, R, Ev, hh, fun F1 S1 H1 w v s1 R1 r1 ⟨i, e, q⟩ => by
  subst e
  exact ⟨i, rep_int r1, k F1 S1 H1 _ s1 R1 q⟩⟩⟩
def SlL (K : PySem.W.Frag) (r3 : W → Option Int → Option Int → Sto → K3 → Prop) (r : V → Option Int → Option Int → Hp → VK → Prop) : Prop := ∀ F S H w x lo hi Q3 Q, Rel K F S H → RepW K F w x → r3 w lo hi S Q3 → KE K F Q3 Q → r x lo hi H Q
theorem le_sl {K : PySem.W.Frag} {r3 : W → Option Int → Option Int → Sto → K3 → Prop} {r : V → Option Int → Option Int → Hp → VK → Prop} (l : SlL K r3 r) : ∀ σ H Q, LE K Ex (tSl3 r3 te tl th) σ H Q → tSl r (LE K Ex te) (LO K Ex tl) (LO K Ex th) σ H Q := fun σ H Q ⟨F, S, τ, Q3, R, Ev, h, k⟩ =>
  ⟨F, S, τ, _, R, Ev, h, fun F1 S1 H1 w x s1 R1 r1 h1 => ⟨F1, S1, τ, _, R1, Ev.mono s1, h1, fun F2 S2 H2 o s2 R2 h2 => ⟨F2, S2, τ, _, R2, Ev.mono (s1.trans s2), h2, fun F3 S3 H3 u s3 R3 h3 =>
    l F3 S3 H3 w x o u Q3 Q R3 (r1.mono (s2.trans s3)) h3 (k.mono (s1.trans (s2.trans s3)))⟩⟩⟩
theorem dpAll_len {K : PySem.W.Frag} {F : Hp} : ∀ {vs : List V} {ds : List PyData}, DpAll K F vs ds → vs.length = ds.length
  | _, _, .nil => rfl
  | _, _, .cons _ t => congrArg Nat.succ (dpAll_len t)
theorem dpAll_cut {K : PySem.W.Frag} {F : Hp} {vs : List V} {ds : List PyData} (h : DpAll K F vs ds) (lo hi : Option Int) : DpAll K F (cutV vs lo hi) (cutG ds lo hi) := by
  have hl : vs.length = ds.length := dpAll_len h
  have tk : ∀ {n : Nat} {vs : List V} {ds : List PyData}, DpAll K F vs ds → DpAll K F (vs.take n) (ds.take n) := fun {n} => by
    induction n with
    | zero => intro vs ds _; simp; exact .nil
    | succ n ih =>
      intro vs ds h
      cases h with
      | nil => simp; exact .nil
      | cons a t => exact .cons a (ih t)
  have dr : ∀ {n : Nat} {vs : List V} {ds : List PyData}, DpAll K F vs ds → DpAll K F (vs.drop n) (ds.drop n) := fun {n} => by
    induction n with
    | zero => intro vs ds h; exact h
    | succ n ih =>
      intro vs ds h
      cases h with
      | nil => simp; exact .nil
      | cons a t => exact ih t
  unfold cutV cutG
  rw [hl]
  exact tk (dr h)
/-- a list's slice, to stay -/
def gSlL : W → Option Int → Option Int → Sto → K3 → Prop := fun w lo hi S Q => ∃ ds, viewW S w = some (.list ds) ∧ Q (.lst (cutG ds lo hi)) S
theorem l_slL {K : PySem.W.Frag} : SlL K gSlL (rSlL K) := fun F S H w x lo hi Q3 Q R rw ⟨ds, hd, q⟩ k => by
  obtain ⟨a, vs, rfl, hs, ha, _⟩ := list_rep R rw hd
  refine ⟨a, vs, rfl, hs, fun p hp => ?_⟩
  obtain ⟨s, R', rw'⟩ := newLst R hp (dpAll_cut ha lo hi)
  exact k _ _ _ _ _ s R' rw' q
/-- a tuple's slice -/
def gSlT : W → Option Int → Option Int → Sto → K3 → Prop := fun w lo hi S Q => ∃ ds, w = .tup ds ∧ Q (.tup (cutG ds lo hi)) S
theorem cutG_all {α : Type} {xs : List α} {lo hi : Option Int} (h : HT.sIx xs.length 0 lo = 0 ∧ HT.sIx xs.length xs.length hi = xs.length) : cutG xs lo hi = xs := by
  unfold cutG
  rw [h.1, h.2]
  simp
theorem l_slT {K : PySem.W.Frag} : SlL K gSlT (rSlN K) := fun F S H w x lo hi Q3 Q R rw ⟨ds, hd, q⟩ k => by
  subst hd
  obtain ⟨_, a, vs, rfl, hs, ha⟩ := tup_rep R rw rfl
  have hl : vs.length = ds.length := dpAll_len ha
  refine ⟨a, vs, rfl, hs, ?_⟩
  refine ⟨fun hw => ?_, fun _ p o hp no => ?_⟩
  · rw [hl] at hw
    rw [cutG_all hw] at q
    exact k F S H _ _ (Sm.refl F) R rw q
  · obtain ⟨s, R', rw'⟩ := newTup R hp no (dpAll_cut ha lo hi)
    exact k _ _ _ _ _ s R' rw' q
/-- a text's slice -/
def gSlS : W → Option Int → Option Int → Sto → K3 → Prop := fun w lo hi S Q => ∃ z, w = .str z ∧ z.length ≤ sizeLine ∧ Q (.str (cutS z lo hi)) S
/-- xs[::-1] -/
def tRev3 (te : TE3) : TE3 := fun τ S Q => te τ S fun w S1 => ∃ ds, viewW S1 w = some (.list ds) ∧ Q (.lst ds.reverse) S1
theorem dpAll_rev {K : PySem.W.Frag} {F : Hp} {vs : List V} {ds : List PyData} (h : DpAll K F vs ds) : DpAll K F vs.reverse ds.reverse := by
  have ap : ∀ {vs us : List V} {ds es : List PyData}, DpAll K F vs ds → DpAll K F us es → DpAll K F (vs ++ us) (ds ++ es) := fun {vs us ds es} h1 h2 => by
    revert ds
    induction vs with
    | nil => intro ds h1; cases h1; exact h2
    | cons v vs ih => intro ds h1; cases h1 with | cons a t => exact .cons a (ih t)
  revert ds
  induction vs with
  | nil => intro ds h; cases h; exact .nil
  | cons v vs ih =>
    intro ds h
    cases h with
    | cons a t =>
      simp only [List.reverse_cons]
      exact ap (ih t) (.cons a .nil)
theorem pe3_rev {k : Nat} {p1 p2 p3 pos : Pos} (he : PE X e (LE X.K Ex te)) : PE X (.Subscript e (.Slice none none (some (.UnaryOp .USub (.Constant (.int 1) k p1) p2)) p3) pos) (LE X.K Ex (tRev3 te)) :=
  pe_imp (pe_revL he) fun σ H Q ⟨F, S, τ, Q3, R, Ev, h, k⟩ => ⟨F, S, τ, _, R, Ev, h, fun F1 S1 H1 w x s1 R1 r1 ⟨ds, hd, q⟩ => by
    obtain ⟨a, vs, rfl, hs, ha, _⟩ := list_rep R1 r1 hd
    refine ⟨a, vs, rfl, hs, fun p hp => ?_⟩
    obtain ⟨s, R', rw'⟩ := newLst R1 hp (dpAll_rev ha)
    exact k _ _ _ _ _ (s1.trans s) R' rw' q⟩
theorem pe3_slice {r3 : W → Option Int → Option Int → Sto → K3 → Prop} {r : V → Option Int → Option Int → Hp → VK → Prop} (hr : SlR X r) (l : SlL X.K r3 r) (he : PE X e (LE X.K Ex te)) (hl : PO X lo (LO X.K Ex tl)) (hu : PO X hi (LO X.K Ex th)) :
    PE X (.Subscript e (.Slice lo hi none p2) pos) (LE X.K Ex (tSl3 r3 te tl th)) := pe_imp (pe_slice hr he hl hu) (le_sl l)
end

/-! ### methods of lists that are changed -/
abbrev RM3 := W → List W → Sto → K3 → Prop
def MtL (K : PySem.W.Frag) (r3 : RM3) (r : V → List V → Hp → VK → Prop) : Prop := ∀ F S H w ws x vs Q3 Q, Rel K F S H → RepW K F w x → RepWs K F ws vs → r3 w ws S Q3 → KE K F Q3 Q → r x vs H Q
def isLst (S : Sto) (w : W) : Prop := (∃ ds, w = .lst ds) ∨ ∃ a ws, w = .r a ∧ S a = some (.lst ws)
def tBM3 (r : RM3) (to : TE3) (t : TA3) : TE3 := fun τ S Q => to τ S fun w S1 => isLst S1 w ∧ t τ S1 fun ws S2 => r w ws S2 Q
def tBM03 (r : RM3) (to : TE3) : TE3 := fun τ S Q => to τ S fun w S1 => isLst S1 w ∧ r w [] S1 Q
section
variable {X : Cx} {Ex : WX} {o e : Expr} {es : List Expr} {to : TE3} {t : TA3} {name : Str} {apos cpos : Pos} {id : String} {r3 : RM3} {r : V → List V → Hp → VK → Prop}
theorem isLst_ty {K : PySem.W.Frag} {F : Fz} {S : Sto} {H : Hp} {w : W} {v : V} (R : Rel K F S H) (rw : RepW K F w v) (h : isLst S w) : tyV K "list" v H := by
  rcases h with ⟨ds, rfl⟩ | ⟨a, ws, rfl, h⟩
  · cases (show Dp K F.f v (.list ds) from rw) with | lst h3 h4 => exact .inl ⟨rfl, _, R.same.seq h3⟩
  · obtain ⟨_, o, ho, vs, rfl, _⟩ := R.st a _ h
    cases (show v = .ref a from rw)
    exact .inl ⟨rfl, vs, .inl (.inl ho)⟩
theorem pe3_bm (slot : Slot "list" name id) (hty : typeOf (.builtin id) = pure (.type "method_descriptor")) (hm : MtR X id r) (l : MtL X.K r3 r) (ho : PE X o (LE X.K Ex to)) (ha : PA X (e :: es) (LA X.K Ex t))
    (mc : MCall X o name apos cpos e es := by exact ⟨rfl, rfl, rfl, rfl, rfl⟩) :
    PE X (.Call (.Attribute o name apos) (e :: es) [] cpos) (LE X.K Ex (tBM3 r3 to t)) :=
  pe_imp (pe_bm PySem.F.plainAttrs_list slot hty hm ho ha mc.base mc.few mc.sameRow mc.star mc.plain) fun σ H Q ⟨F, S, τ, Q3, R, Ev, h, k⟩ => ⟨F, S, τ, _, R, Ev, h, fun F1 S1 H1 w x s1 R1 r1 ⟨hl, h1⟩ =>
    ⟨isLst_ty R1 r1 hl, F1, S1, τ, _, R1, Ev.mono s1, h1, fun F2 S2 H2 ws vs s2 R2 r2 h2 => l F2 S2 H2 w ws x vs Q3 Q R2 (r1.mono s2) r2 h2 (k.mono (s1.trans s2))⟩⟩
theorem pe3_bm0 (slot : Slot "list" name id) (hty : typeOf (.builtin id) = pure (.type "method_descriptor")) (hm : MtR X id r) (l : MtL X.K r3 r) (ho : PE X o (LE X.K Ex to))
    (hbase : attributeBase o name X.env (eval o X.env) = eval o X.env := by rfl) (hline : (apos.endLine == cpos.line) = true := by rfl) : PE X (.Call (.Attribute o name apos) [] [] cpos) (LE X.K Ex (tBM03 r3 to)) :=
  pe_imp (pe_bm0 PySem.F.plainAttrs_list slot hty hm ho hbase hline) fun σ H Q ⟨F, S, τ, Q3, R, Ev, h, k⟩ => ⟨F, S, τ, _, R, Ev, h, fun F1 S1 H1 w x s1 R1 r1 ⟨hl, h1⟩ =>
    ⟨isLst_ty R1 r1 hl, l F1 S1 H1 w [] x [] Q3 Q R1 r1 .nil h1 (k.mono s1)⟩⟩
end
section
variable {K : PySem.W.Frag}
theorem wr_lst {F : Fz} {S : Sto} {H : Hp} {a : Addr} {ws us : List W} {vs : List V} (R : Rel K F S H) (h : S a = some (.lst ws)) (r : RepWs K F us vs) : Rel K F (put S a (.lst us)) (upd H a (.lst vs)) := R.write h ⟨vs, rfl, r⟩
theorem rd_lst {F : Fz} {S : Sto} {H : Hp} {a : Addr} {ws : List W} (R : Rel K F S H) (h : S a = some (.lst ws)) : ∃ vs, H a = some (.lst vs) ∧ RepWs K F ws vs := by
  obtain ⟨_, o, ho, vs, rfl, r⟩ := R.st a _ h
  exact ⟨vs, ho, r⟩
theorem rep_app {F : Fz} {ws us : List W} {vs xs : List V} (h : RepWs K F ws vs) (g : RepWs K F us xs) : RepWs K F (ws ++ us) (vs ++ xs) := by
  induction h with
  | nil => exact g
  | cons a _ ih => exact .cons a ih
def gAppend : RM3 := fun w us S Q => ∃ a ws x, w = .r a ∧ us = [x] ∧ S a = some (.lst ws) ∧ ws.length < sizeLine ∧ Q .non (put S a (.lst (ws ++ [x])))
theorem l_append : MtL K gAppend rAppend := fun F S H w us x vs Q3 Q R rw ru ⟨a, ws, y, e1, e2, h, hz, q⟩ k => by
  subst e1 e2
  obtain ⟨v, rfl, rv⟩ := ws1 ru
  obtain ⟨xs, hx, rx⟩ := rd_lst R h
  exact ⟨a, xs, v, rw, rfl, hx, by rw [← Paired.length rx]; exact hz, k F _ _ _ _ (Sm.refl F) (wr_lst R h (rep_app rx (.cons rv .nil))) mk_non q⟩
theorem rep_dropLast {F : Fz} {ws : List W} {vs : List V} (h : RepWs K F ws vs) : RepWs K F ws.dropLast vs.dropLast := by
  induction h with
  | nil => exact .nil
  | cons a t ih =>
    cases t with
    | nil => exact .nil
    | cons b s => exact .cons a ih
theorem rep_erase {F : Fz} : ∀ {ws : List W} {vs : List V} {i : Nat}, RepWs K F ws vs → RepWs K F (ws.eraseIdx i) (vs.eraseIdx i)
  | _, _, i, .nil => by simp; exact .nil
  | _, _, 0, .cons a t => t
  | _, _, i + 1, .cons a t => .cons a (rep_erase (i := i) t)
theorem rep_set {F : Fz} {w : W} {v : V} (r : RepW K F w v) : ∀ {ws : List W} {vs : List V} {i : Nat}, RepWs K F ws vs → RepWs K F (ws.set i w) (vs.set i v)
  | _, _, i, .nil => by simp; exact .nil
  | _, _, 0, .cons a t => .cons r t
  | _, _, i + 1, .cons a t => .cons a (rep_set r (i := i) t)
def gPop : RM3 := fun w us S Q => ∃ a ws x, w = .r a ∧ us = [] ∧ S a = some (.lst ws) ∧ ws[ws.length - 1]? = some x ∧ Q x (put S a (.lst ws.dropLast))
theorem l_pop : MtL K gPop rPop := fun F S H w us x vs Q3 Q R rw ru ⟨a, ws, y, e1, e2, h, hy, q⟩ k => by
  subst e1 e2
  cases ru
  obtain ⟨xs, hx, rx⟩ := rd_lst R h
  obtain ⟨v, hv, rv⟩ := rep_get rx hy
  exact ⟨a, xs, v, rw, rfl, hx, by rw [← Paired.length rx]; exact hv, k F _ _ _ _ (Sm.refl F) (wr_lst R h (rep_dropLast rx)) rv q⟩
def gPopAt : RM3 := fun w us S Q => ∃ a ws i x, w = .r a ∧ us = [.int ((i : Nat) : Int)] ∧ S a = some (.lst ws) ∧ ws[i]? = some x ∧ i < 2 ^ 62 ∧ Q x (put S a (.lst (ws.eraseIdx i)))
theorem l_popAt : MtL K gPopAt rPopAt := fun F S H w us x vs Q3 Q R rw ru ⟨a, ws, i, y, e1, e2, h, hy, hi, q⟩ k => by
  subst e1 e2
  obtain ⟨u, rfl, ri⟩ := ws1 ru
  cases rep_int ri
  obtain ⟨xs, hx, rx⟩ := rd_lst R h
  obtain ⟨v, hv, rv⟩ := rep_get rx hy
  have hlt := (List.getElem?_eq_some_iff.mp hv).1
  refine ⟨a, xs, i, i, v, rw, rfl, hx, by omega, by omega, ?_, hv, k F _ _ _ _ (Sm.refl F) (wr_lst R h (rep_erase rx)) rv q⟩
  rw [PySem.seqIndex_of (by omega) (by omega)]
  simp
def gInsert : RM3 := fun w us S Q => ∃ a ws x i, w = .r a ∧ us = [.int ((i : Nat) : Int), x] ∧ S a = some (.lst ws) ∧ i ≤ ws.length ∧ ws.length < sizeLine ∧ Q .non (put S a (.lst (ws.take i ++ x :: ws.drop i)))
/-- xs[i] = v -/
def gSet : W → W → W → Sto → (Sto → Prop) → Prop := fun w u x S Q => ∃ a ws i j, w = .r a ∧ u = .int i ∧ S a = some (.lst ws) ∧ ixN ws.length i = some j ∧ Q (put S a (.lst (ws.set j x)))
end
end H3

namespace H3
open PySem PySem.Spec L2
open PyProof.Rows hiding St

/-! ### statements -/
def tNext3 : TS3 := fun D τ S => D.nx τ S
def tSeq3 (t u : TS3) : TS3 := fun D τ S => t { D with nx := u D } τ S
def tSet3 (i : Nat) (t : TE3) : TS3 := fun D τ S => t τ S fun w S1 => D.nx (τ.set i (some w)) S1
def tDrop3 (t : TE3) : TS3 := fun D τ S => t τ S fun _ S1 => D.nx τ S1
def tRet3 (t : TE3) : TS3 := fun D τ S => t τ S D.rt
def tRetN3 : TS3 := fun D _ S => D.rt .non S
def tIf3 (c : TT3) (t u : TS3) : TS3 := fun D τ S => c τ S fun b S1 => (b = true → t D τ S1) ∧ (b = false → u D τ S1)
def tBreak3 : TS3 := fun D τ S => D.bk τ S
def tCont3 : TS3 := fun D τ S => D.ct τ S
def tNever3 : TS3 := fun _ _ _ => False
/-- nothing is done, but that the list in a slot is not changed any more -/
def tFrz3 (i : Nat) (t : TS3) : TS3 := fun D τ S => ∃ a ds, τ.sl[i]? = some (some (.r a)) ∧ S a = some (.lst (ds.map W.d)) ∧ t D (τ.set i (some (.lst ds))) (drp S a)
section
variable {X : Cx} {Ex : WX} {st : Stmt} {rest : List Stmt} {t u : TS3} {te : TE3} {e : Expr} {pos : Pos}
theorem pss3_nil : PSs X [] (LS X.K Ex tNext3) := pss_imp pss_nil fun D σ H ⟨F, S, τ, D3, R, Ev, h, k⟩ => k.nx F S H τ σ (Sm.refl F) R Ev h
theorem pss3_cons (h1 : PS X st (LS X.K Ex t)) (h2 : PSs X rest (LS X.K Ex u)) : PSs X (st :: rest) (LS X.K Ex (tSeq3 t u)) :=
  pss_imp (pss_cons h1 h2) fun D σ H ⟨F, S, τ, D3, R, Ev, h, k⟩ => ⟨F, S, τ, _, R, Ev, h, fun F1 S1 H1 τ1 σ1 s1 R1 Ev1 h1 => ⟨F1, S1, τ1, D3, R1, Ev1, h1, k.mono s1⟩, k.rt, k.bk, k.ct⟩
theorem pss3_one (h1 : PS X st (LS X.K Ex t)) : PSs X [st] (LS X.K Ex t) := pss_one h1
theorem ps3_set (i : Nat) {x : Str} {pos' : Pos} (hN : X.N.Nodup) (hi : X.N[i]? = some x := by rfl) (he : PE X e (LE X.K Ex te)) (hx : Loc X.env.scope x := by first | exact Or.inl rfl | exact Or.inr rfl) (hs : swapsWith e (some (.Name x pos')) pos.line X.env = pure false := by rfl)
    (hf : X.fn x = true ∨ X.env.scope.names.lookup x = some .local := by first | exact .inl rfl | exact .inr rfl | assumption) : PS X (.Assign [.Name x pos'] e pos) (LS X.K Ex (tSet3 i te)) :=
  ps_imp (ps_set hN hi hx he hs hf) fun D σ H ⟨F, S, τ, D3, R, Ev, h, k⟩ => ⟨F, S, τ, _, R, Ev, h, fun F1 S1 H1 w v s1 R1 r1 h1 => k.nx F1 S1 H1 _ _ s1 R1 ((Ev.mono s1).set r1) h1⟩
theorem ps3_expr (he : PE X e (LE X.K Ex te)) (hs : swapsWith e none pos.line X.env = pure false := by rfl) : PS X (.Expr e pos) (LS X.K Ex (tDrop3 te)) :=
  ps_imp (ps_expr he hs) fun D σ H ⟨F, S, τ, D3, R, Ev, h, k⟩ => ⟨F, S, τ, _, R, Ev, h, fun F1 S1 H1 w v s1 R1 r1 h1 => k.nx F1 S1 H1 _ _ s1 R1 (Ev.mono s1) h1⟩
theorem ps3_ret (he : PE X e (LE X.K Ex te)) : PS X (.Return (some e) pos) (LS X.K Ex (tRet3 te)) :=
  ps_imp (ps_ret he) fun D σ H ⟨F, S, τ, D3, R, Ev, h, k⟩ => ⟨F, S, τ, _, R, Ev, h, k.rt⟩
theorem ps3_retN : PS X (.Return none pos) (LS X.K Ex tRetN3) := ps_imp ps_retN fun D σ H ⟨F, S, τ, D3, R, Ev, h, k⟩ => k.rt F S H _ _ (Sm.refl F) R mk_non h
theorem ps3_if {c : Expr} {a b : List Stmt} {tc : TT3} (hc : PT X c (LT X.K Ex tc)) (ha : PSs X a (LS X.K Ex t)) (hb : PSs X b (LS X.K Ex u)) : PS X (.If c a b pos) (LS X.K Ex (tIf3 tc t u)) :=
  ps_imp (ps_if hc ha hb) fun D σ H ⟨F, S, τ, D3, R, Ev, h, k⟩ => ⟨F, S, τ, _, R, Ev, h, fun F1 S1 H1 b s1 R1 ⟨h1, h2⟩ => by
    cases b with
    | true => exact iteT ⟨F1, S1, τ, D3, R1, Ev.mono s1, h1 rfl, k.mono s1⟩
    | false => exact iteF ⟨F1, S1, τ, D3, R1, Ev.mono s1, h2 rfl, k.mono s1⟩⟩
theorem ps3_pass : PS X (.Pass pos) (LS X.K Ex tNext3) := ps_imp ps_pass fun D σ H ⟨F, S, τ, D3, R, Ev, h, k⟩ => k.nx F S H τ σ (Sm.refl F) R Ev h
theorem ps3_break : PS X (.Break pos) (LS X.K Ex tBreak3) := ps_imp ps_break fun D σ H ⟨F, S, τ, D3, R, Ev, h, k⟩ => k.bk F S H τ σ (Sm.refl F) R Ev h
theorem ps3_cont : PS X (.Continue pos) (LS X.K Ex tCont3) := ps_imp ps_continue fun D σ H ⟨F, S, τ, D3, R, Ev, h, k⟩ => k.ct F S H τ σ (Sm.refl F) R Ev h
theorem ps3_never : PS X st (LS X.K Ex tNever3) := ps_imp ps_never fun D σ H ⟨F, S, τ, D3, R, Ev, h, k⟩ => h
theorem pss3_frz (i : Nat) {sts : List Stmt} (h : PSs X sts (LS X.K Ex t)) : PSs X sts (LS X.K Ex (tFrz3 i t)) :=
  pss_imp h fun D σ H ⟨F, S, τ, D3, R, Ev, ⟨a, ds, hi, hS, h⟩, k⟩ => by
    obtain ⟨F', s, R', r⟩ := R.freeze hS
    obtain ⟨v, hv, rv⟩ := Ev.sl.2 i _ hi
    cases (show v = .ref a from rv)
    have e := (Ev.mono s).set (i := i) r
    have z : σ.set i (some (V.ref a)) = σ := by
      apply List.ext_getElem?
      intro j
      by_cases hj : i = j
      · subst hj
        rw [List.getElem?_set_self (List.getElem?_eq_some_iff.mp hv).1, hv]
      · rw [List.getElem?_set_ne hj]
    rw [z] at e
    exact ⟨F', drp S a, _, D3, R', e, h, k.mono s⟩

/-! ### targets -/
abbrev TG3 := W → S3 → Sto → (S3 → Sto → Prop) → Prop
abbrev TGs3 := List W → S3 → Sto → (S3 → Sto → Prop) → Prop
def LG (K : PySem.W.Frag) (E : WX) (g : TG3) : TG := fun v σ H Q => ∃ F S τ w Q3, Rel K F S H ∧ EnvR K F E τ σ ∧ RepW K F w v ∧ g w τ S Q3 ∧ KS K F E Q3 Q
def LGs (K : PySem.W.Frag) (E : WX) (g : TGs3) : TGs := fun vs σ H Q => ∃ F S τ ws Q3, Rel K F S H ∧ EnvR K F E τ σ ∧ RepWs K F ws vs ∧ g ws τ S Q3 ∧ KS K F E Q3 Q
theorem pg_imp {e : Expr} {t u : TG} (h : PG X e t) (i : ∀ v σ H Q, u v σ H Q → t v σ H Q) : PG X e u := ⟨fun pins s σ H v uu Q I r q => h.run pins s σ H v uu Q I r (i _ _ _ _ q)⟩
theorem pgs_imp {e : List Expr} {t u : TGs} (h : PGs X e t) (i : ∀ v σ H Q, u v σ H Q → t v σ H Q) : PGs X e u := ⟨fun pins s σ H v uu Q I r q => h.run pins s σ H v uu Q I r (i _ _ _ _ q)⟩
def gName3 (i : Nat) : TG3 := fun w τ S Q => Q (τ.set i (some w)) S
theorem pg3_name (i : Nat) {x : Str} (hN : X.N.Nodup) (hi : X.N[i]? = some x := by rfl) (hx : Loc X.env.scope x := by first | exact Or.inl rfl | exact Or.inr rfl) (hf : X.fn x = true ∨ X.env.scope.names.lookup x = some .local := by first | exact .inl rfl | exact .inr rfl | assumption) : PG X (.Name x pos) (LG X.K Ex (gName3 i)) :=
  pg_imp (pg_name hN hi hx hf) fun v σ H Q ⟨F, S, τ, w, Q3, R, Ev, r, h, k⟩ => k F S H _ _ (Sm.refl F) R (Ev.set r) h
def gNil3 : TGs3 := fun ws τ S Q => ws = [] ∧ Q τ S
def gCons3 (t : TG3) (u : TGs3) : TGs3 := fun ws τ S Q => ∃ w r, ws = w :: r ∧ t w τ S fun τ' S' => u r τ' S' Q
theorem pgs3_nil : PGs X [] (LGs X.K Ex gNil3) := pgs_imp pgs_nil fun vs σ H Q ⟨F, S, τ, ws, Q3, R, Ev, r, ⟨e, h⟩, k⟩ => by
  subst e
  cases r
  exact ⟨rfl, k F S H _ _ (Sm.refl F) R Ev h⟩
theorem pgs3_cons {es : List Expr} {g : TG3} {gs : TGs3} (h1 : PG X e (LG X.K Ex g)) (h2 : PGs X es (LGs X.K Ex gs)) (hs : (assignEach (e :: es) X.env).map (·.2) = assign e X.env :: (assignEach es X.env).map (·.2) := by rfl) : PGs X (e :: es) (LGs X.K Ex (gCons3 g gs)) := pgs_imp (pgs_cons h1 h2 hs) fun vs σ H Q ⟨F, S, τ, ws, Q3, R, Ev, r, ⟨w, us, e, h⟩, k⟩ => by
  subst e
  cases r with
  | cons a t => exact ⟨_, _, rfl, F, S, τ, w, _, R, Ev, a, h, fun F1 S1 H1 τ1 σ1 s1 R1 Ev1 h1 => ⟨F1, S1, τ1, us, Q3, R1, Ev1, RepWs.mono s1 t, h1, k.mono s1⟩⟩
/-- a tuple of targets for a tuple of data -/
def gTup3 (n : Nat) (gs : TGs3) : TG3 := fun w τ S Q => ∃ ds, w = .tup ds ∧ ds.length = n ∧ gs (ds.map W.d) τ S Q
theorem pg3_tup {es : List Expr} {kk n : Nat} {gs : TGs3} (hc : X.calm = true) (h : PGs X es (LGs X.K Ex gs)) (hn : (assignEach es X.env).length = n := by rfl) (hst : (assignEach es X.env).findIdx? (·.1) = none := by rfl) : PG X (.Tuple es kk pos) (LG X.K Ex (gTup3 n gs)) :=
  pg_imp (pg_tup hc h hn hst) fun v σ H Q ⟨F, S, τ, w, Q3, R, Ev, r, ⟨ds, e, hl, h⟩, k⟩ => by
    subst e
    obtain ⟨_, a, vs, rfl, hs, ha⟩ := tup_rep R r rfl
    exact ⟨a, vs, rfl, hs, by rw [dpAll_len ha]; exact hl, F, S, τ, _, Q3, R, Ev, repWs_of_all ha, h, k⟩
/-- o[i] = v -/
def gSub3 (to ti : TE3) (t : W → W → W → Sto → (Sto → Prop) → Prop) : TG3 := fun v τ S Q => to τ S fun o S1 => ti τ S1 fun i S2 => t o i v S2 fun S3 => Q τ S3
def gSetL : W → W → W → Sto → (Sto → Prop) → Prop := fun w u x S Q => ∃ a ws i j, w = .r a ∧ u = .int i ∧ S a = some (.lst ws) ∧ ixN ws.length i = some j ∧ Q (put S a (.lst (ws.set j x)))
/-- what a target o[i] does, as the text has it -/
def SubTo (X : Cx) (o i : Expr) (pos : Pos) : Prop := ∀ v, assign (.Subscript o i pos) X.env v = (do let a ← holding [v] (eval o X.env); let b ← holding [v, a] (eval i X.env); standAt pos; holding [v, a, b] (setItem a b v); release [v, a, b] [])
theorem pg3_sub {o i : Expr} {to ti : TE3} (ho : PE X o (LE X.K Ex to)) (hi : PE X i (LE X.K Ex ti)) (ha : SubTo X o i pos := by intro _; rfl) : PG X (.Subscript o i pos) (LG X.K Ex (gSub3 to ti gSetL)) :=
  pg_imp (pg_sub ho hi set_list ha) fun v σ H Q ⟨F, S, τ, w, Q3, R, Ev, r, h, k⟩ => ⟨F, S, τ, _, R, Ev, h, fun F1 S1 H1 ow ov s1 R1 r1 h1 => ⟨F1, S1, τ, _, R1, Ev.mono s1, h1, fun F2 S2 H2 iw iv s2 R2 r2 ⟨a, ws, n, j, e1, e2, hS, hj, h2⟩ => by
    subst e1 e2
    obtain ⟨xs, hx, rx⟩ := rd_lst R2 hS
    exact ⟨a, xs, n, j, r1, rep_int r2, hx, by rw [← Paired.length rx]; exact hj, k _ _ _ _ _ (s1.trans s2) (wr_lst R2 hS (rep_set (r.mono (s1.trans s2)) rx)) (Ev.mono (s1.trans s2)) h2⟩⟩⟩
def tAsg3 (te : TE3) (g : TG3) : TS3 := fun D τ S => te τ S fun w S1 => g w τ S1 D.nx
theorem ps3_asg {tg : Expr} {g : TG3} (he : PE X e (LE X.K Ex te)) (hg : PG X tg (LG X.K Ex g)) (hs : swapsWithSole [tg] e pos.line X.env = pure false := by rfl) (hw : swappedStores [tg] e X.env = pure none := by rfl)
    (h1 : (assignEach [tg] X.env).map (·.2) = [assign tg X.env] := by rfl) : PS X (.Assign [tg] e pos) (LS X.K Ex (tAsg3 te g)) :=
  ps_imp (ps_asg he hg hs hw h1) fun D σ H ⟨F, S, τ, D3, R, Ev, h, k⟩ => ⟨F, S, τ, _, R, Ev, h, fun F1 S1 H1 w v s1 R1 r1 h1 => ⟨F1, S1, τ, w, _, R1, Ev.mono s1, r1, h1, k.nx.mono s1⟩⟩
/-- a, b, .. = x, y, ..: names and values that are written -/
def tUnp3 (ta : TA3) (gs : TGs3) : TS3 := fun D τ S => ta τ S fun ws S1 => ws.length ≤ 1000 ∧ gs ws τ S1 D.nx
theorem ps3_unp {es ts : List Expr} {ta : TA3} {gs : TGs3} {x1 kk n : Nat} {p1 p2 : Pos} (hc : X.calm = true) (ha : PA X es (LA X.K Ex ta)) (hg : PGs X ts (LGs X.K Ex gs)) (hl : ∀ ws τ S Q, gs ws τ S Q → ws.length = n) (hn : (assignEach ts X.env).length = n := by rfl)
    (hst : (assignEach ts X.env).findIdx? (·.1) = none := by rfl) (hs : swapsWithSole [.Tuple ts kk p1] (.Tuple es x1 p2) pos.line X.env = pure false := by rfl) (hw : swappedStores [.Tuple ts kk p1] (.Tuple es x1 p2) X.env = pure none := by rfl)
    (h1 : (assignEach [.Tuple ts kk p1] X.env).map (·.2) = [assign (.Tuple ts kk p1) X.env] := by rfl) : PS X (.Assign [.Tuple ts kk p1] (.Tuple es x1 p2) pos) (LS X.K Ex (tUnp3 ta gs)) :=
  ps_imp (ps_asg (pe_tup ha) (pg_tup hc hg hn hst) hs hw h1) fun D σ H ⟨F, S, τ, D3, R, Ev, h, k⟩ => ⟨F, S, τ, _, R, Ev, h, fun F1 S1 H1 ws vs s1 R1 r1 ⟨hz, h1⟩ => by
    refine ⟨by rw [← Paired.length r1]; exact le1000 hz, fun p hp => ?_⟩
    have s2 := sm_new (p := p) (o := HO.tup vs) (R1.freeF hp)
    exact ⟨p, vs, rfl, SqT.of upd_same, by rw [← Paired.length r1]; exact hl _ _ _ _ h1, F1.new p (.tup vs), S1, τ, ws, _, R1.newF hp, Ev.mono (s1.trans s2), RepWs.mono s2 r1, h1, k.nx.mono (s1.trans s2)⟩⟩
/-- a, b = x, y: plain local names -/
def tPar3 (i j : Nat) (ta : TA3) : TS3 := fun D τ S => ta τ S fun ws S1 => ∃ v w, ws = [v, w] ∧ D.nx ((τ.set i (some v)).set j (some w)) S1
theorem ps3_par (i j : Nat) {x y : Str} {a b : Expr} {ta : TA3} {px py pt : Pos} {kt k2 pt2} (hc : X.calm = true) (hN : X.N.Nodup) (ha : PA X [a, b] (LA X.K Ex ta)) (hi : X.N[i]? = some x := by rfl) (hj : X.N[j]? = some y := by rfl) (hij : i ≠ j := by decide)
    (hx : X.env.scope.names.lookup x = some .local := by rfl) (hy : X.env.scope.names.lookup y = some .local := by rfl)
    (hw : swappedStores [.Tuple [.Name x px, .Name y py] kt pt] (.Tuple [a, b] k2 pt2) X.env = pure (some [x, y]) := by rfl) (hs : swapsWithSole [.Tuple [.Name x px, .Name y py] kt pt] (.Tuple [a, b] k2 pt2) pos.line X.env = pure false := by rfl) :
    PS X (.Assign [.Tuple [.Name x px, .Name y py] kt pt] (.Tuple [a, b] k2 pt2) pos) (LS X.K Ex (tPar3 i j ta)) :=
  ps_imp (ps_par hc hN hi hj hij hx hy ha hw hs) fun D σ H ⟨F, S, τ, D3, R, Ev, h, k⟩ => ⟨F, S, τ, _, R, Ev, h, fun F1 S1 H1 ws vs s1 R1 r1 ⟨v, w, e, h1⟩ => by
    subst e
    obtain ⟨v', w', rfl, rv, rw⟩ := ws2 r1
    exact ⟨v', w', rfl, k.nx F1 S1 H1 _ _ s1 R1 (((Ev.mono s1).set rv).set rw) h1⟩⟩

/-! ### while -/
def tWhile3 (c : TT3) (tb : TS3) : TS3 := fun D τ S => ∃ Wi : Nat → S3 → Sto → Prop, (∃ m, Wi m τ S) ∧ ∀ m τ S, Wi m τ S →
  c τ S fun b S1 => (b = true → ∃ N : S3 → Sto → Prop, (∀ τ' S', N τ' S' → ∃ m', m' < m ∧ Wi m' τ' S') ∧ tb { D with nx := N, ct := N, bk := D.nx } τ S1) ∧ (b = false → D.nx τ S1)
theorem ps3_while {c : Expr} {body : List Stmt} {tc : TT3} {tb : TS3} (hp : PassesOwn (model X.prog X.w) X.A X.env X.xe) (hc : PT X c (LT X.K Ex tc)) (hb : PSs X body (LS X.K Ex tb)) : PS X (.While c body [] pos) (LS X.K Ex (tWhile3 tc tb)) :=
  ps_imp (ps_while hp hc hb) fun D σ H ⟨F, S, τ, D3, R, Ev, ⟨Wi, ⟨m0, w0⟩, turn⟩, k⟩ => by
    refine ⟨fun m σ' H' => ∃ F' S' τ', Sm F F' ∧ Rel X.K F' S' H' ∧ EnvR X.K F' Ex τ' σ' ∧ Wi m τ' S', ⟨m0, F, S, τ, Sm.refl F, R, Ev, w0⟩, ?_⟩
    rintro m σ' H' ⟨F1, S1, τ1, s1, R1, Ev1, w1⟩
    refine ⟨F1, S1, τ1, _, R1, Ev1, turn m τ1 S1 w1, fun F2 S2 H2 b s2 R2 ⟨h1, h2⟩ => ?_⟩
    have s := s1.trans s2
    cases b with
    | true =>
      obtain ⟨N, hN, hb⟩ := h1 rfl
      refine iteT ⟨fun σ3 H3 => ∃ F3 S3 τ3, Sm F F3 ∧ Rel X.K F3 S3 H3 ∧ EnvR X.K F3 Ex τ3 σ3 ∧ N τ3 S3, ?_, F2, S2, τ1, _, R2, Ev1.mono s2, hb, ⟨?_, ?_, ?_, ?_⟩⟩
      · rintro σ3 H3 ⟨F3, S3, τ3, s3, R3, Ev3, n3⟩
        obtain ⟨m', hm, w3⟩ := hN τ3 S3 n3
        exact ⟨m', hm, F3, S3, τ3, s3, R3, Ev3, w3⟩
      · exact fun F3 S3 H3 τ3 σ3 s3 R3 Ev3 n3 => ⟨F3, S3, τ3, s.trans s3, R3, Ev3, n3⟩
      · exact k.rt.mono s
      · exact k.nx.mono s
      · exact fun F3 S3 H3 τ3 σ3 s3 R3 Ev3 n3 => ⟨F3, S3, τ3, s.trans s3, R3, Ev3, n3⟩
    | false => exact iteF (k.nx F2 S2 H2 _ _ s R2 (Ev1.mono s2) (h2 rfl))

/-! ### what is walked -/
theorem RepW.mono1 {K : PySem.W.Frag} {F F' : Fz} (e : Same F.f F'.f) {w : W} {v : V} (h : RepW K F w v) : RepW K F' w v := by
  cases w with
  | d x => exact dp_mono e h
  | r a => exact h
  | ty n => exact h
abbrev TI3 := S3 → Sto → (List W → Sto → Prop) → Prop
/-- the iterator gives just these values, whatever stays -/
structure YL (K : PySem.W.Frag) (F : Fz) (J : It) (ws : List W) : Prop where
  go : ∀ i H F' S', Same F.f F'.f → Rel K F' S' H → i < ws.length → J.go i H
  stop : ∀ i H F' S', Same F.f F'.f → Rel K F' S' H → ws.length ≤ i → J.stop i H
  yld : ∀ i H F' S' x H', Same F.f F'.f → Rel K F' S' H → i < ws.length → J.yld i H x H' → ∃ F2 w, ws[i]? = some w ∧ Sm F' F2 ∧ Rel K F2 S' H' ∧ RepW K F2 w x
def LI (K : PySem.W.Frag) (E : WX) (t : TI3) : TI := fun σ H R => ∃ F S τ Q3, Rel K F S H ∧ EnvR K F E τ σ ∧ t τ S Q3 ∧ ∀ F' S' H' ws J, Sm F F' → Rel K F' S' H' → YL K F' J ws → Q3 ws S' → R J H'
theorem pi_imp {tg it : Expr} {t u : TI} (h : PI X tg it t) (i : ∀ σ H R, u σ H R → t σ H R) : PI X tg it u := ⟨fun pins s σ H R I q => h.run pins s σ H R I (i _ _ _ q)⟩
/-- a list or a tuple -/
def tSeqI3 (te : TE3) : TI3 := fun τ S Q => te τ S fun w S1 => ∃ ds, (w = .lst ds ∨ w = .tup ds) ∧ Q (ds.map W.d) S1
def iSeq (K : PySem.W.Frag) (tl : TE) : TI := fun σ H R => tl σ H fun x H1 => ∃ a, x = .ref a ∧ (((∃ xs, SqL K H1 a xs) ∧ R (Itl K a) H1) ∨ ((∃ xs, SqT K H1 a xs) ∧ R (Itt K a) H1))
theorem pi_seq {tg l : Expr} {tl : TE} (hl : PE X l tl) : PI X tg l (iSeq X.K tl) := by
  constructor
  intro pins st σ H R I h
  refine thn (hl.run pins st σ H _ I h) ?_
  rintro v s1 ⟨x, H1, J, r1, a, e, q⟩
  subst e
  cases r1
  have fresh : ∀ b ∈ [s1.heap.objs.size], _ := fun b hb => by
    cases List.mem_singleton.mp hb
    have top := J.hok.fresh (Nat.le_refl s1.heap.objs.size)
    exact J.fpOk (Nat.le_refl _) top
  have up : ∀ (ob : Obj) b o, s1.heap.get? b = some o → (s1.heap.push ob).get? b = some o := fun ob b o e => Heap.get?_push_of_some _ e
  rcases q with ⟨⟨xs, hq⟩, q⟩ | ⟨⟨xs, hq⟩, q⟩
  · obtain ⟨its, _, p, _⟩ := J.list hq
    apply wpAny_pyIter_list p.isList
    exact ⟨_, [s1.heap.objs.size], _, _, H1, rfl, J.kept (t' := s1.toks) (up _), turn_list a _, ⟨_, Heap.get?_push_size _ rfl, rfl, rfl⟩, fresh, q⟩
  · obtain ⟨its, _, p, _⟩ := J.tuple hq
    apply wpAny_pyIter_tuple (show s1.heap.IsTuple a its.toArray from p)
    exact ⟨_, [s1.heap.objs.size], _, _, H1, rfl, J.kept (t' := s1.toks) (up _), turn_tuple a _, ⟨_, Heap.get?_push_size _ rfl, rfl, rfl⟩, fresh, q⟩
theorem yl_lst {K : PySem.W.Frag} {F : Fz} {a : Addr} {vs : List V} {ds : List PyData} (h : SqL K F.f a vs) (ha : DpAll K F.f vs ds) : YL K F (Itl K a) (ds.map W.d) := by
  have hl := dpAll_len ha
  have sq : ∀ {H F' S'}, Same F.f F'.f → Rel K F' S' H → SqL K H a vs := fun s R => R.same.seq (s.seq h)
  refine ⟨fun i H F' S' s R hi => ?_, fun i H F' S' s R hi => ⟨vs, sq s R, by rw [List.length_map] at hi; omega⟩, fun i H F' S' x H' s R hi ⟨e, y⟩ => ?_⟩
  · rw [List.length_map] at hi
    exact ⟨vs, vs[i]'(by omega), sq s R, List.getElem?_eq_getElem (by omega)⟩
  · subst e
    have hx := y vs (sq s R)
    obtain ⟨d, hd⟩ : ∃ d, (ds.map W.d)[i]? = some d := ⟨_, List.getElem?_eq_getElem hi⟩
    obtain ⟨v, hv, rv⟩ := rep_get (repWs_of_all ha) hd
    rw [hx] at hv
    cases hv
    exact ⟨F', d, hd, Sm.refl _, R, rv.mono1 s⟩
theorem yl_tup {K : PySem.W.Frag} {F : Fz} {a : Addr} {vs : List V} {ds : List PyData} (h : SqT K F.f a vs) (ha : DpAll K F.f vs ds) : YL K F (Itt K a) (ds.map W.d) := by
  have hl := dpAll_len ha
  have sq : ∀ {H F' S'}, Same F.f F'.f → Rel K F' S' H → SqT K H a vs := fun s R => sqt_mono R.same (sqt_mono s h)
  refine ⟨fun i H F' S' s R hi => ?_, fun i H F' S' s R hi => ⟨vs, sq s R, by rw [List.length_map] at hi; omega⟩, fun i H F' S' x H' s R hi ⟨e, y⟩ => ?_⟩
  · rw [List.length_map] at hi
    exact ⟨vs, vs[i]'(by omega), sq s R, List.getElem?_eq_getElem (by omega)⟩
  · subst e
    have hx := y vs (sq s R)
    obtain ⟨d, hd⟩ : ∃ d, (ds.map W.d)[i]? = some d := ⟨_, List.getElem?_eq_getElem hi⟩
    obtain ⟨v, hv, rv⟩ := rep_get (repWs_of_all ha) hd
    rw [hx] at hv
    cases hv
    exact ⟨F', d, hd, Sm.refl _, R, rv.mono1 s⟩
theorem pi3_seq {tg l : Expr} (hl : PE X l (LE X.K Ex te)) : PI X tg l (LI X.K Ex (tSeqI3 te)) :=
  pi_imp (pi_seq hl) fun σ H R ⟨F, S, τ, Q3, Rl, Ev, h, k⟩ => ⟨F, S, τ, _, Rl, Ev, h, fun F1 S1 H1 w x s1 R1 r1 ⟨ds, e, q⟩ => by
    rcases e with e | e <;> subst e
    · cases (show Dp X.K F1.f x (.list ds) from r1) with
      | lst h1 h2 => exact ⟨_, rfl, .inl ⟨⟨_, R1.same.seq h1⟩, k F1 S1 H1 _ _ s1 R1 (yl_lst h1 h2) q⟩⟩
    · cases (show Dp X.K F1.f x (.tuple ds) from r1) with
      | tup h1 h2 => exact ⟨_, rfl, .inr ⟨⟨_, sqt_mono R1.same h1.sqt⟩, k F1 S1 H1 _ _ s1 R1 (yl_tup h1.sqt h2) q⟩⟩⟩
/-- range -/
def rgW (lo : Int) (n : Nat) : List W := (List.range n).map fun i => .int (lo + (i : Nat))
theorem rgW_len {lo : Int} {n : Nat} : (rgW lo n).length = n := by simp [rgW]
theorem rgW_get {lo : Int} {n i : Nat} (h : i < n) : (rgW lo n)[i]? = some (.int (lo + (i : Nat))) := by
  unfold rgW
  rw [List.getElem?_map, List.getElem?_range h]
  rfl
theorem yl_rg {K : PySem.W.Frag} {F : Fz} {lo : Int} {n : Nat} : YL K F (Itr lo n) (rgW lo n) := by
  refine ⟨fun i H F' S' s R hi => ?_, fun i H F' S' s R hi => ?_, fun i H F' S' x H' s R hi ⟨e, y⟩ => ?_⟩
  · rw [rgW_len] at hi; exact hi
  · rw [rgW_len] at hi; exact hi
  · subst e y
    rw [rgW_len] at hi
    exact ⟨F', _, rgW_get hi, Sm.refl _, R, mk_int⟩
def tRgI1 (ta : TA3) : TI3 := fun τ S Q => ta τ S fun ws S1 => ∃ j : Int, ws = [.int j] ∧ (-(2 ^ 62) ≤ j ∧ j < 2 ^ 62) ∧ Q (rgW 0 j.toNat) S1
def tRgI2 (ta : TA3) : TI3 := fun τ S Q => ta τ S fun ws S1 => ∃ i j : Int, ws = [.int i, .int j] ∧ (-(2 ^ 62) ≤ i ∧ i < 2 ^ 62 ∧ -(2 ^ 62) ≤ j ∧ j < 2 ^ 62) ∧ Q (rgW i (j - i).toNat) S1
theorem pi3_range1 {tg a : Expr} {ta : TA3} {p : Pos} (hg : Gl X "range") (hm : X.mg "range" = none) (ha : PA X [a] (LA X.K Ex ta)) (hs : starEach [a] X.env = [(false, eval a X.env)] := by rfl) : PI X tg (.Call (.Name "range" p) [a] [] pos) (LI X.K Ex (tRgI1 ta)) :=
  pi_imp (pi_range1 hg hm ha hs) fun σ H R ⟨F, S, τ, Q3, Rl, Ev, h, k⟩ => ⟨F, S, τ, _, Rl, Ev, h, fun F1 S1 H1 ws vs s1 R1 r1 ⟨j, e, b, q⟩ => by
    subst e
    obtain ⟨v, rfl, rv⟩ := ws1 r1
    exact ⟨j, by rw [rep_int rv], b.1, b.2, k F1 S1 H1 _ _ s1 R1 yl_rg q⟩⟩
theorem pi3_range2 {tg a b : Expr} {ta : TA3} {p : Pos} (hg : Gl X "range") (hm : X.mg "range" = none) (ha : PA X [a, b] (LA X.K Ex ta)) (hs : starEach [a, b] X.env = [(false, eval a X.env), (false, eval b X.env)] := by rfl) (hs2 : starEach [b] X.env = [(false, eval b X.env)] := by rfl) :
    PI X tg (.Call (.Name "range" p) [a, b] [] pos) (LI X.K Ex (tRgI2 ta)) :=
  pi_imp (pi_range2 hg hm ha hs hs2) fun σ H R ⟨F, S, τ, Q3, Rl, Ev, h, k⟩ => ⟨F, S, τ, _, Rl, Ev, h, fun F1 S1 H1 ws vs s1 R1 r1 ⟨i, j, e, b, q⟩ => by
    subst e
    obtain ⟨v, y, rfl, rv, ry⟩ := ws2 r1
    exact ⟨i, j, by rw [rep_int rv, rep_int ry], b, k F1 S1 H1 _ _ s1 R1 yl_rg q⟩⟩

/-! ### for -/
def forGo (g : TG3) (tb : TS3) (D : Ends3) : List W → S3 → Sto → Prop
  | [], τ, S => D.nx τ S
  | w :: ws, τ, S => ∃ N : S3 → Sto → Prop, (∀ τ' S', N τ' S' → forGo g tb D ws τ' S') ∧ g w τ S fun τ2 S2 => tb { D with nx := N, ct := N, bk := D.nx } τ2 S2
def tFor3 (s : TI3) (g : TG3) (tb : TS3) : TS3 := fun D τ S => s τ S fun ws S1 => forGo g tb D ws τ S1
theorem ps3_for {tg iter : Expr} {body : List Stmt} {wi : TI3} {g : TG3} {tb : TS3} (hp : PassesOwn (model X.prog X.w) X.A X.env X.xe) (hc : X.calm = true) (hi : PI X tg iter (LI X.K Ex wi)) (hg : PG X tg (LG X.K Ex g)) (hb : PSs X body (LS X.K Ex tb))
    (hs : ∀ x, foldedSetIterable iter X.env x = pure x := by intro _; rfl) : PS X (.For tg iter body [] pos) (LS X.K Ex (tFor3 wi g tb)) :=
  ps_imp (ps_for hp hc hi hg hb hs) fun D σ H ⟨F, S, τ, D3, R, Ev, h, k⟩ => ⟨F, S, τ, _, R, Ev, h, fun F1 S1 H1 ws J s1 R1 yl h1 => by
    refine ⟨fun i m σ' H' => ∃ F' S' τ', Sm F1 F' ∧ Rel X.K F' S' H' ∧ EnvR X.K F' Ex τ' σ' ∧ m = ws.length - i ∧ i ≤ ws.length ∧ forGo g tb D3 (ws.drop i) τ' S', ⟨ws.length, F1, S1, τ, Sm.refl F1, R1, Ev.mono s1, rfl, Nat.zero_le _, h1⟩, ?_⟩
    rintro i m σ' H' ⟨F2, S2, τ2, s2, R2, Ev2, rfl, hi, h2⟩
    by_cases hlt : i < ws.length
    · rw [List.drop_eq_getElem_cons hlt] at h2
      obtain ⟨N, hN, h2⟩ := h2
      refine .inr ⟨yl.go i H' F2 S2 s2.f R2 hlt, fun σ3 H3 => ∃ F3 S3 τ3, Sm F1 F3 ∧ Rel X.K F3 S3 H3 ∧ EnvR X.K F3 Ex τ3 σ3 ∧ N τ3 S3, ?_, fun x H3 hy => ?_⟩
      · rintro σ3 H3 ⟨F3, S3, τ3, s3, R3, Ev3, n3⟩
        exact ⟨ws.length - (i + 1), by omega, F3, S3, τ3, s3, R3, Ev3, rfl, hlt, hN τ3 S3 n3⟩
      · obtain ⟨F3, w, hw, s3, R3, r3⟩ := yl.yld i H' F2 S2 x H3 s2.f R2 hlt hy
        rw [List.getElem?_eq_getElem hlt] at hw
        cases hw
        refine ⟨F3, S2, τ2, _, _, R3, Ev2.mono s3, r3, h2, fun F4 S4 H4 τ4 σ4 s4 R4 Ev4 h4 => ?_⟩
        have s := s2.trans (s3.trans s4)
        refine ⟨F4, S4, τ4, _, R4, Ev4, h4, ⟨?_, k.rt.mono (s1.trans s), k.nx.mono (s1.trans s), ?_⟩⟩
        · exact fun F5 S5 H5 τ5 σ5 s5 R5 Ev5 n5 => ⟨F5, S5, τ5, s.trans s5, R5, Ev5, n5⟩
        · exact fun F5 S5 H5 τ5 σ5 s5 R5 Ev5 n5 => ⟨F5, S5, τ5, s.trans s5, R5, Ev5, n5⟩
    · have e : i = ws.length := by omega
      subst e
      rw [List.drop_length] at h2
      exact .inl ⟨yl.stop _ H' F2 S2 s2.f R2 (Nat.le_refl _), k.nx F2 S2 H' _ _ (s1.trans s2) R2 Ev2 h2⟩⟩
end
end H3

namespace H3
open PySem PySem.Spec L2
open PyProof.Rows hiding St

/-! ### list comprehensions -/
abbrev XN : XS := fun _ _ _ _ => False
abbrev EN : WX := fun _ _ _ _ => False
def lcGo (g : TG3) (tt : TT3) (te : TE3) (τ0 : S3) : List W → List W → Sto → (List W → Sto → Prop) → Prop
  | [], acc, S, Q => Q acc S
  | w :: ws, acc, S, Q => g w τ0 S fun τ2 S2 => tt τ2 S2 fun b S3 => (b = true → te τ2 S3 fun y S4 => lcGo g tt te τ0 ws (acc ++ [y]) S4 Q) ∧ (b = false → lcGo g tt te τ0 ws acc S3 Q)
/-- its list is data -/
def tLcD3 (s : TI3) (g : TG3) (tt : TT3) (te : TE3) (vs : List Nat) : TE3 := fun τ S Q => s τ S fun ws S1 => ws.length ≤ 1000000 ∧ lcGo g tt te ⟨wipe3 τ.sl vs, XN⟩ ws [] S1 fun us S2 => ∃ ds : List PyData, us = ds.map W.d ∧ Q (.lst ds) S2
/-- its list may be changed -/
def tLcM3 (s : TI3) (g : TG3) (tt : TT3) (te : TE3) (vs : List Nat) : TE3 := fun τ S Q => s τ S fun ws S1 => ws.length ≤ 1000000 ∧ lcGo g tt te ⟨wipe3 τ.sl vs, XN⟩ ws [] S1 fun us S2 => ∀ p, S2 p = none → Q (.r p) (put S2 p (.lst us))
theorem sl_wipe {K : PySem.W.Frag} {F : Fz} {τ : Sl} {σ : St} (h : SlE K F τ σ) : ∀ vs : List Nat, SlE K F (wipe3 τ vs) (wipe σ vs)
  | [] => h
  | v :: vs => (sl_wipe h vs).unset
theorem repW_g {K : PySem.W.Frag} {F : Fz} {g : Hp} {w : W} {v : V} (h : RepW K F w v) : RepW K ⟨g, F.f⟩ w v := h.mono1 (fun _ _ e => e)
theorem sle_g {K : PySem.W.Frag} {F F' : Fz} (e : Same F.f F'.f) {τ : Sl} {σ : St} (h : SlE K F τ σ) : SlE K F' τ σ := ⟨h.1, fun i w q => let ⟨v, a, b⟩ := h.2 i w q; ⟨v, a, b.mono1 e⟩⟩
theorem repO_g {K : PySem.W.Frag} {F : Fz} {g : Hp} {p : SO} {o : HO} (h : RepO K F p o) : RepO K ⟨g, F.f⟩ p o := by
  cases p with
  | lst ws => obtain ⟨vs, e, r⟩ := h; exact ⟨vs, e, Paired.mapP r fun _ _ z => repW_g z⟩
  | ins C fs => obtain ⟨dx, gs, e, r⟩ := h; exact ⟨dx, gs, e, Paired.mapP r fun _ _ z => ⟨z.1, repW_g z.2⟩⟩
  | tb => exact h
section
variable {K : PySem.W.Frag} {F : Fz} {S : Sto} {H : Hp}
theorem Rel.rehide (R : Rel K F S H) {p : Addr} {o o' : HO} (h : F.g p = some o) : Rel K ⟨upd F.g p o', F.f⟩ S (upd H p o') := by
  refine ⟨fun a u e => ?_, fun a u e => ?_, fun a u e => ?_⟩
  · obtain ⟨h1, h2, h3⟩ := R.fz a u e
    have ha : a ≠ p := by rintro rfl; rw [h3] at h; cases h
    refine ⟨by rw [upd_ne ha]; exact h1, h2, ?_⟩
    show upd F.g p o' a = none
    rw [upd_ne ha]; exact h3
  · obtain ⟨g, v, hv, r⟩ := R.st a u e
    have ha : a ≠ p := by rintro rfl; rw [g] at h; cases h
    refine ⟨?_, v, by rw [upd_ne ha]; exact hv, repO_g r⟩
    show upd F.g p o' a = none
    rw [upd_ne ha]; exact g
  · have e : upd F.g p o' a = some u := e
    by_cases ha : a = p
    · subst ha; rw [upd_same] at e ⊢; exact e
    · rw [upd_ne ha] at e ⊢; exact R.hd a u e
/-- what was hidden stays from now on -/
theorem Rel.showF {g : Hp} {p : Addr} {o : HO} (hg : g p = none) (R : Rel K F S H) (e : F.g = upd g p o) : Rel K ⟨g, upd F.f p o⟩ S H ∧ Same F.f (upd F.f p o) := by
  have hp : F.g p = some o := by rw [e, upd_same]
  have hf : F.f p = none := by
    cases q : F.f p with
    | none => rfl
    | some u => rw [(R.fz p u q).2.2] at hp; cases hp
  have hs : S p = none := by
    cases q : S p with
    | none => rfl
    | some u => rw [(R.st p u q).1] at hp; cases hp
  have sm := same_upd (o := o) hf
  refine ⟨⟨fun a u q => ?_, fun a u q => ?_, fun a u q => ?_⟩, sm⟩
  · have q : upd F.f p o a = some u := q
    by_cases ha : a = p
    · subst ha
      rw [upd_same] at q
      cases q
      exact ⟨R.hd a _ hp, hs, hg⟩
    · rw [upd_ne ha] at q
      obtain ⟨h1, h2, h3⟩ := R.fz a u q
      rw [e, upd_ne ha] at h3
      exact ⟨h1, h2, h3⟩
  · obtain ⟨g', v, hv, r⟩ := R.st a u q
    have ha : a ≠ p := by rintro rfl; rw [g'] at hp; cases hp
    rw [e, upd_ne ha] at g'
    refine ⟨g', v, hv, ?_⟩
    cases u with
    | lst ws => obtain ⟨vs, e, r⟩ := r; exact ⟨vs, e, Paired.mapP r fun _ _ z => z.mono1 sm⟩
    | ins C fs => obtain ⟨dx, gs, e, r⟩ := r; exact ⟨dx, gs, e, Paired.mapP r fun _ _ z => ⟨z.1, z.2.mono1 sm⟩⟩
    | tb => exact r
  · have ha : a ≠ p := by rintro rfl; exact nomatch hg.symm.trans (show g a = some u from q)
    exact R.hd a u (by rw [e, upd_ne ha]; exact q)
/-- what was hidden may be changed from now on -/
theorem Rel.showS {g : Hp} {p : Addr} {o : HO} {q0 : SO} (hg : g p = none) (R : Rel K F S H) (e : F.g = upd g p o) (r0 : RepO K F q0 o) : Rel K ⟨g, F.f⟩ (put S p q0) H ∧ S p = none := by
  have hp : F.g p = some o := by rw [e, upd_same]
  have hs : S p = none := by
    cases q : S p with
    | none => rfl
    | some u => rw [(R.st p u q).1] at hp; cases hp
  refine ⟨⟨fun a u q => ?_, fun a u q => ?_, fun a u q => ?_⟩, hs⟩
  · obtain ⟨h1, h2, h3⟩ := R.fz a u q
    have ha : a ≠ p := by rintro rfl; rw [h3] at hp; cases hp
    rw [e, upd_ne ha] at h3
    exact ⟨h1, by rw [put_ne ha]; exact h2, h3⟩
  · by_cases ha : a = p
    · subst ha
      rw [put_same] at q
      cases q
      exact ⟨hg, o, R.hd a _ hp, repO_g r0⟩
    · rw [put_ne ha] at q
      obtain ⟨g', v, hv, r⟩ := R.st a u q
      rw [e, upd_ne ha] at g'
      exact ⟨g', v, hv, repO_g r⟩
  · have ha : a ≠ p := by rintro rfl; exact nomatch hg.symm.trans (show g a = some u from q)
    exact R.hd a u (by rw [e, upd_ne ha]; exact q)
end
/-- a target by values -/
def LGL (K : PySem.W.Frag) (E : WX) (g3 : TG3) (g : TG) : Prop := ∀ F S τ w x σ H Q3 Q, Rel K F S H → EnvR K F E τ σ → RepW K F w x → g3 w τ S Q3 → KS K F E Q3 Q → g x σ H Q
/-- it stores to these slots alone -/
def Wp (g : TG) (vs : List Nat) : Prop := ∀ x σ H Q, g x σ H Q → g x σ H fun σ2 H2 => wipe σ2 vs = wipe σ vs ∧ Q σ2 H2
theorem wipe_set {i : Nat} {w : Option V} : ∀ {vs : List Nat} {σ : St}, i ∈ vs → wipe (σ.set i w) vs = wipe σ vs
  | [], σ, h => by cases h
  | v :: vs, σ, h => by
    have out : ∀ (us : List Nat) (ρ : St), wipe (ρ.set i w) us = (if i ∈ us then wipe ρ us else (wipe ρ us).set i w) := fun us => by
      induction us with
      | nil => intro ρ; simp [wipe]
      | cons u us ih =>
        intro ρ
        show (wipe (ρ.set i w) us).set u none = _
        rw [ih ρ]
        by_cases hu : i ∈ us
        · rw [if_pos hu, if_pos (List.mem_cons_of_mem _ hu)]; rfl
        · rw [if_neg hu]
          by_cases hi : i = u
          · subst hi
            rw [if_pos List.mem_cons_self, List.set_set]; rfl
          · rw [if_neg (by simp [hi, hu]), List.set_comm _ _ hi]; rfl
    rw [out, if_pos h]
theorem wp_name {i : Nat} {vs : List Nat} (h : i ∈ vs := by simp) : Wp (gName i) vs := fun x σ H Q q => ⟨wipe_set h, q⟩
def Wps (g : TGs) (vs : List Nat) : Prop := ∀ x σ H Q, g x σ H Q → g x σ H fun σ2 H2 => wipe σ2 vs = wipe σ vs ∧ Q σ2 H2
theorem wps_nil {vs : List Nat} : Wps gNil vs := fun x σ H Q ⟨e, q⟩ => ⟨e, rfl, q⟩
theorem wps_cons {i : Nat} {gs : TGs} {vs : List Nat} (h2 : Wps gs vs) (h : i ∈ vs := by simp) : Wps (gCons (gName i) gs) vs := fun x σ H Q ⟨v, r, e, q⟩ => by
  refine ⟨v, r, e, ?_⟩
  have z := h2 _ _ _ _ (show gs r (σ.set i (some v)) H Q from q)
  rw [wipe_set h] at z
  exact z
theorem wp_tup {K : PySem.W.Frag} {n : Nat} {gs : TGs} {vs : List Nat} (h : Wps gs vs) : Wp (gTup K n gs) vs := fun x σ H Q ⟨a, xs, e, hs, hl, q⟩ => ⟨a, xs, e, hs, hl, h _ _ _ _ q⟩
theorem lgl_name {K : PySem.W.Frag} {E : WX} {i : Nat} : LGL K E (gName3 i) (gName i) := fun F S τ w x σ H Q3 Q R Ev r h k => k F S H _ _ (Sm.refl F) R (Ev.set r) h
def LGLs (K : PySem.W.Frag) (E : WX) (g3 : TGs3) (g : TGs) : Prop := ∀ F S τ ws xs σ H Q3 Q, Rel K F S H → EnvR K F E τ σ → RepWs K F ws xs → g3 ws τ S Q3 → KS K F E Q3 Q → g xs σ H Q
theorem lgls_nil {K : PySem.W.Frag} {E : WX} : LGLs K E gNil3 gNil := fun F S τ ws xs σ H Q3 Q R Ev r ⟨e, h⟩ k => by
  subst e
  cases r
  exact ⟨rfl, k F S H _ _ (Sm.refl F) R Ev h⟩
theorem lgls_cons {K : PySem.W.Frag} {E : WX} {i : Nat} {gs3 : TGs3} {gs : TGs} (l : LGLs K E gs3 gs) : LGLs K E (gCons3 (gName3 i) gs3) (gCons (gName i) gs) := fun F S τ ws xs σ H Q3 Q R Ev r ⟨w, us, e, h⟩ k => by
  subst e
  cases r with
  | cons a t => exact ⟨_, _, rfl, l F S _ us _ _ H Q3 Q R (Ev.set a) t h k⟩
theorem lgl_tup {K : PySem.W.Frag} {E : WX} {n : Nat} {gs3 : TGs3} {gs : TGs} (l : LGLs K E gs3 gs) : LGL K E (gTup3 n gs3) (gTup K n gs) := fun F S τ w x σ H Q3 Q R Ev r ⟨ds, e, hl, h⟩ k => by
  subst e
  obtain ⟨_, a, vs, rfl, hs, ha⟩ := tup_rep R r rfl
  exact ⟨a, vs, rfl, hs, by rw [dpAll_len ha]; exact hl, l F S τ _ _ σ H Q3 Q R Ev (repWs_of_all ha) h k⟩
/-- the comprehension, its list hidden while it is made -/
theorem le_lc {K : PySem.W.Frag} {Ex : WX} {s : TI3} {g3 : TG3} {g : TG} {tt : TT3} {te : TE3} {vs : List Nat} {Qe : K3 → List W → Sto → Prop} (lg : LGL K EN g3 g) (wp : Wp g vs)
    (fin : ∀ (F F' : Fz) (S' : Sto) (H' : Hp) (D : Addr) (xs : List V) (us : List W) (Q3 : K3) (Q : VK), F.g D = none → Same F.f F'.f → F'.g = upd F.g D (.lst xs) → Rel K F' S' H' → RepWs K F' us xs → Qe Q3 us S' → KE K F Q3 Q → Q (.ref D) H') :
    ∀ σ H Q, LE K Ex (fun τ S Q => s τ S fun ws S1 => ws.length ≤ 1000000 ∧ lcGo g3 tt te ⟨wipe3 τ.sl vs, XN⟩ ws [] S1 (Qe Q)) σ H Q → tLc (LI K Ex s) g (LT K EN tt) (LE K EN te) vs σ H Q :=
  fun σ H Q ⟨F, S, τ, Q3, R, Ev, h, k⟩ => ⟨F, S, τ, _, R, Ev, h, fun F1 S1 H1 ws J s1 R1 yl ⟨hz, h1⟩ => by
    intro D hD
    have gD := R1.freeG hD
    refine ⟨fun i m H' => ∃ F' S' xs us, Same F1.f F'.f ∧ F'.g = upd F1.g D (.lst xs) ∧ Rel K F' S' H' ∧ RepWs K F' us xs ∧ xs.length ≤ i ∧ m = ws.length - i ∧ i ≤ ws.length ∧ lcGo g3 tt te ⟨wipe3 τ.sl vs, XN⟩ (ws.drop i) us S' (Qe Q3), ⟨ws.length, ⟨upd F1.g D (.lst []), F1.f⟩, S1, [], [], fun _ _ e => e, rfl, R1.hide hD, .nil, Nat.le_refl _, rfl, Nat.zero_le _, h1⟩, ?_⟩
    rintro i m H' ⟨F2, S2, xs, us, s2, g2, R2, r2, hl, rfl, hi, h2⟩
    by_cases hlt : i < ws.length
    · rw [List.drop_eq_getElem_cons hlt] at h2
      refine .inr ⟨yl.go i H' F2 S2 s2 R2 hlt, fun H3 => ∃ F' S' xs us, Same F1.f F'.f ∧ F'.g = upd F1.g D (.lst xs) ∧ Rel K F' S' H3 ∧ RepWs K F' us xs ∧ xs.length ≤ i + 1 ∧ lcGo g3 tt te ⟨wipe3 τ.sl vs, XN⟩ (ws.drop (i + 1)) us S' (Qe Q3), ?_, fun x H3 hy => ?_⟩
      · rintro H3 ⟨F', S', xs', us', q1, q2, q3, q4, q5, q6⟩
        exact ⟨ws.length - (i + 1), by omega, F', S', xs', us', q1, q2, q3, q4, q5, rfl, hlt, q6⟩
      · obtain ⟨F3, w, hw, s3, R3, r3⟩ := yl.yld i H' F2 S2 x H3 s2 R2 hlt hy
        rw [List.getElem?_eq_getElem hlt] at hw
        cases hw
        have Ev3 : EnvR K F3 EN ⟨wipe3 τ.sl vs, XN⟩ (wipe σ vs) := ⟨sle_g (s1.f.trans (s2.trans s3.f)) (sl_wipe Ev.sl vs), fun _ _ _ _ _ _ _ _ _ _ _ _ _ _ z => z.elim⟩
        have z := lg F3 S2 ⟨wipe3 τ.sl vs, XN⟩ _ x (wipe σ vs) H3 _ (fun σ2 H2 => LT K EN tt σ2 H2 fun b H3 => if b = true then LE K EN te σ2 H3 fun y H4 => ∃ acc, H4 D = some (.lst acc) ∧ acc.length < sizeLine ∧ (∃ F' S' xs us, Same F1.f F'.f ∧ F'.g = upd F1.g D (.lst xs) ∧ Rel K F' S' (upd H4 D (.lst (acc ++ [y]))) ∧ RepWs K F' us xs ∧ xs.length ≤ i + 1 ∧ lcGo g3 tt te ⟨wipe3 τ.sl vs, XN⟩ (ws.drop (i + 1)) us S' (Qe Q3))
          else ∃ F' S' xs us, Same F1.f F'.f ∧ F'.g = upd F1.g D (.lst xs) ∧ Rel K F' S' H3 ∧ RepWs K F' us xs ∧ xs.length ≤ i + 1 ∧ lcGo g3 tt te ⟨wipe3 τ.sl vs, XN⟩ (ws.drop (i + 1)) us S' (Qe Q3)) R3 Ev3 r3 h2
          fun F4 S4 H4 τ4 σ4 s4 R4 Ev4 h4 => ⟨F4, S4, τ4, _, R4, Ev4, h4, fun F5 S5 H5 b s5 R5 ⟨h5, h6⟩ => by
            have g5 : F5.g = upd F1.g D (.lst xs) := by rw [s5.g, s4.g, s3.g, g2]
            have sf : Same F2.f F5.f := s3.f.trans (s4.f.trans s5.f)
            cases b with
            | true =>
              refine iteT ⟨F5, S5, τ4, _, R5, Ev4.mono s5, h5 rfl, fun F6 S6 H6 y v s6 R6 r6 h7 => ?_⟩
              have g6 : F6.g = upd F1.g D (.lst xs) := by rw [s6.g, g5]
              have gd : F6.g D = some (.lst xs) := by rw [g6, upd_same]
              refine ⟨xs, R6.hd D _ gd, Nat.lt_of_le_of_lt (Nat.le_trans hl (Nat.le_trans hi hz)) (by decide), ⟨upd F6.g D (.lst (xs ++ [v])), F6.f⟩, S6, xs ++ [v], us ++ [y], s2.trans (sf.trans s6.f), ?_, R6.rehide gd, ?_, by rw [List.length_append, List.length_singleton]; omega, h7⟩
              · show upd F6.g D _ = _
                rw [g6, upd_upd]
              · have r6' : RepW K ⟨upd F6.g D (.lst (xs ++ [v])), F6.f⟩ y v := repW_g r6
                exact rep_app (Paired.mapP r2 fun _ _ q => repW_g (q.mono1 (sf.trans s6.f))) (.cons r6' .nil)
            | false => exact iteF ⟨F5, S5, xs, us, s2.trans sf, g5, R5, Paired.mapP r2 fun _ _ q => q.mono1 sf, by omega, h6 rfl⟩⟩
        have z2 := wp _ _ _ _ z
        have e0 : wipe (wipe σ vs) vs = wipe σ vs := by
          have : ∀ us : List Nat, (∀ u ∈ us, u ∈ vs) → wipe (wipe σ us) vs = wipe σ vs := fun us => by
            induction us with
            | nil => intro _; rfl
            | cons u us ih =>
              intro hu
              show wipe ((wipe σ us).set u none) vs = _
              rw [wipe_set (hu u List.mem_cons_self)]
              exact ih fun q hq => hu q (List.mem_cons_of_mem _ hq)
          exact this vs fun _ h => h
        rw [e0] at z2
        exact z2
    · have e : i = ws.length := by omega
      subst e
      rw [List.drop_length] at h2
      exact .inl ⟨yl.stop _ H' F2 S2 s2 R2 (Nat.le_refl _), fin F1 F2 S2 H' D xs us Q3 Q gD s2 g2 R2 r2 h2 (k.mono s1)⟩⟩
theorem fin_D {K : PySem.W.Frag} (F F' : Fz) (S' : Sto) (H' : Hp) (D : Addr) (xs : List V) (us : List W) (Q3 : K3) (Q : VK) (h1 : F.g D = none) (h2 : Same F.f F'.f) (h3 : F'.g = upd F.g D (.lst xs)) (R : Rel K F' S' H') (r : RepWs K F' us xs) (q : ∃ ds : List PyData, us = ds.map W.d ∧ Q3 (.lst ds) S') (k : KE K F Q3 Q) : Q (.ref D) H' := by
  obtain ⟨ds, rfl, q⟩ := q
  obtain ⟨R2, s2⟩ := R.showF h1 h3
  exact k ⟨F.g, upd F'.f D (.lst xs)⟩ S' H' (.lst ds) _ ⟨rfl, h2.trans s2⟩ R2 (Dp.lst (.inl (.inl (show upd F'.f D (HO.lst xs) D = _ from upd_same))) (dpAll_mono s2 (all_of_repWs r))) q
theorem fin_M {K : PySem.W.Frag} (F F' : Fz) (S' : Sto) (H' : Hp) (D : Addr) (xs : List V) (us : List W) (Q3 : K3) (Q : VK) (h1 : F.g D = none) (h2 : Same F.f F'.f) (h3 : F'.g = upd F.g D (.lst xs)) (R : Rel K F' S' H') (r : RepWs K F' us xs) (q : ∀ p, S' p = none → Q3 (.r p) (put S' p (.lst us))) (k : KE K F Q3 Q) : Q (.ref D) H' := by
  obtain ⟨R2, hs⟩ := R.showS (q0 := .lst us) h1 h3 ⟨xs, rfl, r⟩
  exact k ⟨F.g, F'.f⟩ _ H' (.r D) _ ⟨rfl, h2⟩ R2 (show V.ref D = V.ref D from rfl) (q D hs)
structure PTs3 (X : Cx) (ifs : List Expr) (t : TT3) : Prop where
  h : PTs X ifs (LT X.K EN t)
def tYes3 : TT3 := fun _ S Q => Q true S
theorem pts3_nil {X : Cx} : PTs X [] (LT X.K EN tYes3) := ⟨fun pins s σ H Q I ⟨F, S, τ, Q3, R, Ev, h, k⟩ => pts_nil.run pins s σ H Q I (k F S H _ (Sm.refl F) R h)⟩
theorem pts3_one {X : Cx} {c : Expr} {t : TT3} (h : PT X c (LT X.K EN t)) : PTs X [c] (LT X.K EN t) := pts_one h
section
variable {X : Cx} {Ex : WX} {elt tg iter : Expr} {ifs : List Expr} {scope : Scope} {own : List (Str × Nat)} {pos : Pos} {s : TI3} {g3 : TG3} {g : TG} {tt : TT3} {te : TE3}
theorem pe3_lcD (own : List (Str × Nat)) (hc : X.calm = true) (hN : X.N.Nodup) (hi : PI X tg iter (LI X.K Ex s)) (ok : BlkOk X.N X.env.scope scope own) (lg : LGL X.K EN g3 g) (wp : Wp g (own.map (·.2)))
    (hg : ∀ (s : Shared) (H : Hp) (C : Addr) (cl : List (Str × Addr)) (fp : List Addr), PG (X.blk s H scope (compEnvC scope cl C X.env) fp) tg g)
    (ht : ∀ (s : Shared) (H : Hp) (C : Addr) (cl : List (Str × Addr)) (fp : List Addr), PTs (X.blk s H scope (compEnvC scope cl C X.env) fp) ifs (LT X.K EN tt))
    (he : ∀ (s : Shared) (H : Hp) (C : Addr) (cl : List (Str × Addr)) (fp : List Addr), PE (X.blk s H scope (compEnvC scope cl C X.env) fp) elt (LE X.K EN te)) (hs : ∀ x, foldedSetIterable iter X.env x = pure x := by intro _; rfl) :
    PE X (.ListComp elt [⟨tg, iter, ifs, 0⟩] scope pos) (LE X.K Ex (tLcD3 s g3 tt te (own.map (·.2)))) := pe_imp (pe_lc hc hN hi ok hg ht he hs) (le_lc lg wp fin_D)
theorem pe3_lcM (own : List (Str × Nat)) (hc : X.calm = true) (hN : X.N.Nodup) (hi : PI X tg iter (LI X.K Ex s)) (ok : BlkOk X.N X.env.scope scope own) (lg : LGL X.K EN g3 g) (wp : Wp g (own.map (·.2)))
    (hg : ∀ (s : Shared) (H : Hp) (C : Addr) (cl : List (Str × Addr)) (fp : List Addr), PG (X.blk s H scope (compEnvC scope cl C X.env) fp) tg g)
    (ht : ∀ (s : Shared) (H : Hp) (C : Addr) (cl : List (Str × Addr)) (fp : List Addr), PTs (X.blk s H scope (compEnvC scope cl C X.env) fp) ifs (LT X.K EN tt))
    (he : ∀ (s : Shared) (H : Hp) (C : Addr) (cl : List (Str × Addr)) (fp : List Addr), PE (X.blk s H scope (compEnvC scope cl C X.env) fp) elt (LE X.K EN te)) (hs : ∀ x, foldedSetIterable iter X.env x = pure x := by intro _; rfl) :
    PE X (.ListComp elt [⟨tg, iter, ifs, 0⟩] scope pos) (LE X.K Ex (tLcM3 s g3 tt te (own.map (·.2)))) := pe_imp (pe_lc hc hN hi ok hg ht he hs) (le_lc lg wp fin_M)
theorem ps3_setLcD (i : Nat) (own : List (Str × Nat)) {y : Str} {py spos : Pos} (hc : X.calm = true) (hN : X.N.Nodup) (hsw : swapsWith (.ListComp elt [⟨tg, iter, ifs, 0⟩] scope pos) (some (.Name y py)) spos.line X.env = pure true) (hi : PI X tg iter (LI X.K Ex s)) (ok : BlkOk X.N X.env.scope scope own) (lg : LGL X.K EN g3 g) (wp : Wp g (own.map (·.2)))
    (hg : ∀ (s : Shared) (H : Hp) (C : Addr) (cl : List (Str × Addr)) (fp : List Addr), PG (X.blk s H scope (compEnvC scope cl C X.env) fp) tg g)
    (ht : ∀ (s : Shared) (H : Hp) (C : Addr) (cl : List (Str × Addr)) (fp : List Addr), PTs (X.blk s H scope (compEnvC scope cl C X.env) fp) ifs (LT X.K EN tt))
    (he : ∀ (s : Shared) (H : Hp) (C : Addr) (cl : List (Str × Addr)) (fp : List Addr), PE (X.blk s H scope (compEnvC scope cl C X.env) fp) elt (LE X.K EN te)) (hy : X.N[i]? = some y := by rfl) (hyl : X.env.scope.names.lookup y = some .local := by rfl) (hs : ∀ x, foldedSetIterable iter X.env x = pure x := by intro _; rfl) :
    PS X (.Assign [.Name y py] (.ListComp elt [⟨tg, iter, ifs, 0⟩] scope pos) spos) (LS X.K Ex (tSet3 i (tLcD3 s g3 tt te (own.map (·.2))))) :=
  ps_imp (ps_setLc hc hN hy hyl hsw hi ok hg ht he hs) fun D σ H ⟨F, S, τ, D3, R, Ev, h, k⟩ => le_lc lg wp fin_D σ H _ ⟨F, S, τ, fun w S1 => D3.nx (τ.set i (some w)) S1, R, Ev, h, fun F1 S1 H1 w v s1 R1 r1 h1 => k.nx F1 S1 H1 _ _ s1 R1 ((Ev.mono s1).set r1) h1⟩
theorem ps3_setLcM (i : Nat) (own : List (Str × Nat)) {y : Str} {py spos : Pos} (hc : X.calm = true) (hN : X.N.Nodup) (hsw : swapsWith (.ListComp elt [⟨tg, iter, ifs, 0⟩] scope pos) (some (.Name y py)) spos.line X.env = pure true) (hi : PI X tg iter (LI X.K Ex s)) (ok : BlkOk X.N X.env.scope scope own) (lg : LGL X.K EN g3 g) (wp : Wp g (own.map (·.2)))
    (hg : ∀ (s : Shared) (H : Hp) (C : Addr) (cl : List (Str × Addr)) (fp : List Addr), PG (X.blk s H scope (compEnvC scope cl C X.env) fp) tg g)
    (ht : ∀ (s : Shared) (H : Hp) (C : Addr) (cl : List (Str × Addr)) (fp : List Addr), PTs (X.blk s H scope (compEnvC scope cl C X.env) fp) ifs (LT X.K EN tt))
    (he : ∀ (s : Shared) (H : Hp) (C : Addr) (cl : List (Str × Addr)) (fp : List Addr), PE (X.blk s H scope (compEnvC scope cl C X.env) fp) elt (LE X.K EN te)) (hy : X.N[i]? = some y := by rfl) (hyl : X.env.scope.names.lookup y = some .local := by rfl) (hs : ∀ x, foldedSetIterable iter X.env x = pure x := by intro _; rfl) :
    PS X (.Assign [.Name y py] (.ListComp elt [⟨tg, iter, ifs, 0⟩] scope pos) spos) (LS X.K Ex (tSet3 i (tLcM3 s g3 tt te (own.map (·.2))))) :=
  ps_imp (ps_setLc hc hN hy hyl hsw hi ok hg ht he hs) fun D σ H ⟨F, S, τ, D3, R, Ev, h, k⟩ => le_lc lg wp fin_M σ H _ ⟨F, S, τ, fun w S1 => D3.nx (τ.set i (some w)) S1, R, Ev, h, fun F1 S1 H1 w v s1 R1 r1 h1 => k.nx F1 S1 H1 _ _ s1 R1 ((Ev.mono s1).set r1) h1⟩
end
end H3

namespace H3
open PySem PySem.Spec L2
open PyProof.Rows hiding St

/-! ### a law's end -/
/-- the law's call of a script at a ends in True -/
def LawEnd (P : Program) (w : World) (fa a : Addr) (s : Shared) : Prop :=
  codeAny (model P w) callerA (.call (.ref fa) ⟨[.ref a], []⟩) (fun r z => r = .ok (.ret (.bool true)) ∧ OldK s.heap z.heap ∧ z.os = s.os ∧ AllBare z.gens) s
section
variable {P : Program} {w : World} {K : PySem.W.Frag} {mg mb : Str → Option Value} {k : Nat} {fa a : Addr} {fd : FuncData} {x : Str} {sp : Sp} {s₁ : Shared} {vs : List Value} {ns : List Int}
/-- from a heap in which the script alone may be tracked -/
theorem law_core {H : Hp} (KX : K.In s₁.heap) (hns : s₁.heap.Ns mainGlobals mg) (hb : s₁.heap.Ns builtinsNs mb) (hbb : ∀ x : Str, x ≠ "__name__" → mb x = bootBuiltins x) (hlim : s₁.heap.NoLimit) (hg : s₁.gens = #[])
    (ha : s₁.heap.get? a = some { cls := .type "list", data := .seq vs.toArray }) (hr : Room k callerA) (F : ∀ base : Heap, K.In base → base.Ns mainGlobals mg → FnG P w K mg base (L2.CX P w) k fa fd [x] sp)
    (hbind : ∀ (s : Shared) (u : Value), BindsTo s fd ⟨[u], []⟩ [(x, u)]) (hO : Only H) (hsp : sp [.ref a] H (fun v _ => v = .bl true) fun _ _ _ => False) (hok : HOk P w H s₁.heap) (hA : ∀ b, H b ≠ none → b = a) (hK : H a ≠ none → K.lookup a = none) :
    LawEnd P w fa a s₁ := by
  have inB : ∀ b o, s₁.heap.get? b = some o → (b = a → H a = none) → (hidT s₁.heap H).get? b = some o := fun b o e n => by
    apply hidT_get e
    cases q : H b with
    | none => rfl
    | some u =>
      have eb := hA b (by rw [q]; simp)
      rw [eb, n eb] at q
      cases q
  have dictB : ∀ {b : Addr} {m : Str → Option Value}, s₁.heap.Ns b m → (hidT s₁.heap H).Ns b m := by
    rintro b m ⟨o, es, ep, e, d, r⟩
    refine ⟨o, es, ep, inB b o e fun eb => ?_, d, r⟩
    subst eb
    rw [ha] at e
    cases e
    exact nomatch d
  have kB : K.In (hidT s₁.heap H) := fun b o e => inB b o (KX b o e) fun eb => by
    subst eb
    cases q : H b with
    | none => rfl
    | some u => rw [hK (by rw [q]; simp)] at e; cases e
  obtain ⟨mc, l1, l2⟩ := hlim
  have e0 : Env0 P w K mg (hidT s₁.heap H) callerA [] s₁ H :=
    { frames := rfl, mod := ⟨kB, dictB hns, ⟨mb, dictB hb, hbb⟩, ⟨mc, dictB l1, l2⟩⟩, bs := fun b o e => of_hidT e, bsz := Nat.le_of_eq (hidT_size _ _), funs := trivial, frf := fun b z => absurd z (by simp [frs]), hok := hok, bare := .of_eq hg }
  apply codeAny_mono ((F _ kB (dictB hns)).run callerA [] s₁ H ⟨[.ref a], []⟩ [.ref a] [.ref a] _ _ rfl hr e0 (hbind s₁ (.ref a)) (.cons rfl .nil) hsp)
  intro r s' h
  cases r with
  | error e =>
    exact (let ⟨_, _, _, _, _, _, _, _, _, _, _, _, no⟩ := h; no.elim)
  | ok fl =>
    cases fl with
    | next => exact h.elim
    | brk => exact h.elim
    | cont => exact h.elim
    | ret u =>
      obtain ⟨v, G, sky, bare, un, hok', r', q⟩ := h
      cases (show v = .bl true from q)
      cases (show u = Value.bool true from r')
      refine ⟨rfl, OldK.of_keep ?_, sky, bare⟩
      intro b o e
      rcases hO b with z | ⟨fo, us, z⟩
      · exact un.keep b o e z (by simp [frs]) (by simp)
      · obtain ⟨e1, _⟩ := hok b _ z
        obtain ⟨e2, _⟩ := hok' b _ (un.frzs b fo _ z)
        rw [e] at e1
        cases e1
        exact e2
theorem law_callG (KX : K.In s₁.heap) (hns : s₁.heap.Ns mainGlobals mg) (hb : s₁.heap.Ns builtinsNs mb) (hbb : ∀ x : Str, x ≠ "__name__" → mb x = bootBuiltins x) (hlim : s₁.heap.NoLimit) (hg : s₁.gens = #[])
    (ha : s₁.heap.get? a = some { cls := .type "list", data := .seq vs.toArray }) (hi : IntsAre vs ns) (hl : ns.length ≤ sizeLine) (hr : Room k callerA) (F : ∀ base : Heap, K.In base → base.Ns mainGlobals mg → FnG P w K mg base (L2.CX P w) k fa fd [x] sp)
    (hbind : ∀ (s : Shared) (u : Value), BindsTo s fd ⟨[u], []⟩ [(x, u)]) (hsp : ∀ H : Hp, Only H → SqL K H a (ns.map V.int) → sp [.ref a] H (fun v _ => v = .bl true) fun _ _ _ => False) :
    LawEnd P w fa a s₁ := by
  have rv := vals_ints hi
  cases hk : K.lookup a with
  | some o =>
    have e := KX a o hk
    rw [ha] at e
    cases e
    have hO : Only fun _ => none := fun _ => .inl rfl
    refine law_core (H := fun _ => none) KX hns hb hbb hlim hg ha hr F hbind hO (hsp _ hO (.inr ⟨_, vs.toArray, _, hk, rfl, rfl, rfl, ?_, by simpa using rv⟩)) (fun b u z => nomatch z) (fun b z => absurd rfl z) fun z => absurd rfl z
    rw [List.size_toArray]; rw [hi.length]
    exact hl
  | none =>
    have hO : Only fun b => if b = a then some (.frz { cls := .type "list", data := .seq vs.toArray } (.lst (ns.map V.int))) else none := fun b => by
      by_cases q : b = a
      · exact .inr ⟨_, _, if_pos q⟩
      · exact .inl (if_neg q)
    refine law_core (H := fun b => if b = a then some (.frz { cls := .type "list", data := .seq vs.toArray } (.lst (ns.map V.int))) else none) KX hns hb hbb hlim hg ha hr F hbind hO (hsp _ hO (.inl (.inr ⟨_, if_pos rfl⟩))) (fun b u z => ?_) (fun b z => ?_) fun _ => hk
    · by_cases q : b = a
      · have z' : some (HO.frz { cls := .type "list", data := .seq vs.toArray } (.lst (ns.map V.int))) = some u := (if_pos q).symm.trans z
        cases z'
        subst q
        exact ⟨ha, (List.length_map (as := ns) V.int).symm ▸ hl, vs, _, rv, ha⟩
      · exact nomatch (if_neg q).symm.trans z
    · by_cases q : b = a
      · exact q
      · exact absurd (if_neg q) z
end
/-- a law over values: from the script's ints -/
theorem walk3 {l : PySem.W.OpenLaw} {k : Nat} {q : Program} {loose : List Str} {XP : (Str → Option Value) → Heap → Prop} {YP : World → Heap → Prop} {d : DefRec} {x : Str} (hn : l.most = some 63) (hdf : d.params.defaults = []) (hr : Room k callerA) (sp : Sp3)
    (F : ∀ (w : World) (mg : Str → Option Value) (fa : Addr) (h : Heap), YP w h → h.Ns mainGlobals mg → mg d.name = some (.ref fa) → ∃ (K : PySem.W.Frag) (fd : FuncData), K.In h ∧ (∀ (s : Shared) (u : Value), BindsTo s fd ⟨[u], []⟩ [(x, u)]) ∧ ∀ base : Heap, K.In base → base.Ns mainGlobals mg → FnG l.prog w K mg base (L2.CX l.prog w) k fa fd [x] (LSp K sp))
    (hsp : ∀ ns : List Int, ns.length ≤ 63 → sp [.lst (ns.map PyData.int)] (fun _ => none) (fun w _ => w = .bl true) X0) :
    PySem.W.WalkO q loose XP YP l.row.toRowW d [] (fun g us => PySem.call g us) := by
  apply Att.attach_call hn hdf
  intro w s₀ s₁ mg mb fa o pm cd doc a vs ns G Y ho hd hcd hmg hobj hints hlen hg
  obtain ⟨K, fd, KX, hb, hF⟩ := F w mg fa _ Y G.T.g hmg
  refine law_callG KX G.T.g G.T.b G.T.builtins G.T.nolimit hg hobj hints (Nat.le_trans hlen (by decide)) hr hF hb fun H hO hS => ?_
  have da : ∀ ns : List Int, DpAll K H (ns.map V.int) (ns.map PyData.int) := fun ns => by
    induction ns with
    | nil => exact .nil
    | cons n ns ih => exact .cons (.int n) ih
  refine ⟨⟨fun _ => none, H⟩, fun _ => none, [.lst (ns.map PyData.int)], fun w _ => w = .bl true, X0, ⟨fun a o e => ⟨e, rfl, rfl⟩, (fun a p e => (nomatch e)), (fun a o e => (nomatch e))⟩, .cons (show Dp K H (.ref a) (.list (ns.map PyData.int)) from .lst hS (da ns)) .nil, hsp ns hlen, ?_, H3.KX.no⟩
  intro F' S' H' w v _ _ r q
  subst q
  exact rep_bl r
end H3

namespace H3
open PySem PySem.Spec L2
open PyProof.Rows hiding St

/-! ### tuple(range(..)), list(range(..)) -/
def rgD (a b : Int) : List PyData := (List.range (b - a).toNat).map fun i => PyData.int (a + (i : Nat))
theorem dp_rg {K : PySem.W.Frag} {F : Hp} {a b : Int} : DpAll K F (rgV a b) (rgD a b) := by
  unfold rgV rgD
  induction (List.range (b - a).toNat) with
  | nil => exact .nil
  | cons n ns ih => exact .cons (.int _) ih
section
variable {X : Cx} {Ex : WX} {a b : Expr} {ta tb : TE3}
def tRg13 (ta : TE3) : S3 → Sto → (Int → Int → Sto → Prop) → Prop := fun τ S Q => ta τ S fun w S1 => ∃ n, w = .int n ∧ Q 0 n S1
def tRg23 (ta tb : TE3) : S3 → Sto → (Int → Int → Sto → Prop) → Prop := fun τ S Q => ta τ S fun w S1 => tb τ S1 fun u S2 => ∃ i j, w = .int i ∧ u = .int j ∧ Q i j S2
def LR (K : PySem.W.Frag) (E : WX) (t : S3 → Sto → (Int → Int → Sto → Prop) → Prop) : St → Hp → (Int → Int → Hp → Prop) → Prop := fun σ H Q => ∃ F S τ Q3, Rel K F S H ∧ EnvR K F E τ σ ∧ t τ S Q3 ∧ ∀ F' S' H' i j, Sm F F' → Rel K F' S' H' → Q3 i j S' → Q i j H'
theorem prg_imp {e : Expr} {t u : St → Hp → (Int → Int → Hp → Prop) → Prop} (h : PRg X e t) (i : ∀ σ H Q, u σ H Q → t σ H Q) : PRg X e u := fun pins s σ H Q I q => h pins s σ H Q I (i _ _ _ q)
theorem prg3_1 {p pos : Pos} (hg : Gl X "range") (hm : X.mg "range" = none) (ha : PE X a (LE X.K Ex ta)) (na : starEach [a] X.env = (false, eval a X.env) :: starEach [] X.env := by rfl) : PRg X (.Call (.Name "range" p) [a] [] pos) (LR X.K Ex (tRg13 ta)) :=
  prg_imp (prg_1 hg hm ha na) fun σ H Q ⟨F, S, τ, Q3, R, Ev, h, k⟩ => ⟨F, S, τ, _, R, Ev, h, fun F1 S1 H1 w v s1 R1 r1 ⟨n, e, q⟩ => by
    subst e
    exact ⟨n, rep_int r1, k F1 S1 H1 _ _ s1 R1 q⟩⟩
theorem prg3_2 {p pos : Pos} (hg : Gl X "range") (hm : X.mg "range" = none) (ha : PE X a (LE X.K Ex ta)) (hb : PE X b (LE X.K Ex tb)) (na : starEach [a, b] X.env = (false, eval a X.env) :: starEach [b] X.env := by rfl) (nb : starEach [b] X.env = (false, eval b X.env) :: starEach [] X.env := by rfl) (hp : (backTo pos (starEach [b] X.env)).any (·.1) = false := by rfl) :
    PRg X (.Call (.Name "range" p) [a, b] [] pos) (LR X.K Ex (tRg23 ta tb)) :=
  prg_imp (prg_2 hg hm ha hb na nb hp) fun σ H Q ⟨F, S, τ, Q3, R, Ev, h, k⟩ => ⟨F, S, τ, _, R, Ev, h, fun F1 S1 H1 w v s1 R1 r1 h1 => ⟨F1, S1, τ, _, R1, Ev.mono s1, h1, fun F2 S2 H2 u y s2 R2 r2 ⟨i, j, e1, e2, q⟩ => by
    subst e1 e2
    exact ⟨i, j, rep_int r1, rep_int r2, k F2 S2 H2 _ _ (s1.trans s2) R2 q⟩⟩⟩
variable {e : Expr} {t : S3 → Sto → (Int → Int → Sto → Prop) → Prop}
def tTupRg3 (t : S3 → Sto → (Int → Int → Sto → Prop) → Prop) : TE3 := fun τ S Q => t τ S fun a b S1 => RgOk a b ∧ Q (.tup (rgD a b)) S1
def tLstRgD3 (t : S3 → Sto → (Int → Int → Sto → Prop) → Prop) : TE3 := fun τ S Q => t τ S fun a b S1 => RgOk a b ∧ Q (.lst (rgD a b)) S1
def tLstRgM3 (t : S3 → Sto → (Int → Int → Sto → Prop) → Prop) : TE3 := fun τ S Q => t τ S fun a b S1 => RgOk a b ∧ ∀ p, S1 p = none → Q (.r p) (put S1 p (.lst ((rgD a b).map W.d)))
theorem pe3_tupRg {p pos : Pos} (hc : X.calm = true) (hg : Gl X "tuple") (hm : X.mg "tuple" = none) (he : PRg X e (LR X.K Ex t)) (na : starEach [e] X.env = (false, eval e X.env) :: starEach [] X.env := by rfl) : PE X (.Call (.Name "tuple" p) [e] [] pos) (LE X.K Ex (tTupRg3 t)) :=
  pe_imp (pe_tupRgN hc hg hm he na) fun σ H Q ⟨F, S, τ, Q3, R, Ev, h, k⟩ => ⟨F, S, τ, _, R, Ev, h, fun F1 S1 H1 i j s1 R1 ⟨ok, q⟩ => ⟨ok, fun p o hp no => by
    obtain ⟨s, R', rw'⟩ := newTup R1 hp no dp_rg
    exact k _ _ _ _ _ (s1.trans s) R' rw' q⟩⟩
theorem pe3_lstRgD {p pos : Pos} (hc : X.calm = true) (hg : Gl X "list") (hm : X.mg "list" = none) (he : PRg X e (LR X.K Ex t)) (na : starEach [e] X.env = (false, eval e X.env) :: starEach [] X.env := by rfl) : PE X (.Call (.Name "list" p) [e] [] pos) (LE X.K Ex (tLstRgD3 t)) :=
  pe_imp (pe_listRg hc hg hm he na) fun σ H Q ⟨F, S, τ, Q3, R, Ev, h, k⟩ => ⟨F, S, τ, _, R, Ev, h, fun F1 S1 H1 i j s1 R1 ⟨ok, q⟩ => ⟨ok, fun p hp => by
    obtain ⟨s, R', rw'⟩ := newLst R1 hp dp_rg
    exact k _ _ _ _ _ (s1.trans s) R' rw' q⟩⟩
theorem pe3_lstRgM {p pos : Pos} (hc : X.calm = true) (hg : Gl X "list") (hm : X.mg "list" = none) (he : PRg X e (LR X.K Ex t)) (na : starEach [e] X.env = (false, eval e X.env) :: starEach [] X.env := by rfl) : PE X (.Call (.Name "list" p) [e] [] pos) (LE X.K Ex (tLstRgM3 t)) :=
  pe_imp (pe_listRg hc hg hm he na) fun σ H Q ⟨F, S, τ, Q3, R, Ev, h, k⟩ => ⟨F, S, τ, _, R, Ev, h, fun F1 S1 H1 i j s1 R1 ⟨ok, q⟩ => ⟨ok, fun p hp =>
    k _ _ _ (.r p) _ s1 (newMut R1 hp (repWs_of_all dp_rg)) (show V.ref p = V.ref p from rfl) (q p (R1.freeS hp))⟩⟩
end

/-! ### len(set(x)) of ints -/
theorem met_nodup (f : Nat → Int) : ∀ n, (firstMet f n).Nodup
  | 0 => List.nodup_nil
  | n + 1 => by
    rw [firstMet_succ]
    unfold step_dedup
    by_cases h : (firstMet f n).any (· == f n) = true
    · rw [if_pos h]; exact met_nodup f n
    · rw [if_neg h, List.nodup_append]
      refine ⟨met_nodup f n, by simp, ?_⟩
      intro x hx y hy
      cases List.mem_singleton.mp hy
      intro e
      exact h (List.any_eq_true.mpr ⟨x, hx, by simp [e]⟩)
theorem met_mem {ns : List Int} {k : Int} : k ∈ firstMet (fun i => ns.getD i 0) ns.length ↔ k ∈ ns := by
  have e := firstMet_any (fun i => ns.getD i 0) ns.length k
  have a1 : ∀ l : List Int, l.any (· == k) = true ↔ k ∈ l := fun l => by
    rw [List.any_eq_true]
    constructor
    · rintro ⟨x, hx, h⟩; rw [← beq_iff_eq.mp h]; exact hx
    · exact fun h => ⟨k, h, by simp⟩
  rw [← a1, e, a1]
  constructor
  · intro h
    obtain ⟨i, hi, h⟩ := List.mem_map.mp h
    have hi := List.mem_range.mp hi
    rw [← h, List.getD_eq_getElem?_getD, List.getElem?_eq_getElem hi]
    exact List.getElem_mem hi
  · intro h
    obtain ⟨i, hi, h⟩ := List.getElem_of_mem h
    refine List.mem_map.mpr ⟨i, List.mem_range.mpr hi, ?_⟩
    rw [List.getD_eq_getElem?_getD, List.getElem?_eq_getElem hi]; exact h
section
variable {X : Cx} {Ex : WX} {a : Expr}
def tLenSetV (K : PySem.W.Frag) (ta : TE) : TE := fun σ H Q => ta σ H fun x H1 => ∃ (l : Addr) (ns : List Int), x = V.ref l ∧ (SqL K H1 l (ns.map V.int) ∨ SqT K H1 l (ns.map V.int)) ∧ ns.length ≤ 1000 ∧ ∀ L : List Int, L.Nodup → (∀ k, k ∈ L ↔ k ∈ ns) → Q (.int L.length) H1
theorem pe_lenSetV {ta : TE} {p p2 q pos : Pos} (hc : X.calm = true) (hg : Gl X "len") (hm : X.mg "len" = none) (hg2 : Gl X "set") (hm2 : X.mg "set" = none) (ha : PE X a ta)
    (na : starEach [a] X.env = (false, eval a X.env) :: starEach [] X.env := by rfl) : PE X (.Call (.Name "len" p) [.Call (.Name "set" p2) [a] [] q] [] pos) (tLenSetV X.K ta) := by
  constructor
  intro pins s σ H Q I h
  refine Call_ (ld_blt I hg hm PySem.boot_len (callWith_builtin1 (args_cons (Call_ (ld_blt I hg2 hm2 boot_set (callWith_type1 (args_cons ?_ na) na rfl))) rfl) rfl rfl))
  refine thn (ha.run pins s σ H _ I h) (fun v s1 ⟨x, H1, I1, r1, l, ns, e, hq, hl, q1⟩ => args_nil ?_)
  subst e
  cases r1
  have fin : ∀ (h' : Heap) (tk n : Nat) (L : List Int), L.length = n → L.Nodup → (∀ k, k ∈ L ↔ k ∈ ns) → (∃ o es ep t, h'.get? s1.heap.objs.size = some o ∧ o.ExactSet ∧ o.data = .set es ep t ∧ t.fits es.size = true ∧ es.size = n) → n ≤ 1000 → (∀ b u, s1.heap.get? b = some u → h'.get? b = some u) →
      wpAny (model X.prog X.w) X.A (call (.builtin "len") [.ref s1.heap.objs.size]) (EP X pins σ Q) X.xe { s1 with heap := h', toks := tk } := by
    intro h' tk n L e1 nd mem ⟨o, es, ep, t, ho, hex, hd, hf, hn⟩ hn1 kp
    have J : Inv X pins σ H1 { s1 with heap := h', toks := tk } := I1.kept kp
    refine PySem.call_len_set ho hex hd hf (by rw [hn]; omega) ⟨.int L.length, H1, J.tok _, ⟨_, by rw [hn, e1]⟩, q1 L nd mem⟩
  rcases hq with hq | hq
  · obtain ⟨its, r, pl, _⟩ := I1.list hq
    have hi : IntsAre its.toArray.toList ns := ints_of_vals r
    have hl2 : its.toArray.size = ns.length := by rw [List.size_toArray, ← r.length, List.length_map]
    refine call_set_list (I1.ok.hd hc) pl.isList (ns := ns) hi (by unfold scanBound; omega) fun h' tk hS hk => ?_
    rw [hl2] at hS
    have table : ∃ o es ep t, h'.get? s1.heap.objs.size = some o ∧ o.ExactSet ∧ o.data = .set es ep t ∧ t.fits es.size = true ∧ es.size = _ := let ⟨o, es, ep, t, a1, a2, a3, _, _, _, a4, a5⟩ := hS; ⟨o, es, ep, t, a1, a2, a3, a4, a5⟩
    exact args_nil (fin h' tk _ _ rfl (met_nodup _ _) (fun k => met_mem) table (Nat.le_trans (firstMet_length_le _ _) hl) fun b u e => hk b u (Heap.lt_size e) e)
  · obtain ⟨its, r, pt, hz⟩ := I1.tuple hq
    have hi : IntsAre its.toArray.toList ns := ints_of_vals r
    refine call_set_tupI ns (I1.ok.hd hc) (show s1.heap.IsTuple l its.toArray from pt) hi (by unfold scanBound; omega) fun h' tk c R1 hcn k => ?_
    obtain ⟨o, es, ep, t, ho, hex, hd, g, nd, hm3, hb, hf, hn, _⟩ := R1
    exact args_nil (fin h' tk c (es.toList.map keyOf) (by rw [List.length_map, Array.length_toList]; exact hn) nd (fun j => by rw [← hm3 j]; simp) ⟨o, es, ep, t, ho, hex, hd, hf, hn⟩ (Nat.le_trans hcn hl) k)
variable {ta : TE3}
def tLenSet3 (ta : TE3) : TE3 := fun τ S Q => ta τ S fun w S1 => ∃ ns : List Int, itemsW S1 w = some (ns.map PyData.int) ∧ ns.length ≤ 1000 ∧ ∀ L : List Int, L.Nodup → (∀ k, k ∈ L ↔ k ∈ ns) → Q (.int L.length) S1
theorem pe3_lenSet {p p2 q pos : Pos} (hc : X.calm = true) (hg : Gl X "len") (hm : X.mg "len" = none) (hg2 : Gl X "set") (hm2 : X.mg "set" = none) (ha : PE X a (LE X.K Ex ta))
    (na : starEach [a] X.env = (false, eval a X.env) :: starEach [] X.env := by rfl) : PE X (.Call (.Name "len" p) [.Call (.Name "set" p2) [a] [] q] [] pos) (LE X.K Ex (tLenSet3 ta)) :=
  pe_imp (pe_lenSetV hc hg hm hg2 hm2 ha na) fun σ H Q ⟨F, S, τ, Q3, R, Ev, h, k⟩ => ⟨F, S, τ, _, R, Ev, h, fun F1 S1 H1 w v s1 R1 r1 ⟨ns, e, hl, q⟩ => by
    obtain ⟨a, vs, rfl, hs, ha, _⟩ := items_rep R1 r1 e
    have e2 := ints_of ha
    subst e2
    exact ⟨a, ns, rfl, hs.imp id And.left, hl, fun L h1 h2 => k F1 S1 H1 _ _ s1 R1 mk_int (q L h1 h2)⟩⟩
end

/-! ### is True, is False; x in xs -/
section
variable {X : Cx} {K : PySem.W.Frag}
def gIsB : R3 := fun w u S Q => ∃ a b, w = .bl a ∧ u = .bl b ∧ Q (.bl (decide (a = b))) S
theorem l_isB : OpL K gIsB rIsB := fun F S H w u x y Q3 Q R rw ru ⟨a, b, e1, e2, q⟩ k => by
  subst e1 e2
  exact ⟨a, b, rep_bl rw, rep_bl ru, k F S H _ _ (Sm.refl F) R mk_bl q⟩
def gNotB : R3 := fun w u S Q => ∃ a b, w = .bl a ∧ u = .bl b ∧ Q (.bl (!decide (a = b))) S
theorem l_notB : OpL K gNotB rNotB := fun F S H w u x y Q3 Q R rw ru ⟨a, b, e1, e2, q⟩ k => by
  subst e1 e2
  exact ⟨a, b, rep_bl rw, rep_bl ru, k F S H _ _ (Sm.refl F) R mk_bl q⟩
/-- x in a list or tuple of data -/
def rInV (K : PySem.W.Frag) (neg : Bool) : R2 := fun x y H Q => ∃ d ds, L2.Dp K H x d ∧ (L2.Dp K H y (.list ds) ∨ L2.Dp K H y (.tuple ds)) ∧ SeqAt.shaped d = true ∧ PyData.canLayAll0 ds = true ∧ Q (.bl (if neg then !ds.any fun z => PyData.eqv z d else ds.any fun z => PyData.eqv z d)) H
theorem room_in {A : Around} {d : PyData} {n : Nat} (h : SeqAt.shaped d = true) (hu : A.units + 70 < cLine) : A.units + 1 + min n d.depth < cLine := by
  have h1 := SeqAt.depth_of_shaped h
  have h2 := Nat.min_le_right n d.depth
  omega
theorem op_inV (hu : X.A.units + 70 < cLine) : OpR X (compareOp .In) (rInV X.K false) := by
  rintro pins s σ H x y v u Q I rx ry ⟨d, ds, hd, he, sd, se, q⟩
  obtain ⟨as, r1⟩ := L2.Dp.reads I d x v hd rx
  rcases he with he | he
  · obtain ⟨bs, r2⟩ := L2.Dp.reads I _ y u he ry
    exact SeqAt.in_list_reads r2 r1 se (SeqAt.canLay_of_shaped sd) (room_in sd hu) ⟨.bl _, H, I, rfl, q⟩
  · obtain ⟨bs, r2⟩ := L2.Dp.reads I _ y u he ry
    exact SeqAt.in_tuple_reads r2 r1 se (SeqAt.canLay_of_shaped sd) (room_in sd hu) ⟨.bl _, H, I, rfl, q⟩
theorem op_notInV (hu : X.A.units + 70 < cLine) : OpR X (compareOp .NotIn) (rInV X.K true) := by
  rintro pins s σ H x y v u Q I rx ry ⟨d, ds, hd, he, sd, se, q⟩
  obtain ⟨as, r1⟩ := L2.Dp.reads I d x v hd rx
  rcases he with he | he
  · obtain ⟨bs, r2⟩ := L2.Dp.reads I _ y u he ry
    exact SeqAt.notIn_list_reads r2 r1 se (SeqAt.canLay_of_shaped sd) (room_in sd hu) ⟨.bl _, H, I, rfl, q⟩
  · obtain ⟨bs, r2⟩ := L2.Dp.reads I _ y u he ry
    exact SeqAt.notIn_tuple_reads r2 r1 se (SeqAt.canLay_of_shaped sd) (room_in sd hu) ⟨.bl _, H, I, rfl, q⟩
def gIn (neg : Bool) : R3 := fun w u S Q => ∃ d ds, viewW S w = some d ∧ itemsW S u = some ds ∧ SeqAt.shaped d = true ∧ PyData.canLayAll0 ds = true ∧ Q (.bl (if neg then !ds.any fun z => PyData.eqv z d else ds.any fun z => PyData.eqv z d)) S
theorem items_dp {F : Fz} {S : Sto} {H : Hp} {w : W} {v : V} {ds : List PyData} (R : Rel K F S H) (r : RepW K F w v) (h : itemsW S w = some ds) : L2.Dp K H v (.list ds) ∨ L2.Dp K H v (.tuple ds) := by
  unfold itemsW at h
  cases e : viewW S w with
  | none => rw [e] at h; exact nomatch h
  | some x =>
    rw [e] at h
    have z := view_rep R r e
    cases x with
    | list l => cases h; exact .inl z
    | tuple l => cases h; exact .inr z
    | none => cases h
    | bool => cases h
    | int => cases h
    | str => cases h
    | dict => cases h
theorem l_in {neg : Bool} : OpL K (gIn neg) (rInV K neg) := fun F S H w u x y Q3 Q R rw ru ⟨d, ds, e1, e2, s1, s2, q⟩ k =>
  ⟨d, ds, view_rep R rw e1, items_dp R ru e2, s1, s2, k F S H _ _ (Sm.refl F) R mk_bl q⟩
/-- a text in a text -/
def gInS (neg : Bool) : R3 := fun w u S Q => ∃ i j, w = .str i ∧ u = .str j ∧ Q (.bl (if neg then !(!(Builtin.Str.occurrences j i 0 j.length 1).isEmpty) else !(Builtin.Str.occurrences j i 0 j.length 1).isEmpty)) S
theorem l_inS : OpL K (gInS false) (fun x y H Q => ∃ i j, x = .str i ∧ y = .str j ∧ Q (.bl (!(Builtin.Str.occurrences j i 0 j.length 1).isEmpty)) H) := fun F S H w u x y Q3 Q R rw ru ⟨i, j, e1, e2, q⟩ k => by
  subst e1 e2
  exact ⟨i, j, rep_str rw, rep_str ru, k F S H _ _ (Sm.refl F) R mk_bl q⟩
/-- lists joined to a new one, to stay -/
def gCat : R3 := fun w u S Q => ∃ ds es : List PyData, viewW S w = some (.list ds) ∧ viewW S u = some (.list es) ∧ ds.length + es.length ≤ 1000000 ∧ Q (.lst (ds ++ es)) S
/-- tuples joined -/
def gCatT : R3 := fun w u S Q => ∃ ds es : List PyData, w = .tup ds ∧ u = .tup es ∧ ds.length + es.length ≤ 1000000 ∧ Q (.tup (ds ++ es)) S
theorem dpAll_app {F : Hp} : ∀ {vs us : List V} {ds es : List PyData}, DpAll K F vs ds → DpAll K F us es → DpAll K F (vs ++ us) (ds ++ es)
  | _, _, _, _, .nil, h => h
  | _, _, _, _, .cons a t, h => .cons a (dpAll_app t h)
theorem l_catT : OpL K gCatT (rCatN K) := fun F S H w u x y Q3 Q R rw ru ⟨ds, es, e1, e2, hl, q⟩ k => by
  subst e1 e2
  obtain ⟨_, a, vs, rfl, hs, ha⟩ := tup_rep R rw rfl
  obtain ⟨_, b, us, rfl, hb, hc⟩ := tup_rep R ru rfl
  have l1 := dpAll_len ha
  have l2 := dpAll_len hc
  refine ⟨a, b, vs, us, rfl, rfl, hs, hb, by rw [l1, l2]; exact Nat.le_trans hl (by decide), fun hx => ?_, fun hx hy => ?_, fun hx hy p o hp no => ?_⟩
  · subst hx
    cases ha
    exact k F S H _ _ (Sm.refl F) R ru q
  · subst hy
    cases hc
    rw [List.append_nil] at q
    exact k F S H _ _ (Sm.refl F) R rw q
  · obtain ⟨s, R', rw'⟩ := newTup R hp no (dpAll_app ha hc)
    exact k _ _ _ _ _ s R' rw' q
end
end H3

namespace H3
open PySem PySem.Spec L2
open PyProof.Rows hiding St

section
variable {X : Cx} {Ex : WX} {e : Expr} {te : TE3} {pos : Pos}
def tNeg3 (t : TE3) : TE3 := fun τ S Q => t τ S fun w S1 => ∃ i, w = .int i ∧ Q (.int (-i)) S1
theorem pe3_neg (he : PE X e (LE X.K Ex te)) : PE X (.UnaryOp .USub e pos) (LE X.K Ex (tNeg3 te)) :=
  pe_imp (pe_un un_neg he) fun σ H Q ⟨F, S, τ, Q3, R, Ev, h, k⟩ => ⟨F, S, τ, _, R, Ev, h, fun F1 S1 H1 w x s1 R1 r1 ⟨i, e, q⟩ => by
    subst e
    exact ⟨i, rep_int r1, k F1 S1 H1 _ _ s1 R1 mk_int q⟩⟩
/-- xs[::-1], to be changed -/
def tRevM3 (te : TE3) : TE3 := fun τ S Q => te τ S fun w S1 => ∃ ws, (∃ ds, w = .lst ds ∧ ws = ds.map W.d) ∧ ∀ p, S1 p = none → Q (.r p) (put S1 p (.lst ws.reverse))
theorem pe3_revM {k : Nat} {p1 p2 p3 : Pos} (he : PE X e (LE X.K Ex te)) : PE X (.Subscript e (.Slice none none (some (.UnaryOp .USub (.Constant (.int 1) k p1) p2)) p3) pos) (LE X.K Ex (tRevM3 te)) :=
  pe_imp (pe_revL he) fun σ H Q ⟨F, S, τ, Q3, R, Ev, h, k⟩ => ⟨F, S, τ, _, R, Ev, h, fun F1 S1 H1 w x s1 R1 r1 ⟨ws, ⟨ds, e, e2⟩, q⟩ => by
    subst e e2
    obtain ⟨a, vs, rfl, hs, ha, _⟩ := list_rep R1 r1 (show viewW S1 (.lst ds) = some (.list ds) from rfl)
    refine ⟨a, vs, rfl, hs, fun p hp => ?_⟩
    rw [← List.map_reverse] at q
    exact k _ _ _ (.r p) _ s1 (newMut R1 hp (repWs_of_all (dpAll_rev ha))) (show V.ref p = V.ref p from rfl) (q p (R1.freeS hp))⟩
/-- three names at once -/
def tPar33 (i j l : Nat) (ta : TA3) : TS3 := fun D τ S => ta τ S fun ws S1 => ∃ u v w, ws = [u, v, w] ∧ D.nx (((τ.set i (some u)).set j (some v)).set l (some w)) S1
theorem ps3_par3 (i j l : Nat) {x y z : Str} {a b c : Expr} {ta : TA3} {px py pz pt : Pos} {kt k2 pt2} (hc : X.calm = true) (hN : X.N.Nodup) (ha : PA X [a, b, c] (LA X.K Ex ta)) (hi : X.N[i]? = some x := by rfl) (hj : X.N[j]? = some y := by rfl) (hl : X.N[l]? = some z := by rfl)
    (hij : i ≠ j := by decide) (hil : i ≠ l := by decide) (hjl : j ≠ l := by decide) (hx : X.env.scope.names.lookup x = some .local := by rfl) (hy : X.env.scope.names.lookup y = some .local := by rfl) (hz : X.env.scope.names.lookup z = some .local := by rfl)
    (hw : swappedStores [.Tuple [.Name x px, .Name y py, .Name z pz] kt pt] (.Tuple [a, b, c] k2 pt2) X.env = pure (some [x, y, z]) := by rfl) (hs : swapsWithSole [.Tuple [.Name x px, .Name y py, .Name z pz] kt pt] (.Tuple [a, b, c] k2 pt2) pos.line X.env = pure false := by rfl) :
    PS X (.Assign [.Tuple [.Name x px, .Name y py, .Name z pz] kt pt] (.Tuple [a, b, c] k2 pt2) pos) (LS X.K Ex (tPar33 i j l ta)) :=
  ps_imp (L2.ps_par3 hc hN hi hj hl hij hil hjl hx hy hz ha hw hs) fun D σ H ⟨F, S, τ, D3, R, Ev, h, k⟩ => ⟨F, S, τ, _, R, Ev, h, fun F1 S1 H1 ws vs s1 R1 r1 ⟨u, v, w, e, h1⟩ => by
    subst e
    cases r1 with
    | cons a t =>
      obtain ⟨v', w', rfl, rv, rw⟩ := ws2 t
      exact ⟨_, v', w', rfl, k.nx F1 S1 H1 _ _ s1 R1 ((((Ev.mono s1).set a).set rv).set rw) h1⟩⟩
/-- how many values names take -/
class GLen (gs : TGs3) (n : Nat) : Prop where
  h : ∀ ws τ S Q, gs ws τ S Q → ws.length = n
instance : GLen gNil3 0 := ⟨fun ws τ S Q ⟨e, _⟩ => by rw [e]; rfl⟩
instance {i : Nat} {gs : TGs3} {n : Nat} [h : GLen gs n] : GLen (gCons3 (gName3 i) gs) (n + 1) := ⟨fun ws τ S Q ⟨w, r, e, q⟩ => by rw [e, List.length_cons, h.h _ _ _ _ q]⟩
theorem unp_len {gs : TGs3} {n : Nat} [h : GLen gs n] {ws : List W} {τ : S3} {S : Sto} {Q : S3 → Sto → Prop} (q : gs ws τ S Q) : ws.length = n := h.h _ _ _ _ q
end

/-! ### steps of a proof over readings -/
/-- a promise is not opened while it is met -/
structure Bx (p : Prop) : Prop where
  h : p
/-- a store that differs at these places alone -/
def Upto (as : List Addr) (S S' : Sto) : Prop := ∀ b, b ∉ as → S' b = S b
theorem Upto.refl {as : List Addr} {S : Sto} : Upto as S S := fun _ _ => rfl
theorem Upto.trans {as : List Addr} {S S1 S2 : Sto} (a : Upto as S S1) (b : Upto as S1 S2) : Upto as S S2 := fun c h => (b c h).trans (a c h)
theorem Upto.put {as : List Addr} {S S1 : Sto} {a : Addr} {o : SO} (u : Upto as S S1) (h : a ∈ as) : Upto as S (put S1 a o) := fun c hc => by
  rw [put_ne (fun e => hc (by rw [e]; exact h))]; exact u c hc
/-- a loop by an invariant over the turns -/
theorem forGo_inv {g : TG3} {tb : TS3} {D : Ends3} {ws : List W} {τ : S3} {S : Sto} (P : Nat → S3 → Sto → Prop) (h0 : P 0 τ S)
    (hs : ∀ i w τ S, ws[i]? = some w → P i τ S → g w τ S fun τ2 S2 => tb { D with nx := P (i + 1), ct := P (i + 1), bk := D.nx } τ2 S2) (hd : ∀ τ S, P ws.length τ S → D.nx τ S) : forGo g tb D ws τ S := by
  have aux : ∀ (us : List W) (k : Nat) (τ : S3) (S : Sto), (∀ j, us[j]? = ws[k + j]?) → k + us.length = ws.length → P k τ S → forGo g tb D us τ S := fun us => by
    induction us with
    | nil =>
      intro k τ S _ hl p
      have : k = ws.length := by simpa using hl
      subst this
      exact hd τ S p
    | cons w us ih =>
      intro k τ S hj hl p
      refine ⟨P (k + 1), fun τ' S' p' => ih (k + 1) τ' S' (fun j => ?_) (by rw [List.length_cons] at hl; omega) p', hs k w τ S ?_ p⟩
      · have := hj (j + 1)
        rw [List.getElem?_cons_succ] at this
        rw [this]; congr 1; omega
      · have := hj 0
        rw [List.getElem?_cons_zero] at this
        exact this.symm
  exact aux ws 0 τ S (fun j => by rw [Nat.zero_add]) (by simp) h0
/-- a comprehension by an invariant: acc is what is made so far -/
theorem lcGo_inv {g : TG3} {tt : TT3} {te : TE3} {τ0 : S3} {ws : List W} {S : Sto} {Q : List W → Sto → Prop} (P : Nat → List W → Sto → Prop) (h0 : P 0 [] S)
    (hs : ∀ i w acc S, ws[i]? = some w → P i acc S → g w τ0 S fun τ2 S2 => tt τ2 S2 fun b S3 => (b = true → te τ2 S3 fun y S4 => P (i + 1) (acc ++ [y]) S4) ∧ (b = false → P (i + 1) acc S3))
    (mg : ∀ w τ S (A B : S3 → Sto → Prop), (∀ τ S, A τ S → B τ S) → g w τ S A → g w τ S B) (mt : ∀ τ S (A B : Bool → Sto → Prop), (∀ b S, A b S → B b S) → tt τ S A → tt τ S B) (me : ∀ τ S (A B : K3), (∀ w S, A w S → B w S) → te τ S A → te τ S B)
    (hd : ∀ acc S, P ws.length acc S → Q acc S) : lcGo g tt te τ0 ws [] S Q := by
  have aux : ∀ (us : List W) (k : Nat) (acc : List W) (S : Sto), (∀ j, us[j]? = ws[k + j]?) → k + us.length = ws.length → P k acc S → lcGo g tt te τ0 us acc S Q := fun us => by
    induction us with
    | nil =>
      intro k acc S _ hl p
      have : k = ws.length := by simpa using hl
      subst this
      exact hd acc S p
    | cons w us ih =>
      intro k acc S hj hl p
      have hl' : k + 1 + us.length = ws.length := by rw [List.length_cons] at hl; omega
      have hj' : ∀ j, us[j]? = ws[k + 1 + j]? := fun j => by
        have := hj (j + 1)
        rw [List.getElem?_cons_succ] at this
        rw [this]; congr 1; omega
      have h0 : ws[k]? = some w := by
        have := hj 0
        rw [List.getElem?_cons_zero] at this
        exact this.symm
      exact mg w τ0 S _ _ (fun τ2 S2 h => mt τ2 S2 _ _ (fun b S3 ⟨h1, h2⟩ => ⟨fun e => me τ2 S3 _ _ (fun y S4 p => ih (k + 1) _ S4 hj' hl' p) (h1 e), fun e => ih (k + 1) acc S3 hj' hl' (h2 e)⟩) h) (hs k w acc S h0 p)
  exact aux ws 0 [] S (fun j => by rw [Nat.zero_add]) (by simp) h0
/-- a comprehension of pure things over one name: filter by p, map by f -/
theorem lcGo_pure {i : Nat} {tt : TT3} {te : TE3} {τ0 : S3} {S : Sto} {Q : List W → Sto → Prop} (p : W → Bool) (f : W → W) : ∀ {ws : List W} {acc : List W}, (∀ w ∈ ws, ∀ A : Bool → Sto → Prop, A (p w) S → tt (τ0.set i (some w)) S A) → (∀ w ∈ ws, p w = true → ∀ A : K3, A (f w) S → te (τ0.set i (some w)) S A) →
    Q (acc ++ (ws.filter p).map f) S → lcGo (gName3 i) tt te τ0 ws acc S Q
  | [], acc, _, _, q => by
    have q : Q (acc ++ []) S := q
    rw [List.append_nil] at q
    exact q
  | w :: ws, acc, ht, he, q => by
    refine ht w List.mem_cons_self _ ⟨fun e => he w List.mem_cons_self e _ ?_, fun e => ?_⟩
    · refine lcGo_pure p f (fun w h => ht w (List.mem_cons_of_mem _ h)) (fun w h => he w (List.mem_cons_of_mem _ h)) ?_
      rw [List.filter_cons, if_pos e, List.map_cons] at q
      rw [List.append_assoc]
      exact q
    · refine lcGo_pure p f (fun w h => ht w (List.mem_cons_of_mem _ h)) (fun w h => he w (List.mem_cons_of_mem _ h)) ?_
      rw [List.filter_cons, if_neg (by rw [e]; exact Bool.false_ne_true)] at q
      exact q
theorem map_filter_true {α β : Type} (f : α → β) (l : List α) : (l.filter fun _ => true).map f = l.map f := by
  rw [List.filter_eq_self.mpr]; intro _ _; rfl
/-- .. without a test -/
theorem lcGo_map {i : Nat} {te : TE3} {τ0 : S3} {S : Sto} {Q : List W → Sto → Prop} (f : W → W) {ws acc : List W} (he : ∀ w ∈ ws, ∀ A : K3, A (f w) S → te (τ0.set i (some w)) S A) (q : Q (acc ++ ws.map f) S) : lcGo (gName3 i) tYes3 te τ0 ws acc S Q :=
  lcGo_pure (fun _ => true) f (fun _ _ _ a => a) (fun w h _ => he w h) (by rw [map_filter_true]; exact q)
end H3

namespace H3
open PySem PySem.Spec L2
open PyProof.Rows hiding St

/-! ### a law's draws -/
theorem ixW_r {S : Sto} {a : Addr} {ws : List W} {i : Int} (h : S a = some (.lst ws)) : ixW S i (.r a) = atI ws i := by
  show ((match S a with | some (.lst ws) => some ws | _ => none).bind fun ws => atI ws i) = _
  rw [h]; rfl
theorem isLst_r {S : Sto} {a : Addr} {ws : List W} (h : S a = some (.lst ws)) : isLst S (.r a) := .inr ⟨a, ws, rfl, h⟩
theorem lenW_r {S : Sto} {a : Addr} {ws : List W} (h : S a = some (.lst ws)) : lenW S (.r a) = some ws.length := by
  show ((match S a with | some (.lst ws) => some ws | _ => none).map List.length) = _
  rw [h]; rfl
theorem canLayAll_map {α : Type} (f : α → PyData) (h : ∀ x, (f x).canLay0 = true) : ∀ l : List α, PyData.canLayAll0 (l.map f) = true
  | [] => rfl
  | x :: l => by
    show (PyData.canLay0 (f x) && PyData.canLayAll0 (l.map f)) = true
    rw [h x, canLayAll_map f h l]; rfl
theorem depthAll_flat : ∀ l : List Int, PyData.depthAll (l.map PyData.int) = 0
  | [] => rfl
  | n :: l => by
    show max (PyData.depth (.int n)) (PyData.depthAll (l.map PyData.int)) = 0
    rw [depthAll_flat l]; rfl
theorem shaped_intsL (ns : List Int) : SeqAt.shaped (.list (ns.map PyData.int)) = true := by
  unfold SeqAt.shaped
  rw [show PyData.canLay0 (.list (ns.map PyData.int)) = PyData.canLayAll0 (ns.map PyData.int) from rfl, canLayAll_map _ (fun _ => rfl)]
  rw [show PyData.depth (.list (ns.map PyData.int)) = PyData.depthAll (ns.map PyData.int) + 1 from rfl, depthAll_flat]
  rfl
theorem shaped_intsT (ns : List Int) : SeqAt.shaped (.tuple (ns.map PyData.int)) = true := shaped_intsL ns
theorem eqv_int {a b : Int} : PyData.eqv (.int a) (.int b) = decide (a = b) := by
  show (a == b) = _
  rw [Bool.eq_iff_iff]; simp
theorem mw_ints (ns : List Int) : (ns.map PyData.int).map W.d = ns.map W.int := by rw [List.map_map]; rfl
theorem atI_nat {α : Type} {xs : List α} {i : Nat} {x : α} (h : xs[i]? = some x) : atI xs (i : Int) = some x := by
  have hl := (List.getElem?_eq_some_iff.mp h).1
  unfold atI ixN
  rw [if_pos (show (0 : Int) ≤ i by omega), if_pos (show (i : Int) < xs.length by omega)]
  exact h
theorem atI_of {α : Type} {xs : List α} {i : Int} (h0 : 0 ≤ i) (h : i < xs.length) : ∃ x, xs[i.toNat]? = some x ∧ atI xs i = some x := by
  have hl : i.toNat < xs.length := by omega
  refine ⟨xs[i.toNat], List.getElem?_eq_getElem hl, ?_⟩
  have z := atI_nat (List.getElem?_eq_getElem hl)
  rw [show ((i.toNat : Nat) : Int) = i by omega] at z
  exact z
theorem atI_last {α : Type} {xs : List α} {x : α} (h : xs[xs.length - 1]? = some x) : atI xs (-1) = some x := by
  have hl := (List.getElem?_eq_some_iff.mp h).1
  unfold atI ixN
  rw [if_neg (by omega), if_pos (by omega)]
  show xs[(-1 + (xs.length : Int)).toNat]? = _
  rw [show (-1 + (xs.length : Int)).toNat = xs.length - 1 by omega]
  exact h
def rb_law_deal_0 : TS3 := (tSet3 3 (tOp3 gMod (tCB3 gInt (tCons3 (tOp3 gAdd (tOp3 gAdd (tOp3 gMul (tVar3 3) (tC3 (.int 48271))) (tOp3 gMod (tVar3 4) (tC3 (.int 2147483579)))) (tC3 (.int 61))) tNil3)) (tC3 (.int 2147483647))))
def rd_law_deal : TS3 := (tSeq3 (tSet3 2 (tLcD3 (tSeqI3 (tSl3 gSlL (tVar3 0) tNoP3 (tPart3 (tC3 (.int 63))))) (gName3 4) tYes3 (tCB3 gAbs (tCons3 (tCB3 gInt (tCons3 (tVar3 4) tNil3)) tNil3)) [4])) (tSeq3 (tSet3 3 (tOp3 gAdd (tOp3 gMul (tC3 (.int 40127)) (tVar3 1)) (tC3 (.int 863)))) (tSeq3 (tFor3 (tSeqI3 (tVar3 2)) (gName3 4) rb_law_deal_0) (tRet3 (tLstM3 (tCons3 (tRevM3 (tLcD3 (tSeqI3 (tVar3 2)) (gName3 4) (tB3 (tOp3 gGe (tVar3 4) (tOp3 gPow (tC3 (.int 10)) (tC3 (.int 18))))) (tVar3 4) [4])) (tCons3 (tVar3 3) tNil3)))))))
def rd_law_any : TS3 := (tSeq3 (tWhile3 (tAnd3 (tB3 (tOp3 gNe (tOp3 gIx (tVar3 0) (tC3 (.int 0))) (tLstD3 tNil3))) (tB3 (tOp3 gEq (tOp3 gIx (tOp3 gIx (tVar3 0) (tC3 (.int 0))) (tNeg3 (tC3 (.int 1)))) (tC3 (.int 0))))) (tDrop3 (tBM03 gPop (tOp3 gIx (tVar3 0) (tC3 (.int 0)))))) (tSeq3 (tIf3 (tB3 (tOp3 gNe (tOp3 gIx (tVar3 0) (tC3 (.int 0))) (tLstD3 tNil3))) (tSeq3 (tSet3 2 (tCB3 gInt (tCons3 (tBM03 gPop (tOp3 gIx (tVar3 0) (tC3 (.int 0)))) tNil3))) (tSeq3 (tDrop3 (tBM3 gAppend (tOp3 gIx (tVar3 0) (tC3 (.int 0))) (tCons3 (tOp3 gDiv (tVar3 2) (tVar3 1)) tNil3))) (tRet3 (tOp3 gMod (tVar3 2) (tVar3 1))))) tNext3) (tSeq3 (tAsg3 (tOp3 gMod (tCB3 gInt (tCons3 (tOp3 gAdd (tOp3 gMul (tOp3 gIx (tVar3 0) (tC3 (.int 1))) (tC3 (.int 48271))) (tC3 (.int 83))) tNil3)) (tC3 (.int 2147483647))) (gSub3 (tVar3 0) (tC3 (.int 1)) gSetL)) (tRet3 (tOp3 gMod (tCB3 gInt (tCons3 (tOp3 gDiv (tOp3 gIx (tVar3 0) (tC3 (.int 1))) (tC3 (.int 64))) tNil3)) (tVar3 1))))))
--DEAL
/-- a deal: the list at dl holds a list of ints at d1, and a number -/
structure Deal (S : Sto) (dl d1 : Addr) : Prop where
  ne : dl ≠ d1
  top : ∃ m : Int, S dl = some (.lst [.r d1, .int m])
  low : ∃ ns : List Int, ns.length ≤ 63 ∧ S d1 = some (.lst (ns.map W.int))
theorem Deal.up {S S' : Sto} {dl d1 a : Addr} (h : Deal S dl d1) (u : ∀ b, b = dl ∨ b = d1 → S' b = S b) : Deal S' dl d1 := by
  obtain ⟨ne, ⟨m, t⟩, ⟨ns, hl, l⟩⟩ := h
  exact ⟨ne, ⟨m, by rw [u _ (.inl rfl)]; exact t⟩, ⟨ns, hl, by rw [u _ (.inr rfl)]; exact l⟩⟩
theorem Deal.up' {S S' : Sto} {dl d1 : Addr} (h : Deal S dl d1) (u : ∀ b, b = dl ∨ b = d1 → S' b = S b) : Deal S' dl d1 := h.up (a := dl) u
theorem Deal.new {S : Sto} {dl d1 p : Addr} {o : SO} (h : Deal S dl d1) (hp : S p = none) : Deal (put S p o) dl d1 := h.up' fun b e => put_ne fun q => by
  subst q
  obtain ⟨ne, ⟨m, t⟩, ⟨ns, hl, l⟩⟩ := h
  rcases e with e | e
  · rw [e, t] at hp; cases hp
  · rw [e, l] at hp; cases hp
theorem Deal.free {S : Sto} {dl d1 p : Addr} (h : Deal S dl d1) (hp : S p = none) : p ≠ dl ∧ p ≠ d1 := by
  obtain ⟨ne, ⟨m, t⟩, ⟨ns, hl, l⟩⟩ := h
  constructor
  · rintro rfl; rw [t] at hp; cases hp
  · rintro rfl; rw [l] at hp; cases hp
theorem Deal.other {S : Sto} {dl d1 p : Addr} {o : SO} (h : Deal S dl d1) (h1 : p ≠ dl) (h2 : p ≠ d1) : Deal (put S p o) dl d1 := h.up' fun b e => put_ne fun q => by
  subst q
  rcases e with e | e
  · exact h1 e
  · exact h2 e
def sq_law_deal : Sp3 := fun ws S Q _ => ∃ (ns : List Int) (b : Int), ws = [.lst (ns.map PyData.int), .int b] ∧ ns.length ≤ 63 ∧ ∀ dl d1 S', S dl = none → S d1 = none → Upto [dl, d1] S S' → Deal S' dl d1 → Q (.r dl) S'
def sp_law_deal : Sp3 := fun ws S Q E => Bx (sq_law_deal ws S Q E)
def sq_law_any : Sp3 := fun ws S Q _ => ∃ (dl d1 : Addr) (b : Int), ws = [.r dl, .int b] ∧ 0 < b ∧ b.natAbs.log2 < 9000 ∧ Deal S dl d1 ∧ ∀ r S', 0 ≤ r → r < b → Upto [dl, d1] S S' → Deal S' dl d1 → Q (.int r) S'
def sp_law_any : Sp3 := fun ws S Q E => Bx (sq_law_any ws S Q E)
theorem len_law_deal : ∀ ws S Q E, sp_law_deal ws S Q E → ws.length = 2 := fun ws S Q E ⟨ns, b, e, _⟩ => by rw [e]; rfl
theorem len_law_any : ∀ ws S Q E, sp_law_any ws S Q E → ws.length = 2 := fun ws S Q E ⟨dl, d1, b, e, _⟩ => by rw [e]; rfl
theorem eqv_nil (ns : List Int) : PyData.eqv (.list (ns.map PyData.int)) (.list []) = decide (ns = []) := by
  cases ns with
  | nil => rfl
  | cons n ns => rfl
theorem cutG_none_len {α : Type} (xs : List α) (hi : Option Int) : (cutG xs none hi).length ≤ xs.length := by
  unfold cutG
  simp only [List.length_take, List.length_drop]
  omega
theorem cutG_map {α β : Type} (f : α → β) (xs : List α) (lo hi : Option Int) : cutG (xs.map f) lo hi = (cutG xs lo hi).map f := by
  unfold cutG
  rw [List.length_map, List.map_take, List.map_drop]
theorem sem_law_deal : ∀ ws S Q E, sp_law_deal ws S Q E → rd_law_deal (DQ Q) (start3 5 ws E) S := fun ws S Q E ⟨ns, b, e, hl, hQ⟩ => by
  subst e
  refine ⟨_, rfl, _, rfl, ns.map PyData.int, rfl, _, .inl rfl, ?_, ?_⟩
  · rw [List.length_map]
    have z := cutG_none_len (ns.map PyData.int) (some 63)
    rw [List.length_map] at z
    omega
  rw [cutG_map, mw_ints]
  have hcl := cutG_none_len ns (some 63)
  refine lcGo_map (fun w => match w with | .d (.int i) => .int (if i < 0 then -i else i) | w => w) ?_ ?_
  · intro w hw A a
    obtain ⟨i, hi, rfl⟩ := List.mem_map.mp hw
    exact ⟨_, rfl, i, rfl, i, rfl, a⟩
  · refine ⟨((cutG ns none (some 63)).map fun i => if i < 0 then -i else i).map PyData.int, by rw [List.map_map, List.map_map, List.map_map]; rfl, ?_⟩
    generalize hcs : ((cutG ns none (some 63)).map fun i => if i < 0 then -i else i) = cs
    have hcsl : cs.length ≤ 63 := by rw [← hcs, List.length_map]; omega
    refine ⟨_, rfl, _, _, rfl, rfl, .inl ⟨by decide, by decide⟩, _, _, rfl, rfl, _, rfl, _, .inl rfl, ?_⟩
    refine forGo_inv (fun _ τ S' => S' = S ∧ ∃ m w, τ.sl = [some (.lst (ns.map PyData.int)), some (.int b), some (.lst (cs.map PyData.int)), some (.int m), w]) ⟨rfl, _, _, rfl⟩ ?_ ?_
    · rintro i w ⟨sl, ex⟩ S' hw ⟨rfl, m, w4, e⟩
      subst e
      rw [mw_ints, List.getElem?_map] at hw
      obtain ⟨n, hn, rfl⟩ : ∃ n, cs[i]? = some n ∧ W.int n = w := by
        cases h : cs[i]? with
        | none => rw [h] at hw; cases hw
        | some n => rw [h] at hw; exact ⟨n, rfl, Option.some.inj hw⟩
      exact ⟨_, rfl, _, _, rfl, rfl, .inr ⟨by decide, by decide⟩, _, rfl, _, _, rfl, rfl, (show (0 : Int) < 2147483579 by decide), _, _, rfl, rfl, _, _, rfl, rfl, _, rfl, _, _, rfl, rfl, (show (0 : Int) < 2147483647 by decide), rfl, _, _, rfl⟩
    · rintro ⟨sl, ex⟩ S' ⟨rfl, m, w4, e⟩
      subst e
      refine ⟨_, rfl, _, .inl rfl, by rw [List.length_map, List.length_map]; omega, ?_⟩
      rw [mw_ints]
      refine lcGo_pure (fun w => match w with | .d (.int i) => decide ((10 : Int) ^ (18 : Int).toNat ≤ i) | _ => false) id ?_ ?_ ?_
      · intro w hw A a
        obtain ⟨i, hi, rfl⟩ := List.mem_map.mp hw
        exact ⟨_, rfl, _, _, rfl, rfl, ⟨by decide, by decide, by decide⟩, _, _, rfl, rfl, _, rfl, a⟩
      · intro w hw hp A a
        exact ⟨_, rfl, a⟩
      · have e : ([] ++ ((cs.map W.int).filter fun w => match w with | .d (.int i) => decide ((10 : Int) ^ (18 : Int).toNat ≤ i) | _ => false).map id) = ((cs.filter fun i => decide ((10 : Int) ^ (18 : Int).toNat ≤ i)).map PyData.int).map W.d := by
          rw [List.nil_append, List.map_id, List.filter_map, List.map_map]; rfl
        refine ⟨_, e, _, ⟨_, rfl, rfl⟩, fun p hp => ?_⟩
        generalize hgs : (cs.filter fun i => decide ((10 : Int) ^ (18 : Int).toNat ≤ i)) = gs
        have hgl : gs.length ≤ 63 := by rw [← hgs]; exact Nat.le_trans (List.length_filter_le _ _) hcsl
        refine ⟨_, rfl, (show 2 ≤ 1000 by decide), fun q hq => ⟨_, Sub.refl _, ?_⟩⟩
        have hqp : p ≠ q := by rintro rfl; rw [put_same] at hq; cases hq
        refine hQ q p _ (by rw [← hq, put_ne hqp.symm]) hp ((Upto.put (Upto.refl) (by simp)).put (by simp)) ⟨hqp.symm, ⟨_, put_same⟩, gs.reverse, by rw [List.length_reverse]; exact hgl, ?_⟩
        rw [put_ne hqp, put_same, mw_ints, List.map_reverse]
theorem sem_law_any : ∀ ws S Q E, sp_law_any ws S Q E → rd_law_any (DQ Q) (start3 3 ws E) S := fun ws S Q E ⟨dl, d1, b, e, hb, hb2, hD, hQ⟩ => by
  subst e
  refine ⟨fun k τ S' => τ.sl = [some (.r dl), some (.int b), none] ∧ Upto [dl, d1] S S' ∧ Deal S' dl d1 ∧ ∃ ns : List Int, ns.length = k ∧ S' d1 = some (.lst (ns.map W.int)), ?_, ?_⟩
  · obtain ⟨ns, _, h⟩ := hD.low
    exact ⟨_, rfl, Upto.refl, hD, ns, rfl, h⟩
  rintro k ⟨sl, ex⟩ S' ⟨e, u, hD', ns, hk, h1⟩
  subst e
  obtain ⟨ne, ⟨m, ht⟩, ns', hl', h1'⟩ := id hD'
  rw [h1] at h1'
  have hl : ns.length ≤ 63 := by
    have z : ns.map W.int = ns'.map W.int := by injection (Option.some.inj h1')
    have z2 := congrArg List.length z
    rw [List.length_map, List.length_map] at z2
    omega
  have i0 : ixW S' 0 (.r dl) = some (.r d1) := by rw [ixW_r ht]; rfl
  have i1 : ixW S' 1 (.r dl) = some (.int m) := by rw [ixW_r ht]; rfl
  have vw : viewW S' (.r d1) = some (.list (ns.map PyData.int)) := view_lst (by rw [mw_ints]; exact h1)
  refine ⟨_, rfl, _, _, rfl, i0, [], rfl, by decide, .inr ⟨_, _, vw, rfl, shaped_intsL ns, shaped_intsL [], _, rfl, fun hc => ?_, fun hc => ?_⟩⟩
  · rw [eqv_nil] at hc
    have hn : ns ≠ [] := by simpa using hc
    have hpos : 0 < ns.length := List.length_pos_iff.mpr hn
    have hlast : (ns.map W.int)[(ns.map W.int).length - 1]? = some (.int (ns[ns.length - 1])) := by
      rw [List.length_map, List.getElem?_map, List.getElem?_eq_getElem (by omega)]; rfl
    have il : ixW S' (-1) (.r d1) = some (.int (ns[ns.length - 1])) := by rw [ixW_r h1]; exact atI_last hlast
    refine ⟨_, rfl, _, _, rfl, i0, _, rfl, _, _, rfl, il, .inr ⟨_, _, rfl, rfl, rfl, rfl, _, rfl, fun hz => ?_, fun hz => ?_⟩⟩
    · refine ⟨fun τ2 S2 => ∃ m', m' < k ∧ τ2.sl = [some (.r dl), some (.int b), none] ∧ Upto [dl, d1] S S2 ∧ Deal S2 dl d1 ∧ ∃ ns : List Int, ns.length = m' ∧ S2 d1 = some (.lst (ns.map W.int)), fun τ2 S2 h => h, ?_⟩
      refine ⟨_, rfl, _, _, rfl, i0, isLst_r h1, d1, _, _, rfl, rfl, h1, hlast, ns.length - 1, by omega, rfl, u.put (by simp), ⟨ne, ⟨m, by rw [put_ne ne]; exact ht⟩, ns.dropLast, by rw [List.length_dropLast]; omega, by rw [put_same, List.map_dropLast]⟩, ns.dropLast, by rw [List.length_dropLast], by rw [put_same, List.map_dropLast]⟩
    · -- the last is not 0
      refine ⟨_, rfl, _, _, rfl, i0, [], rfl, by decide, .inr ⟨_, _, vw, rfl, shaped_intsL ns, shaped_intsL [], _, rfl, fun _ => ?_, fun hc2 => ?_⟩⟩
      · generalize hx : ns[ns.length - 1] = x at *
        refine ⟨_, rfl, _, _, rfl, i0, isLst_r h1, d1, _, _, rfl, rfl, h1, hlast, x, rfl, ?_⟩
        have h2 : put S' d1 (.lst (ns.map W.int).dropLast) d1 = some (.lst (ns.map W.int).dropLast) := put_same
        have i2 : ixW (put S' d1 (.lst (ns.map W.int).dropLast)) 0 (.r dl) = some (.r d1) := by rw [ixW_r (by rw [put_ne ne]; exact ht)]; rfl
        refine ⟨_, rfl, _, _, rfl, i2, isLst_r h2, _, rfl, _, rfl, _, _, rfl, rfl, ⟨hb, hb2⟩, d1, _, _, rfl, rfl, h2, ?_, ?_⟩
        · rw [List.length_dropLast, List.length_map]; exact Nat.lt_of_le_of_lt (show ns.length - 1 ≤ 63 by omega) (by decide)
        refine ⟨_, rfl, _, rfl, _, _, rfl, rfl, hb, _, Sub.refl _, hQ _ _ (Int.emod_nonneg _ (by omega)) (Int.emod_lt_of_pos _ hb) ((u.put (by simp)).put (by simp)) ⟨ne, ⟨m, by rw [put_ne ne, put_ne ne]; exact ht⟩, ns.dropLast ++ [x / b], ?_, ?_⟩⟩
        · rw [List.length_append, List.length_dropLast, List.length_singleton]; omega
        · rw [put_same, List.map_append, List.map_dropLast]; rfl
      · rw [eqv_nil, hc] at hc2; cases hc2
  · -- nothing is left
    rw [eqv_nil] at hc
    refine ⟨fun z => (nomatch z), fun _ => ?_⟩
    refine ⟨_, rfl, _, _, rfl, i0, [], rfl, by decide, .inr ⟨_, _, vw, rfl, shaped_intsL ns, shaped_intsL [], _, rfl, fun hc2 => ?_, fun _ => ?_⟩⟩
    · rw [eqv_nil, hc] at hc2; cases hc2
    · have t2 : put S' dl (.lst ([W.r d1, W.int m].set 1 (.int ((m * 48271 + 83) % 2147483647)))) dl = some (.lst [.r d1, .int ((m * 48271 + 83) % 2147483647)]) := put_same
      have i2 : ixW (put S' dl (.lst ([W.r d1, W.int m].set 1 (.int ((m * 48271 + 83) % 2147483647))))) 1 (.r dl) = some (.int ((m * 48271 + 83) % 2147483647)) := by rw [ixW_r t2]; rfl
      refine ⟨_, rfl, _, _, rfl, i1, _, _, rfl, rfl, .inr ⟨by decide, by decide⟩, _, _, rfl, rfl, _, rfl, _, _, rfl, rfl, (show (0 : Int) < 2147483647 by decide), _, rfl, dl, _, _, 1, rfl, rfl, ht, rfl, ?_⟩
      exact ⟨_, rfl, _, _, rfl, i2, _, _, rfl, rfl, ⟨by decide, by decide⟩, _, rfl, _, rfl, _, _, rfl, rfl, hb, _, Sub.refl _, hQ _ _ (Int.emod_nonneg _ (by omega)) (Int.emod_lt_of_pos _ hb) (u.put (by simp)) ⟨ne, ⟨_, t2⟩, ns, hl, by rw [put_ne ne.symm]; exact h1⟩⟩
def rd_law_of : TS3 := (tRet3 (tOp3 gIx (tVar3 1) (tCall3 sp_law_any (tCons3 (tVar3 0) (tCons3 (tCB3 gLen (tCons3 (tVar3 1) tNil3)) tNil3)))))
--OF
theorem t : True := trivial

end H3

namespace H3
open PySem PySem.Spec L2
open PyProof.Rows hiding St

theorem un70 {k : Nat} {A : Around} (hr : Room k A) : A.units + 70 < cLine := by have := hr.un; omega
theorem un64 {k : Nat} {A : Around} (hr : Room k A) : A.units + 64 < cLine := by have := hr.un; omega
/-! ### data that is small -/
structure Fine (k w : Nat) (x : PyData) : Prop where
  lay : x.canLay0 = true
  dep : x.depth ≤ k
  sho : x.showable = true
  int : x.intsShort 60 = true
  wgt : x.weight ≤ w
theorem Fine.mono {k w k' w' : Nat} {x : PyData} (h : Fine k w x) (hk : k ≤ k' := by decide) (hw : w ≤ w' := by decide) : Fine k' w' x := ⟨h.lay, Nat.le_trans h.dep hk, h.sho, h.int, Nat.le_trans h.wgt hw⟩
theorem Fine.ofInt {i : Int} (h : i.natAbs < 10 ^ 50) : Fine 0 200 (.int i) := by
  have hl : i.natAbs.log2 < 190 := by
    by_cases h0 : i.natAbs = 0
    · rw [h0]; decide
    · exact (Nat.log2_lt h0).mpr (Nat.lt_of_lt_of_le h (by decide))
  refine ⟨rfl, Nat.le_refl _, decide_eq_true (show i.natAbs.log2 < 1920 by omega), decide_eq_true ?_, ?_⟩
  · have e := PySem.int_text_length_le10 (k := 50) (by decide) h
    show (Str.ofString (toString i)).length ≤ 60
    rw [PySem.ofString_length]; omega
  · show (if i == 0 then 0 else i.natAbs.log2 + 1) ≤ 200
    split <;> omega
theorem Fine.bool {b : Bool} : Fine 0 0 (.bool b) := ⟨rfl, Nat.le_refl _, rfl, rfl, Nat.le_refl _⟩
theorem Fine.none : Fine 0 0 .none := ⟨rfl, Nat.le_refl _, rfl, rfl, Nat.le_refl _⟩
theorem fine_all {k w : Nat} : ∀ {ds : List PyData}, (∀ x ∈ ds, Fine k w x) → PyData.canLayAll0 ds = true ∧ PyData.depthAll ds ≤ k ∧ PyData.showableAll ds = true ∧ PyData.intsShortAll 60 ds = true ∧ PyData.weightAll ds ≤ (w + 1) * ds.length
  | [], _ => ⟨rfl, Nat.zero_le _, rfl, rfl, Nat.zero_le _⟩
  | x :: ds, h => by
    have h0 := h x List.mem_cons_self
    obtain ⟨a, b, c, d, e⟩ := fine_all fun y hy => h y (List.mem_cons_of_mem _ hy)
    refine ⟨?_, ?_, ?_, ?_, ?_⟩
    · show (x.canLay0 && PyData.canLayAll0 ds) = true
      rw [h0.lay, a]; rfl
    · show max x.depth (PyData.depthAll ds) ≤ k
      exact Nat.max_le.mpr ⟨h0.dep, b⟩
    · show (x.showable && PyData.showableAll ds) = true
      rw [h0.sho, c]; rfl
    · show (x.intsShort 60 && PyData.intsShortAll 60 ds) = true
      rw [h0.int, d]; rfl
    · show x.weight + 1 + PyData.weightAll ds ≤ (w + 1) * (ds.length + 1)
      have := h0.wgt
      rw [Nat.mul_add, Nat.mul_one]; omega
theorem Fine.list {k w n : Nat} {ds : List PyData} (h : ∀ x ∈ ds, Fine k w x) (hn : (w + 1) * ds.length ≤ n) : Fine (k + 1) n (.list ds) := by
  obtain ⟨a, b, c, d, e⟩ := fine_all h
  exact ⟨a, Nat.succ_le_succ b, c, d, Nat.le_trans e hn⟩
theorem Fine.tuple {k w n : Nat} {ds : List PyData} (h : ∀ x ∈ ds, Fine k w x) (hn : (w + 1) * ds.length ≤ n) : Fine (k + 1) n (.tuple ds) := by
  obtain ⟨a, b, c, d, e⟩ := fine_all h
  exact ⟨a, Nat.succ_le_succ b, c, d, Nat.le_trans e hn⟩
theorem Fine.shaped {k w : Nat} {x : PyData} (h : Fine k w x) (hk : k ≤ 64 := by decide) : SeqAt.shaped x = true := by
  unfold SeqAt.shaped
  rw [h.lay, Bool.true_and]
  exact decide_eq_true (Nat.le_trans h.dep hk)
theorem Fine.len {k w : Nat} {x : PyData} (h : Fine k w x) (hw : w ≤ 200000 := by decide) : x.shown.length ≤ sizeLine := by
  have z := PyData.shown_le 60 (by decide) x (PyData.leavesShort_of_canLay0 60 x h.lay h.int)
  have h1 := h.wgt
  have e : sizeLine = 16777216 := by decide
  omega
/-- repr of such -/
theorem Fine.repr {k w : Nat} {x : PyData} {u : W} {S : Sto} {Q : K3} (h : Fine k w x) (hv : viewW S u = some x) (q : Q (.str x.shown) S) (hk : k ≤ 64 := by decide) (hw : w ≤ 200000 := by decide) : gRepr [u] S Q :=
  ⟨u, x, rfl, hv, h.sho, PyData.hasDict_of_canLay x h.lay, Nat.le_trans h.dep hk, h.len hw, q⟩
theorem repr_bl {b : Bool} {S : Sto} {Q : K3} (q : Q (.str (PyData.bool b).shown) S) : gRepr [.bl b] S Q := (Fine.bool (b := b)).repr rfl q
theorem shown_bl {a b : Bool} : (PyData.bool a).shown = (PyData.bool b).shown ↔ a = b := by
  cases a <;> cases b <;> simp <;> decide +kernel

/-! ### one of some things -/
def sq_law_of : Sp3 := fun ws S Q _ => ∃ (dl d1 : Addr) (w : W) (n : Nat), ws = [.r dl, w] ∧ lenW S w = some n ∧ 0 < n ∧ n.log2 < 9000 ∧ Deal S dl d1 ∧ ∀ (i : Int) S', 0 ≤ i → i < n → Upto [dl, d1] S S' → Deal S' dl d1 → ∃ x, ixW S' i w = some x ∧ Q x S'
def sp_law_of : Sp3 := fun ws S Q E => Bx (sq_law_of ws S Q E)
theorem len_law_of : ∀ ws S Q E, sp_law_of ws S Q E → ws.length = 2 := fun ws S Q E ⟨dl, d1, w, n, e, _⟩ => by rw [e]; rfl
theorem sem_law_of : ∀ ws S Q E, sp_law_of ws S Q E → rd_law_of (DQ Q) (start3 2 ws E) S := fun ws S Q E ⟨dl, d1, w, n, e, hn, h0, h9, hD, hQ⟩ => by
  subst e
  refine ⟨_, rfl, _, rfl, _, rfl, w, n, rfl, hn, dl, d1, n, rfl, by omega, by simpa using h9, hD, fun r S' r0 r1 u hD' => ?_⟩
  obtain ⟨x, hx, q⟩ := hQ r S' r0 r1 u hD'
  exact ⟨r, x, rfl, hx, _, Sub.refl _, q⟩
theorem law_of_list {dl d1 : Addr} {ds : List PyData} {S : Sto} {Q : K3} {E : X3} (hD : Deal S dl d1) (h0 : ds ≠ []) (hl : ds.length < 2 ^ 60) (q : ∀ d ∈ ds, ∀ S', Upto [dl, d1] S S' → Deal S' dl d1 → Q (.d d) S') : sp_law_of [.r dl, .lst ds] S Q E := by
  have hp := List.length_pos_iff.mpr h0
  refine ⟨dl, d1, _, ds.length, rfl, ?_, hp, ?_, hD, fun i S' i0 i1 u hD' => ?_⟩
  · show some (ds.map W.d).length = _
    rw [List.length_map]
  · exact Nat.lt_trans ((Nat.log2_lt (by omega)).mpr hl) (by decide)
  · obtain ⟨x, hx, hi⟩ := atI_of (xs := ds.map W.d) i0 (by rw [List.length_map]; exact i1)
    rw [List.getElem?_map] at hx
    cases hd : ds[i.toNat]? with
    | none => rw [hd] at hx; cases hx
    | some d =>
      rw [hd] at hx
      cases hx
      exact ⟨_, hi, q d (List.mem_of_getElem? hd) S' u hD'⟩
theorem law_of_tup {dl d1 : Addr} {ds : List PyData} {S : Sto} {Q : K3} {E : X3} (hD : Deal S dl d1) (h0 : ds ≠ []) (hl : ds.length < 2 ^ 60) (q : ∀ d ∈ ds, ∀ S', Upto [dl, d1] S S' → Deal S' dl d1 → Q (.d d) S') : sp_law_of [.r dl, .tup ds] S Q E := by
  have hp := List.length_pos_iff.mpr h0
  refine ⟨dl, d1, _, ds.length, rfl, ?_, hp, ?_, hD, fun i S' i0 i1 u hD' => ?_⟩
  · show some (ds.map W.d).length = _
    rw [List.length_map]
  · exact Nat.lt_trans ((Nat.log2_lt (by omega)).mpr hl) (by decide)
  · obtain ⟨x, hx, hi⟩ := atI_of (xs := ds.map W.d) i0 (by rw [List.length_map]; exact i1)
    rw [List.getElem?_map] at hx
    cases hd : ds[i.toNat]? with
    | none => rw [hd] at hx; cases hx
    | some d =>
      rw [hd] at hx
      cases hx
      exact ⟨_, hi, q d (List.mem_of_getElem? hd) S' u hD'⟩
/-- a number -/
theorem log_lt {b : Int} (h0 : 0 < b) (hb : b < 2 ^ 200) : b.natAbs.log2 < 9000 := by
  have h : b.natAbs < 2 ^ 200 := by omega
  exact Nat.lt_trans ((Nat.log2_lt (by omega)).mpr h) (by decide)
theorem law_any_lt {dl d1 : Addr} {b : Int} {S : Sto} {Q : K3} {E : X3} (hD : Deal S dl d1) (h0 : 0 < b) (hb : b < 2 ^ 200) (q : ∀ r S', 0 ≤ r → r < b → Upto [dl, d1] S S' → Deal S' dl d1 → Q (.int r) S') : sp_law_any [.r dl, .int b] S Q E :=
  ⟨dl, d1, b, rfl, h0, log_lt h0 hb, hD, q⟩
theorem mono_law_any {ws : List W} {S : Sto} {A B : K3} {E E' : X3} (m : ∀ w S, A w S → B w S) : sp_law_any ws S A E → sp_law_any ws S B E' := fun ⟨dl, d1, b, e, h1, h2, h3, q⟩ => ⟨dl, d1, b, e, h1, h2, h3, fun r S' a b c d => m _ _ (q r S' a b c d)⟩
theorem Upto.drp {as : List Addr} {S S1 : Sto} {a : Addr} (u : Upto (a :: as) S S1) (h : S a = none) : Upto as S (drp S1 a) := fun c hc => by
  by_cases e : c = a
  · subst e; rw [drp_same, h]
  · rw [drp_ne e]
    exact u c (by simp [e, hc])
theorem Upto.more {as bs : List Addr} {S S1 : Sto} (u : Upto as S S1) (h : ∀ a ∈ as, a ∈ bs) : Upto bs S S1 := fun c hc => u c fun q => hc (h c q)
theorem Upto.new {as : List Addr} {S S1 : Sto} {a : Addr} {o : SO} (u : Upto as S S1) : Upto (a :: as) S (H3.put S1 a o) := (u.more fun _ h => List.mem_cons_of_mem _ h).put List.mem_cons_self
theorem sub_drp {S : Sto} {a : Addr} : Sub (drp S a) S := fun b p h => by
  by_cases e : b = a
  · subst e; rw [drp_same] at h; cases h
  · rw [drp_ne e] at h; exact h
theorem Deal.drp {S : Sto} {dl d1 a : Addr} (h : Deal S dl d1) (h1 : a ≠ dl) (h2 : a ≠ d1) : Deal (drp S a) dl d1 := h.up' fun b e => drp_ne fun q => by
  subst q
  rcases e with e | e
  · exact h1 e
  · exact h2 e
theorem nodup_len {L M : List Int} (h1 : L.Nodup) (h2 : M.Nodup) (h : ∀ k, k ∈ L ↔ k ∈ M) : L.length = M.length :=
  Nat.le_antisymm (h1.length_le_of_subset fun k hk => (h k).mp hk) (h2.length_le_of_subset fun k hk => (h k).mpr hk)
end H3

namespace H3
open PySem PySem.Spec L2
open PyProof.Rows hiding St
/-! ### what the program's defs do -/
def btw : PyData → Int → Int → Bool
  | .int i, lo, hi => decide (lo ≤ i) && decide (i ≤ hi)
  | _, _, _ => false
def isI : PyData → Bool
  | .int _ => true
  | _ => false
def isMap : PyData → Bool
  | .tuple ds => decide (1 ≤ ds.length) && decide (ds.length ≤ 12) && ds.all fun d => btw d 0 (ds.length - 1)
  | _ => false
/-- data without dicts -/
def flatD : PyData → Bool
  | .dict _ => false
  | _ => true
def sq_is_int : Sp3 := fun ws S Q _ => ∃ d, ws = [.d d] ∧ flatD d = true ∧ Q (.bl (isI d)) S
def sp_is_int : Sp3 := fun ws S Q E => Bx (sq_is_int ws S Q E)
def sq_is_between : Sp3 := fun ws S Q _ => ∃ d lo hi, ws = [.d d, .int lo, .int hi] ∧ flatD d = true ∧ Q (.bl (btw d lo hi)) S
def sp_is_between : Sp3 := fun ws S Q E => Bx (sq_is_between ws S Q E)
def sq_is_map : Sp3 := fun ws S Q _ => ∃ d, ws = [.d d] ∧ d.canLay0 = true ∧ Q (.bl (isMap d)) S
def sp_is_map : Sp3 := fun ws S Q E => Bx (sq_is_map ws S Q E)
def sq_is_turning : Sp3 := fun ws S Q _ => ∃ ns : List Int, ws = [.tup (ns.map PyData.int)] ∧ ns.length ≤ 1000 ∧ ∀ L : List Int, L.Nodup → (∀ k, k ∈ L ↔ k ∈ ns) → Q (.bl (decide (L.length = ns.length))) S
def sp_is_turning : Sp3 := fun ws S Q E => Bx (sq_is_turning ws S Q E)
def sq_is_setting : Sp3 := fun ws S Q _ => ∃ ns : List Int, ws = [.tup (ns.map PyData.int)] ∧ ns.length ≤ 1000 ∧ ∀ L : List Int, L.Nodup → (∀ k, k ∈ L ↔ k ∈ ns) → Q (.bl (decide (L.length = 1))) S
def sp_is_setting : Sp3 := fun ws S Q E => Bx (sq_is_setting ws S Q E)
def sq_still : Sp3 := fun ws S Q _ => ∃ n : Int, ws = [.int n] ∧ 0 ≤ n ∧ n ≤ 1000 ∧ Q (.tup (rgD 0 n)) S
def sp_still : Sp3 := fun ws S Q E => Bx (sq_still ws S Q E)
theorem len_is_int : ∀ ws S Q E, sp_is_int ws S Q E → ws.length = 1 := fun ws S Q E ⟨d, e, _⟩ => by rw [e]; rfl
theorem len_is_between : ∀ ws S Q E, sp_is_between ws S Q E → ws.length = 3 := fun ws S Q E ⟨d, _, _, e, _⟩ => by rw [e]; rfl
theorem len_is_map : ∀ ws S Q E, sp_is_map ws S Q E → ws.length = 1 := fun ws S Q E ⟨d, e, _⟩ => by rw [e]; rfl
theorem len_is_turning : ∀ ws S Q E, sp_is_turning ws S Q E → ws.length = 1 := fun ws S Q E ⟨d, e, _⟩ => by rw [e]; rfl
theorem len_is_setting : ∀ ws S Q E, sp_is_setting ws S Q E → ws.length = 1 := fun ws S Q E ⟨d, e, _⟩ => by rw [e]; rfl
theorem len_still : ∀ ws S Q E, sp_still ws S Q E → ws.length = 1 := fun ws S Q E ⟨d, e, _⟩ => by rw [e]; rfl
def rd_is_int : TS3 := (tRet3 (tAndV3 (tCB3 gIsi (tCons3 (tVar3 0) (tCons3 (tC3 (.ty "int")) tNil3))) (tNotV3 (tCB3 gIsi (tCons3 (tVar3 0) (tCons3 (tC3 (.ty "bool")) tNil3))))))
theorem isi_int {d : PyData} (h : flatD d = true) : ∃ b, isiB d "int" = some b ∧ (b = false → isI d = false) ∧ (b = true → ∃ c, isiB d "bool" = some c ∧ isI d = !c) := by
  cases d with
  | none => exact ⟨false, show kitB "NoneType" "int" = _ by decide +kernel, fun _ => rfl, fun h => (nomatch h)⟩
  | bool b => exact ⟨true, show kitB "bool" "int" = _ by decide +kernel, fun h => (nomatch h), fun _ => ⟨true, show kitB "bool" "bool" = _ by decide +kernel, rfl⟩⟩
  | int i => exact ⟨true, show kitB "int" "int" = _ by decide +kernel, fun h => (nomatch h), fun _ => ⟨false, show kitB "int" "bool" = _ by decide +kernel, rfl⟩⟩
  | str x => exact ⟨false, show kitB "str" "int" = _ by decide +kernel, fun _ => rfl, fun h => (nomatch h)⟩
  | list l => exact ⟨false, show kitB "list" "int" = _ by decide +kernel, fun _ => rfl, fun h => (nomatch h)⟩
  | tuple l => exact ⟨false, show kitB "tuple" "int" = _ by decide +kernel, fun _ => rfl, fun h => (nomatch h)⟩
  | dict l => cases h
theorem sem_is_int : ∀ ws S Q E, sp_is_int ws S Q E → rd_is_int (DQ Q) (start3 1 ws E) S := fun ws S Q E ⟨d, e, hd, q⟩ => by
  subst e
  obtain ⟨b, hb, h0, h1⟩ := isi_int hd
  refine ⟨_, rfl, _, d, _, b, rfl, rfl, hb, b, rfl, fun e => ?_, fun e => ⟨_, Sub.refl _, by rw [← h0 e]; exact q⟩⟩
  obtain ⟨c, hc, e2⟩ := h1 e
  exact ⟨_, rfl, _, d, _, c, rfl, rfl, hc, c, rfl, _, Sub.refl _, by rw [← e2]; exact q⟩
def rd_is_between : TS3 := (tRet3 (tAndV3 (tCall3 sp_is_int (tCons3 (tVar3 0) tNil3)) (tChain3 gLe gLe (tVar3 1) (tVar3 0) (tVar3 2))))
theorem btw_of {d : PyData} {lo hi : Int} : isI d = false → btw d lo hi = false := fun h => by
  cases d <;> first | rfl | cases h
theorem sem_is_between : ∀ ws S Q E, sp_is_between ws S Q E → rd_is_between (DQ Q) (start3 3 ws E) S := fun ws S Q E ⟨d, lo, hi, e, hd, q⟩ => by
  subst e
  refine ⟨_, rfl, d, rfl, hd, isI d, rfl, fun e => ?_, fun e => ⟨_, Sub.refl _, by rw [← btw_of e]; exact q⟩⟩
  cases d with
  | int i =>
    refine ⟨_, rfl, _, rfl, _, _, rfl, rfl, _, rfl, fun h => ?_, fun h => ⟨_, Sub.refl _, ?_⟩⟩
    · refine ⟨_, rfl, _, _, rfl, rfl, _, Sub.refl _, ?_⟩
      have e : btw (.int i) lo hi = decide (i ≤ hi) := by show (decide (lo ≤ i) && decide (i ≤ hi)) = _; rw [h]; rfl
      show Q (.bl (decide (i ≤ hi))) S
      rw [← e]; exact q
    · have e : btw (.int i) lo hi = false := by show (decide (lo ≤ i) && decide (i ≤ hi)) = _; rw [h]; rfl
      rw [← e]; exact q
  | _ => cases e
def rd_is_map : TS3 := (tSeq3 (tIf3 (tOr3 (tNot3 (tB3 (tCB3 gIsi (tCons3 (tVar3 0) (tCons3 (tC3 (.ty "tuple")) tNil3))))) (tNot3 (tB3 (tChain3 gLe gLe (tC3 (.int 1)) (tCB3 gLen (tCons3 (tVar3 0) tNil3)) (tC3 (.int 12)))))) (tRet3 (tC3 (.bl false))) tNext3) (tRet3 (tCB3 gAll (tCons3 (tLcD3 (tSeqI3 (tVar3 0)) (gName3 1) tYes3 (tCall3 sp_is_between (tCons3 (tVar3 1) (tCons3 (tC3 (.int 0)) (tCons3 (tOp3 gSub (tCB3 gLen (tCons3 (tVar3 0) tNil3)) (tC3 (.int 1))) tNil3)))) [1]) tNil3))))
theorem canLayAll_mem : ∀ {ds : List PyData}, PyData.canLayAll0 ds = true → ∀ d ∈ ds, d.canLay0 = true
  | [], _, d, hd => by cases hd
  | x :: ds, h, d, hd => by
    have h : (x.canLay0 && PyData.canLayAll0 ds) = true := h
    rw [Bool.and_eq_true] at h
    rcases List.mem_cons.mp hd with e | e
    · rw [e]; exact h.1
    · exact canLayAll_mem h.2 d e
theorem flat_of {d : PyData} (h : d.canLay0 = true) : flatD d = true := by
  cases d <;> first | rfl | exact (nomatch h)
theorem isi_tup {d : PyData} (h : d.canLay0 = true) : ∃ b, isiB d "tuple" = some b ∧ (b = true → ∃ ds, d = .tuple ds) ∧ (b = false → ∀ ds, d ≠ .tuple ds) := by
  cases d with
  | none => exact ⟨false, show kitB "NoneType" "tuple" = _ by decide +kernel, fun h => (nomatch h), fun _ _ h => (nomatch h)⟩
  | bool b => exact ⟨false, show kitB "bool" "tuple" = _ by decide +kernel, fun h => (nomatch h), fun _ _ h => (nomatch h)⟩
  | int i => exact ⟨false, show kitB "int" "tuple" = _ by decide +kernel, fun h => (nomatch h), fun _ _ h => (nomatch h)⟩
  | str x => exact ⟨false, show kitB "str" "tuple" = _ by decide +kernel, fun h => (nomatch h), fun _ _ h => (nomatch h)⟩
  | list l => exact ⟨false, show kitB "list" "tuple" = _ by decide +kernel, fun h => (nomatch h), fun _ _ h => (nomatch h)⟩
  | tuple l => exact ⟨true, show kitB "tuple" "tuple" = _ by decide +kernel, fun _ => ⟨l, rfl⟩, fun h => (nomatch h)⟩
  | dict l => exact (nomatch h)
theorem isMap_no {d : PyData} (h : ∀ ds, d ≠ .tuple ds) : isMap d = false := by
  cases d <;> first | rfl | exact absurd rfl (h _)
theorem sem_is_map : ∀ ws S Q E, sp_is_map ws S Q E → rd_is_map (DQ Q) (start3 2 ws E) S := fun ws S Q E ⟨d, e, hd, q⟩ => by
  subst e
  obtain ⟨b, hb, h1, h0⟩ := isi_tup hd
  refine ⟨_, rfl, _, d, _, b, rfl, rfl, hb, _, rfl, fun e => ?_, fun e => ?_⟩
  · refine ⟨fun _ => ⟨_, Sub.refl _, ?_⟩, fun h => (nomatch h)⟩
    rw [← isMap_no (h0 (by simpa using e))]; exact q
  · obtain ⟨ds, rfl⟩ := h1 (by simpa using e)
    have hl : lenW S (.tup ds) = some ds.length := by show some (ds.map W.d).length = _; rw [List.length_map]
    refine ⟨_, rfl, _, _, rfl, hl, _, _, rfl, rfl, _, rfl, fun c => ?_, fun c => ?_⟩
    · refine ⟨_, _, rfl, rfl, _, rfl, ?_⟩
      refine ⟨fun c2 => ⟨_, Sub.refl _, ?_⟩, fun c2 => ?_⟩
      · have e : isMap (.tuple ds) = false := by
          have : ¬ ds.length ≤ 12 := by intro h; simp at c2; omega
          show (decide (1 ≤ ds.length) && decide (ds.length ≤ 12) && _) = false
          rw [decide_eq_false this, Bool.and_false, Bool.false_and]
        rw [← e]; exact q
      · have hl2 : ds.length ≤ 12 := by simp at c2; omega
        have hl1 : 1 ≤ ds.length := by simp at c; omega
        refine ⟨_, rfl, ds, .inr rfl, by rw [List.length_map]; omega, ?_⟩
        refine lcGo_map (fun w => match w with | .d x => .bl (btw x 0 (ds.length - 1)) | w => w) ?_ ?_
        · intro w hw A a
          obtain ⟨x, hx, rfl⟩ := List.mem_map.mp hw
          exact ⟨_, rfl, _, rfl, _, _, rfl, hl, _, _, rfl, rfl, x, _, _, rfl, flat_of (canLayAll_mem hd x hx), a⟩
        · refine ⟨(ds.map fun x => btw x 0 (ds.length - 1)).map PyData.bool, by rw [List.nil_append, List.map_map, List.map_map, List.map_map]; rfl, _, rfl, _, Sub.refl _, ?_⟩
          have e : isMap (.tuple ds) = (ds.map fun x => btw x 0 (ds.length - 1)).all id := by
            show (decide (1 ≤ ds.length) && decide (ds.length ≤ 12) && _) = _
            rw [decide_eq_true hl1, decide_eq_true hl2, Bool.true_and, Bool.true_and, List.all_map]; rfl
          rw [← e]; exact q
    · refine ⟨_, rfl, fun _ => ⟨_, Sub.refl _, ?_⟩, fun c2 => (nomatch c2)⟩
      have e : isMap (.tuple ds) = false := by
        have : ¬ 1 ≤ ds.length := by intro h; simp at c; omega
        show (decide (1 ≤ ds.length) && decide (ds.length ≤ 12) && _) = false
        rw [decide_eq_false this, Bool.false_and, Bool.false_and]
      rw [← e]; exact q
def rd_is_turning : TS3 := (tRet3 (tOp3 gEq (tLenSet3 (tVar3 0)) (tCB3 gLen (tCons3 (tVar3 0) tNil3))))
theorem lenW_tupI {S : Sto} {ns : List Int} : lenW S (.tup (ns.map PyData.int)) = some ns.length := by show some ((ns.map PyData.int).map W.d).length = _; rw [List.length_map, List.length_map]
theorem lenW_lstI {S : Sto} {ns : List Int} : lenW S (.lst (ns.map PyData.int)) = some ns.length := by show some ((ns.map PyData.int).map W.d).length = _; rw [List.length_map, List.length_map]
theorem sem_is_turning : ∀ ws S Q E, sp_is_turning ws S Q E → rd_is_turning (DQ Q) (start3 1 ws E) S := fun ws S Q E ⟨ns, e, hl, q⟩ => by
  subst e
  refine ⟨_, rfl, ns, rfl, hl, fun L nd mem => ⟨_, rfl, _, _, rfl, lenW_tupI, .inr ⟨_, _, rfl, rfl, rfl, rfl, _, Sub.refl _, ?_⟩⟩⟩
  have e : PyData.eqv (.int L.length) (.int ns.length) = decide (L.length = ns.length) := by rw [eqv_int]; exact decide_eq_decide.mpr (by omega)
  rw [e]
  exact q L nd mem
def rd_is_setting : TS3 := (tRet3 (tOp3 gEq (tLenSet3 (tVar3 0)) (tC3 (.int 1))))
theorem sem_is_setting : ∀ ws S Q E, sp_is_setting ws S Q E → rd_is_setting (DQ Q) (start3 1 ws E) S := fun ws S Q E ⟨ns, e, hl, q⟩ => by
  subst e
  refine ⟨_, rfl, ns, rfl, hl, fun L nd mem => .inr ⟨_, _, rfl, rfl, rfl, rfl, _, Sub.refl _, ?_⟩⟩
  have e : PyData.eqv (.int L.length) (.int 1) = decide (L.length = 1) := by rw [eqv_int]; exact decide_eq_decide.mpr (by omega)
  rw [e]
  exact q L nd mem
def rd_still : TS3 := (tRet3 (tTupRg3 (tRg13 (tVar3 0))))
theorem sem_still : ∀ ws S Q E, sp_still ws S Q E → rd_still (DQ Q) (start3 1 ws E) S := fun ws S Q E ⟨n, e, h0, h1, q⟩ => by
  subst e
  exact ⟨_, rfl, n, rfl, RgOk.of_le (by decide) (by omega) (by decide) h0, _, Sub.refl _, q⟩

end H3

namespace H3
open PySem PySem.Spec L2
open PyProof.Rows hiding St

/-! ### tuple.index; lists joined, repeated, cut, sorted -/
section
variable {X : Cx} {Ex : WX} {o e : Expr} {es : List Expr} {to : TE3} {t : TA3} {name : Str} {apos cpos : Pos} {id : String} {r3 : RM3} {r : V → List V → Hp → VK → Prop}
def tTM3 (r : RM3) (to : TE3) (t : TA3) : TE3 := fun τ S Q => to τ S fun w S1 => (∃ ds, w = .tup ds) ∧ t τ S1 fun ws S2 => r w ws S2 Q
theorem pe3_tm (slot : Slot "tuple" name id) (hty : typeOf (.builtin id) = pure (.type "method_descriptor")) (hm : MtR X id r) (l : MtL X.K r3 r) (ho : PE X o (LE X.K Ex to)) (ha : PA X (e :: es) (LA X.K Ex t))
    (mc : MCall X o name apos cpos e es := by exact ⟨rfl, rfl, rfl, rfl, rfl⟩) :
    PE X (.Call (.Attribute o name apos) (e :: es) [] cpos) (LE X.K Ex (tTM3 r3 to t)) :=
  pe_imp (pe_tm slot hty hm ho ha mc) fun σ H Q ⟨F, S, τ, Q3, R, Ev, h, k⟩ => ⟨F, S, τ, _, R, Ev, h, fun F1 S1 H1 w x s1 R1 r1 ⟨⟨ds, hl⟩, h1⟩ => by
    subst hl
    have r1' := r1
    cases (show Dp X.K F1.f x (.tuple ds) from r1) with
    | tup ht ha2 =>
      exact ⟨⟨_, _, rfl, ht.mono R1.same⟩, F1, S1, τ, _, R1, Ev.mono s1, h1, fun F2 S2 H2 ws vs s2 R2 r2 h2 => l F2 S2 H2 _ ws _ vs Q3 Q R2 (r1'.mono s2) r2 h2 (k.mono (s1.trans s2))⟩⟩
def gTIx : RM3 := fun w ws S Q => ∃ (ns : List Int) (k : Int), w = .tup (ns.map PyData.int) ∧ ws = [.int k] ∧ k ∈ ns ∧ Q (.int (ns.idxOf k : Nat)) S
theorem l_tix {K : PySem.W.Frag} : MtL K gTIx (fun x xs H Q => ∃ (p : Addr) (ns : List Int) (k : Int), x = .ref p ∧ xs = [.int k] ∧ SqT K H p (ns.map V.int) ∧ k ∈ ns ∧ Q (.int (ns.idxOf k : Nat)) H) := fun F S H w ws x vs Q3 Q R rw rs ⟨ns, k, e1, e2, hk, q⟩ kk => by
  subst e1 e2
  obtain ⟨v, rfl, rv⟩ := ws1 rs
  obtain ⟨_, a, us, rfl, hs, ha⟩ := tup_rep R rw rfl
  have e3 := ints_of ha
  subst e3
  exact ⟨a, ns, k, rfl, by rw [rep_int rv], hs, hk, kk F S H _ _ (Sm.refl F) R mk_int q⟩
end
section
variable {K : PySem.W.Frag}
theorem rep_flat {F : Fz} {ws : List W} {vs : List V} (h : RepWs K F ws vs) : ∀ n, RepWs K F (List.replicate n ws).flatten (List.replicate n vs).flatten
  | 0 => .nil
  | n + 1 => by
    simp only [List.replicate_succ, List.flatten_cons]
    exact rep_app h (rep_flat h n)
/-- xs * n, to be changed -/
def gRepM : R3 := fun w u S Q => ∃ a k ws, w = .r a ∧ u = .int k ∧ S a = some (.lst ws) ∧ -(2 ^ 63) ≤ k ∧ k < 2 ^ 63 ∧ ws.length * k.toNat ≤ sizeLine ∧ ∀ p, S p = none → Q (.r p) (put S p (.lst (List.replicate k.toNat ws).flatten))
theorem l_repM : OpL K gRepM rRep := fun F S H w u x y Q3 Q R rw ru ⟨a, n, ws, e1, e2, h, h1, h2, hz, q⟩ k => by
  subst e1 e2
  obtain ⟨xs, hx, rx⟩ := rd_lst R h
  exact ⟨a, n, xs, rw, rep_int ru, hx, h1, h2, by rw [← Paired.length rx]; exact hz, fun p hp => k _ _ _ (.r p) _ (Sm.refl F) (newMut R hp (rep_flat rx _)) (show V.ref p = V.ref p from rfl) (q p (R.freeS hp))⟩
/-- xs + ys, to be changed -/
def gCatM : R3 := fun w u S Q => ∃ a b ws us, w = .r a ∧ u = .r b ∧ S a = some (.lst ws) ∧ S b = some (.lst us) ∧ ws.length + us.length ≤ sizeLine ∧ ∀ p, S p = none → Q (.r p) (put S p (.lst (ws ++ us)))
theorem l_catM : OpL K gCatM rCat := fun F S H w u x y Q3 Q R rw ru ⟨a, b, ws, us, e1, e2, h, h2, hz, q⟩ k => by
  subst e1 e2
  obtain ⟨xs, hx, rx⟩ := rd_lst R h
  obtain ⟨ys, hy, ry⟩ := rd_lst R h2
  exact ⟨a, b, xs, ys, rw, ru, hx, hy, by rw [← Paired.length rx, ← Paired.length ry]; exact hz, fun p hp => k _ _ _ (.r p) _ (Sm.refl F) (newMut R hp (rep_app rx ry)) (show V.ref p = V.ref p from rfl) (q p (R.freeS hp))⟩
theorem rep_take {F : Fz} : ∀ {ws : List W} {vs : List V} (n : Nat), RepWs K F ws vs → RepWs K F (ws.take n) (vs.take n)
  | _, _, 0, _ => by simp; exact .nil
  | _, _, n + 1, .nil => by simp; exact .nil
  | _, _, n + 1, .cons a t => .cons a (rep_take n t)
theorem rep_drop {F : Fz} : ∀ {ws : List W} {vs : List V} (n : Nat), RepWs K F ws vs → RepWs K F (ws.drop n) (vs.drop n)
  | _, _, 0, h => by simpa using h
  | _, _, n + 1, .nil => by simp; exact .nil
  | _, _, n + 1, .cons a t => rep_drop n t
theorem rep_cut {F : Fz} {ws : List W} {vs : List V} (h : RepWs K F ws vs) (lo hi : Option Int) : RepWs K F (cutG ws lo hi) (cutV vs lo hi) := by
  unfold cutG cutV
  rw [Paired.length h]
  exact rep_take _ (rep_drop _ h)
/-- a list's slice, to be changed -/
def gSlM : W → Option Int → Option Int → Sto → K3 → Prop := fun w lo hi S Q => ∃ ds, viewW S w = some (.list ds) ∧ ∀ p, S p = none → Q (.r p) (put S p (.lst ((cutG ds lo hi).map W.d)))
theorem l_slM : SlL K gSlM (rSlL K) := fun F S H w x lo hi Q3 Q R rw ⟨ds, hd, q⟩ k => by
  obtain ⟨a, vs, rfl, hs, ha, _⟩ := list_rep R rw hd
  exact ⟨a, vs, rfl, hs, fun p hp => k _ _ _ (.r p) _ (Sm.refl F) (newMut R hp (repWs_of_all (dpAll_cut ha lo hi))) (show V.ref p = V.ref p from rfl) (q p (R.freeS hp))⟩
end

section
variable {X : Cx} {K : PySem.W.Frag}
/-- a list's or a tuple's slice, to stay -/
def rSlB (K : PySem.W.Frag) : V → Option Int → Option Int → Hp → VK → Prop := fun x lo hi H Q => rSlN K x lo hi H Q ∨ rSlL K x lo hi H Q
theorem sl_both : SlR X (rSlB X.K) := fun pins s σ H x v vl vu lo hi sl Q I rx hs pl pu h => h.elim (sl_tupN pins s σ H x v vl vu lo hi sl Q I rx hs pl pu) (sl_list pins s σ H x v vl vu lo hi sl Q I rx hs pl pu)
def gSlB : W → Option Int → Option Int → Sto → K3 → Prop := fun w lo hi S Q => gSlT w lo hi S Q ∨ gSlL w lo hi S Q
theorem l_slB : SlL K gSlB (rSlB K) := fun F S H w x lo hi Q3 Q R rw h k => h.imp (fun h => l_slT F S H w x lo hi Q3 Q R rw h k) (fun h => l_slL F S H w x lo hi Q3 Q R rw h k)
end
/-! ### sorted(xs) of data that are alike -/
/-- what stands where in the sorted list stood somewhere before -/
def rSortD (K : PySem.W.Frag) : List V → Hp → VK → Prop := fun vs H Q => ∃ (a : Addr) (xs : List V) (ds : List PyData), vs = [V.ref a] ∧ SqL K H a xs ∧ L2.DpAll K H xs ds ∧ PySem.W.AllAlike ds ∧ PySem.W.Sortable ds ∧ ds.length ≤ sizeLine ∧ (∀ d ∈ ds, d.depth ≤ 60) ∧
  ∀ (ys : List V) (p : Addr), Paired (fun y d => (y, d) ∈ xs.zip ds) ys (ds.mergeSort (PySem.W.dataLe false id)) → H p = none → Q (.ref p) (upd H p (.lst ys))
theorem each_reads {X : Cx} {pins : List (Addr × Obj)} {σ : L2.St} {H : Hp} {s : Shared} (I : Inv X pins σ H s) : ∀ {xs : List V} {us : List Value} {ds : List PyData}, L2.DpAll X.K H xs ds → Vals xs us → PySem.W.EachIs (fun v d => ∃ as, Reads s.heap v d as) us ds
  | _, _, _, .nil, .nil => .nil
  | _, _, _, .cons h t, .cons r rs => .cons (L2.Dp.reads I _ _ _ h r) (each_reads I t rs)
theorem each_pair {K : PySem.W.Frag} {H : Hp} {P : V → PyData → Prop} : ∀ {xs : List V} {us : List Value} {ds : List PyData}, (∀ p ∈ xs.zip ds, P p.1 p.2) → L2.DpAll K H xs ds → Vals xs us → PySem.W.EachIs (fun v d => ∃ x, RelV x v ∧ P x d) us ds
  | _, _, _, _, .nil, .nil => .nil
  | _, _, _, h, .cons _ t, .cons r rs => .cons ⟨_, r, h (_, _) List.mem_cons_self⟩ (each_pair (fun p hp => h p (List.mem_cons_of_mem _ hp)) t rs)
theorem each_out {P : V → PyData → Prop} : ∀ {us : List Value} {ds : List PyData}, PySem.W.EachIs (fun v d => ∃ x, RelV x v ∧ P x d) us ds → ∃ ys, Vals ys us ∧ Paired P ys ds
  | _, _, .nil => ⟨[], .nil, .nil⟩
  | _, _, .cons ⟨x, r, h⟩ t => by
    obtain ⟨ys, r2, h2⟩ := each_out t
    exact ⟨x :: ys, .cons r r2, .cons h h2⟩
theorem dpAllL_len {K : PySem.W.Frag} {H : Hp} : ∀ {vs : List V} {ds : List PyData}, L2.DpAll K H vs ds → vs.length = ds.length
  | _, _, .nil => rfl
  | _, _, .cons _ t => congrArg Nat.succ (dpAllL_len t)
theorem cr_sortD {X : Cx} (hu : X.A.units + 70 < cLine) : CallR X (.builtin "sorted") (rSortD X.K) := by
  rintro pins s σ H _ us Q I rr ⟨a, xs, ds, rfl, hs, hd, al, so, hz, dp, q⟩
  obtain ⟨its, rv, pl, _⟩ := I.list hs
  rw [Vals.ref1 rr]
  have hlen := dpAllL_len hd
  have e1 := each_pair (P := fun y d => (y, d) ∈ xs.zip ds) (fun p hp => hp) hd rv
  refine PySem.W.sorted_data (enc := id) (bs := ds) (vs := its) pl.isList e1 (each_reads I hd rv) (by rw [List.map_id]; exact al) (by rw [List.map_id]; exact so) hz (fun d hd => ?_) fun out ho hO => ?_
  · have := dp d hd
    show X.A.units + 2 + d.depth < cLine
    omega
  · obtain ⟨ys, r2, h2⟩ := each_out hO
    obtain ⟨ep, at'⟩ := PyProof.Rows.sortedAll_at s.heap its (List.toArray out)
    have hyl : ys.length ≤ sizeLine := by rw [r2.length, ho]; exact hz
    exact ⟨.ref _, _, I.laid (t' := s.toks) (o := .lst ys) (fun _ _ => PyProof.Rows.sortedAll_old) (Nat.le_succ _) ⟨hyl, out, ep, r2, at'⟩, rfl, q ys _ h2 (I.hok.fresh (Nat.le_succ _))⟩
def gSorted : RC3 := fun ws S Q => ∃ w ds, ws = [w] ∧ viewW S w = some (.list ds) ∧ PySem.W.AllAlike ds ∧ PySem.W.Sortable ds ∧ ds.length ≤ sizeLine ∧ (∀ d ∈ ds, d.depth ≤ 60) ∧ Q (.lst (ds.mergeSort (PySem.W.dataLe false id))) S
theorem dpAll_zip {K : PySem.W.Frag} {F : Hp} : ∀ {xs : List V} {ds : List PyData}, DpAll K F xs ds → ∀ p ∈ xs.zip ds, Dp K F p.1 p.2
  | _, _, .nil, p, h => by cases h
  | _, _, .cons a t, p, h => by
    cases List.mem_cons.mp h with
    | inl e => rw [e]; exact a
    | inr e => exact dpAll_zip t p e
theorem dpAll_paired {K : PySem.W.Frag} {F : Hp} {P : V → PyData → Prop} (h : ∀ v d, P v d → Dp K F v d) : ∀ {ys : List V} {ds : List PyData}, Paired P ys ds → DpAll K F ys ds
  | _, _, .nil => .nil
  | _, _, .cons a t => .cons (h _ _ a) (dpAll_paired h t)
theorem l_sorted {K : PySem.W.Frag} : CallL K gSorted (rSortD K) := fun F S H ws vs Q3 Q R r ⟨w, ds, e, hd, al, so, hz, dp, q⟩ k => by
  subst e
  obtain ⟨v, rfl, rv⟩ := ws1 r
  obtain ⟨a, us, rfl, hs, ha, _⟩ := list_rep R rv hd
  refine ⟨a, us, ds, rfl, hs, (dpAll_mono R.same ha).q, al, so, hz, dp, fun ys p hy hp => ?_⟩
  obtain ⟨s, R', rw'⟩ := newLst R hp (dpAll_paired (fun v d hm => dpAll_zip ha (v, d) hm) hy)
  exact k _ S _ _ _ s R' rw' q

/-! ### what stays in a store -/
/-- all that was there is there still, but at these places -/
def Kp (as : List Addr) (S S' : Sto) : Prop := ∀ b o, b ∉ as → S b = some o → S' b = some o
theorem Kp.refl {as : List Addr} {S : Sto} : Kp as S S := fun _ _ _ h => h
theorem Kp.trans {as : List Addr} {S S1 S2 : Sto} (a : Kp as S S1) (b : Kp as S1 S2) : Kp as S S2 := fun c o hc h => b c o hc (a c o hc h)
theorem Kp.more {as bs : List Addr} {S S1 : Sto} (a : Kp as S S1) (h : ∀ x ∈ as, x ∈ bs) : Kp bs S S1 := fun c o hc e => a c o (fun q => hc (h c q)) e
theorem Kp.put {as : List Addr} {S S1 : Sto} {p : Addr} {o : SO} (u : Kp as S S1) (h : p ∈ as) : Kp as S (H3.put S1 p o) := fun c v hc e => by
  rw [put_ne (fun q => hc (by rw [q]; exact h))]
  exact u c v hc e
theorem Kp.new {as : List Addr} {S S1 : Sto} {p : Addr} {o : SO} (u : Kp as S S1) (h : S1 p = none) : Kp as S (H3.put S1 p o) := fun c v hc e => by
  have e1 := u c v hc e
  rw [put_ne (fun q => by subst q; rw [h] at e1; cases e1)]
  exact e1
theorem Kp.wr {as : List Addr} {S S1 : Sto} {p : Addr} {o : SO} (u : Kp as S S1) (h : S p = none) : Kp as S (H3.put S1 p o) := fun c v hc e => by
  rw [put_ne (fun q => by subst q; rw [h] at e; cases e)]
  exact u c v hc e
theorem Kp.drp {as : List Addr} {S S1 : Sto} {p : Addr} (u : Kp as S S1) (h : S p = none) : Kp as S (H3.drp S1 p) := fun c v hc e => by
  rw [drp_ne (fun q => by subst q; rw [h] at e; cases e)]
  exact u c v hc e
theorem Upto.kp {as : List Addr} {S S1 : Sto} (u : Upto as S S1) : Kp as S S1 := fun c o hc e => by rw [u c hc]; exact e
theorem Kp.sub {S S1 : Sto} (u : Kp [] S S1) : Sub S S1 := fun c o e => u c o (by simp) e
/-- fresh later is fresh before -/
theorem Kp.none {as : List Addr} {S S1 : Sto} {p : Addr} (u : Kp as S S1) (h : S1 p = Option.none) (hp : p ∉ as) : S p = Option.none := by
  cases e : S p with
  | none => rfl
  | some o => rw [u p o hp e] at h; cases h
/-- of what a def leaves, only a deal's two places -/
def two (dl d1 : Addr) (S S' : Sto) : Sto := fun b => if b = dl ∨ b = d1 then S' b else S b
theorem two_sub {dl d1 : Addr} {S S' : Sto} (u : Kp [dl, d1] S S') : Sub (two dl d1 S S') S' := fun b o e => by
  unfold two at e
  split at e
  · exact e
  · rename_i h
    exact u b o (by simpa using h) e
theorem two_upto {dl d1 : Addr} {S S' : Sto} : Upto [dl, d1] S (two dl d1 S S') := fun b hb => if_neg (by simpa using hb)
theorem two_deal {dl d1 : Addr} {S S' : Sto} (h : Deal S' dl d1) : Deal (two dl d1 S S') dl d1 := h.up' fun b e => if_pos e
end H3

namespace H3
open PySem PySem.Spec L2
open PyProof.Rows hiding St

/-! ### turnings: plain law -/
def PmP (n : Nat) (a : List Nat) : Prop := a.length = n ∧ a.Nodup ∧ ∀ x ∈ a, x < n
instance {n : Nat} {a : List Nat} : Decidable (PmP n a) := by unfold PmP; infer_instance
def jn (a b : List Nat) : List Nat := a.map fun i => b.getD i 0
def iv (a : List Nat) : List Nat := (List.range a.length).map fun k => a.idxOf k
def cm (a b : List Nat) : List Nat := jn (jn a b) (jn (iv a) (iv b))
def cj (a b : List Nat) : List Nat := jn (jn (iv b) a) b
theorem nodup_map_on {α β : Type} (f : α → β) : ∀ {l : List α}, (∀ x ∈ l, ∀ y ∈ l, f x = f y → x = y) → l.Nodup → (l.map f).Nodup
  | [], _, _ => List.nodup_nil
  | x :: l, h, hn => by
    have ⟨h1, h2⟩ := List.nodup_cons.mp hn
    refine List.nodup_cons.mpr ⟨fun hm => ?_, nodup_map_on f (fun a ha b hb => h a (List.mem_cons_of_mem _ ha) b (List.mem_cons_of_mem _ hb)) h2⟩
    obtain ⟨y, hy, e⟩ := List.mem_map.mp hm
    have := h y (List.mem_cons_of_mem _ hy) x List.mem_cons_self e
    subst this
    exact h1 hy
theorem getD_lt {b : List Nat} {i : Nat} (h : i < b.length) : b.getD i 0 = b[i] := by rw [List.getD_eq_getElem?_getD, List.getElem?_eq_getElem h]; rfl
section
variable {n : Nat} {a b c : List Nat}
theorem PmP.mem (h : PmP n a) {k : Nat} (hk : k < n) : k ∈ a := by
  apply Classical.byContradiction
  intro hn
  have h1 : (k :: a).Nodup := List.nodup_cons.mpr ⟨hn, h.2.1⟩
  have h2 := h1.length_le_of_subset (l₂ := List.range n) fun x hx => by
    rw [List.mem_range]
    rcases List.mem_cons.mp hx with e | e
    · rw [e]; exact hk
    · exact h.2.2 x e
  rw [List.length_cons, List.length_range, h.1] at h2
  omega
theorem jn_ok (ha : PmP n a) (hb : PmP n b) : PmP n (jn a b) := by
  unfold jn
  refine ⟨by rw [List.length_map]; exact ha.1, nodup_map_on _ (fun x hx y hy e => ?_) ha.2.1, fun x hx => ?_⟩
  · have h1 : x < b.length := by rw [hb.1]; exact ha.2.2 x hx
    have h2 : y < b.length := by rw [hb.1]; exact ha.2.2 y hy
    rw [getD_lt h1, getD_lt h2] at e
    exact (List.getElem_inj hb.2.1).mp e
  · obtain ⟨i, hi, rfl⟩ := List.mem_map.mp hx
    have h1 : i < b.length := by rw [hb.1]; exact ha.2.2 i hi
    rw [getD_lt h1]
    exact hb.2.2 _ (List.getElem_mem h1)
theorem jn_assoc (ha : ∀ x ∈ a, x < b.length) : jn (jn a b) c = jn a (jn b c) := by
  unfold jn
  rw [List.map_map]
  refine List.map_congr_left fun i hi => ?_
  have h1 := ha i hi
  show c.getD (b.getD i 0) 0 = (b.map fun i => c.getD i 0).getD i 0
  rw [getD_lt (b := b.map fun i => c.getD i 0) (i := i) (by rw [List.length_map]; exact h1), List.getElem_map, getD_lt h1]
theorem hm_ok : PmP n (List.range n) := ⟨List.length_range, List.nodup_range, fun x hx => List.mem_range.mp hx⟩
theorem hm_jn (h : a.length = n) : jn (List.range n) a = a := by
  unfold jn
  apply List.ext_getElem
  · rw [List.length_map, List.length_range, h]
  · intro i h1 h2
    rw [List.getElem_map, List.getElem_range, getD_lt h2]
theorem jn_hm (h : ∀ x ∈ a, x < n) : jn a (List.range n) = a := by
  have e : ∀ i ∈ a, (List.range n).getD i 0 = id i := fun i hi => by
    have h1 := h i hi
    rw [getD_lt (by rw [List.length_range]; exact h1), List.getElem_range]; rfl
  unfold jn
  rw [List.map_congr_left e, List.map_id]
theorem iv_ok (h : PmP n a) : PmP n (iv a) := by
  unfold iv
  rw [h.1]
  refine ⟨by rw [List.length_map, List.length_range], nodup_map_on _ (fun x hx y hy e => ?_) List.nodup_range, fun x hx => ?_⟩
  · have h1 := h.mem (List.mem_range.mp hx)
    have h2 := h.mem (List.mem_range.mp hy)
    have e1 := List.getElem_idxOf (List.idxOf_lt_length_of_mem h1)
    have e2 := List.getElem_idxOf (List.idxOf_lt_length_of_mem h2)
    rw [← e1, ← e2]
    congr 1
  · obtain ⟨k, hk, rfl⟩ := List.mem_map.mp hx
    have := List.idxOf_lt_length_of_mem (h.mem (List.mem_range.mp hk))
    rw [h.1] at this
    exact this
theorem iv_getD {k : Nat} (hk : k < a.length) : (iv a).getD k 0 = a.idxOf k := by
  unfold iv
  rw [getD_lt (by rw [List.length_map, List.length_range]; exact hk), List.getElem_map, List.getElem_range]
theorem jn_iv (h : PmP n a) : jn a (iv a) = List.range n := by
  unfold jn
  apply List.ext_getElem
  · rw [List.length_map, List.length_range, h.1]
  · intro i h1 h2
    have hi : i < a.length := by rw [h.1]; simpa using h2
    rw [List.getElem_map, List.getElem_range]
    rw [iv_getD (Nat.lt_of_lt_of_eq (h.2.2 _ (List.getElem_mem hi)) h.1.symm)]
    exact h.2.1.idxOf_getElem i hi
theorem iv_jn (h : PmP n a) : jn (iv a) a = List.range n := by
  unfold jn iv
  rw [List.map_map, h.1]
  have e : ∀ k ∈ List.range n, ((fun i => a.getD i 0) ∘ fun k => a.idxOf k) k = id k := fun k hk => by
    have h1 := List.idxOf_lt_length_of_mem (h.mem (List.mem_range.mp hk))
    show a.getD (a.idxOf k) 0 = k
    rw [getD_lt h1, List.getElem_idxOf h1]
  rw [List.map_congr_left e, List.map_id]
end
/-- turnings of n states, as a group -/
def Pm (n : Nat) := { a : List Nat // PmP n a }
section
variable {n : Nat}
instance : Mul (Pm n) := ⟨fun a b => ⟨jn a.1 b.1, jn_ok a.2 b.2⟩⟩
instance : Inv (Pm n) := ⟨fun a => ⟨iv a.1, iv_ok a.2⟩⟩
instance : One (Pm n) := ⟨⟨List.range n, hm_ok⟩⟩
theorem pm_assoc (a b c : Pm n) : a * b * c = a * (b * c) := Subtype.ext (jn_assoc fun x hx => by rw [b.2.1]; exact a.2.2.2 x hx)
theorem pm_one_mul (a : Pm n) : 1 * a = a := Subtype.ext (hm_jn a.2.1)
theorem pm_mul_one (a : Pm n) : a * 1 = a := Subtype.ext (jn_hm a.2.2.2)
theorem pm_inv_mul (a : Pm n) : a⁻¹ * a = 1 := Subtype.ext (iv_jn a.2)
theorem pm_mul_inv (a : Pm n) : a * a⁻¹ = 1 := Subtype.ext (jn_iv a.2)
theorem pm_ic (a b : Pm n) : a⁻¹ * (a * b) = b := by rw [← pm_assoc, pm_inv_mul, pm_one_mul]
theorem pm_ci (a b : Pm n) : a * (a⁻¹ * b) = b := by rw [← pm_assoc, pm_mul_inv, pm_one_mul]
theorem pm_inv_of {a b : Pm n} (h : a * b = 1) : a⁻¹ = b := by
  have e := pm_ic a b
  rw [h, pm_mul_one] at e
  exact e
theorem pm_inv_rev (a b : Pm n) : (a * b)⁻¹ = b⁻¹ * a⁻¹ := pm_inv_of (by rw [pm_assoc, pm_ci, pm_mul_inv])
theorem pm_inv_inv (a : Pm n) : a⁻¹⁻¹ = a := pm_inv_of (pm_inv_mul a)
theorem pm_one_inv : (1 : Pm n)⁻¹ = 1 := pm_inv_of (pm_one_mul 1)
/-- powers -/
def pw (x : Pm n) : Nat → Pm n
  | 0 => 1
  | k + 1 => x * pw x k
theorem pw_sq (x : Pm n) : ∀ k, pw (x * x) k = pw x (2 * k)
  | 0 => rfl
  | k + 1 => by
    show x * x * pw (x * x) k = x * (x * pw x (2 * k))
    rw [pw_sq x k, pm_assoc]
theorem pw_two (x : Pm n) : pw x 2 = x * x := by
  show x * (x * 1) = _
  rw [pm_mul_one]
def cmP (a b : Pm n) : Pm n := a * b * (a⁻¹ * b⁻¹)
def cjP (a b : Pm n) : Pm n := b⁻¹ * a * b
theorem cm_inv (a b : Pm n) : (cmP a b)⁻¹ = cmP b a := by simp only [cmP, pm_inv_rev, pm_inv_inv, pm_assoc]
theorem cm_one_iff (a b : Pm n) : cmP a b = 1 ↔ a * b = b * a := by
  constructor
  · intro h
    have e : a * b * (a⁻¹ * b⁻¹) * (b * a) = a * b := by rw [pm_assoc (a * b), pm_assoc a⁻¹, pm_ic, pm_inv_mul, pm_mul_one]
    rw [show a * b * (a⁻¹ * b⁻¹) = 1 from h, pm_one_mul] at e
    exact e.symm
  · intro h
    show a * b * (a⁻¹ * b⁻¹) = 1
    rw [h, pm_assoc, pm_ci, pm_mul_inv]
theorem cm_self (a : Pm n) : cmP a a = 1 := (cm_one_iff a a).mpr rfl
theorem cm_one (a : Pm n) : cmP a 1 = 1 := (cm_one_iff a 1).mpr (by rw [pm_mul_one, pm_one_mul])
theorem one_cm (a : Pm n) : cmP 1 a = 1 := (cm_one_iff 1 a).mpr (by rw [pm_mul_one, pm_one_mul])
theorem cj_mul (a b : Pm n) : b * cjP a b = a * b := by simp only [cjP, pm_assoc, pm_ci]
theorem parts_l (a b m : Pm n) : cmP (a * b) m = cjP (cmP b m) a⁻¹ * cmP a m := by simp only [cmP, cjP, pm_inv_rev, pm_inv_inv, pm_assoc, pm_ic]
theorem parts_r (a b m : Pm n) : cmP m (a * b) = cmP m a * cjP (cmP m b) a⁻¹ := by simp only [cmP, cjP, pm_inv_rev, pm_inv_inv, pm_assoc, pm_ic]
theorem cj_pw (a b : Pm n) : cjP (pw a 2) b = pw (cjP a b) 2 := by
  rw [pw_two, pw_two]
  simp only [cjP, pm_assoc, pm_ci]
/-- folds -/
def foldP (a : Pm n) (as : List (Pm n)) : Pm n := as.foldl cmP a
theorem fold_one : ∀ (as : List (Pm n)), foldP (1 : Pm n) as = 1
  | [] => rfl
  | a :: as => by
    show foldP (cmP 1 a) as = 1
    rw [one_cm]; exact fold_one as
theorem fold_home : ∀ (as : List (Pm n)) (a : Pm n), as ≠ [] → (1 : Pm n) ∈ a :: as → foldP a as = 1
  | [], _, h, _ => absurd rfl h
  | b :: as, a, _, hm => by
    show foldP (cmP a b) as = 1
    cases (List.mem_cons.mp hm : (1 : Pm n) = a ∨ _) with
    | inl e => rw [← e, one_cm]; exact fold_one as
    | inr e =>
      cases List.mem_cons.mp e with
      | inl e => rw [← e, cm_one]; exact fold_one as
      | inr e => exact fold_home as _ (fun q => by subst q; cases e) (List.mem_cons_of_mem _ e)
end
theorem rgD_zero {m : Int} : rgD 0 m = ((List.range m.toNat).map fun i => ((i : Nat) : Int)).map PyData.int := by
  unfold rgD
  rw [List.map_map, Int.sub_zero]
  apply List.map_congr_left; intro i _
  show PyData.int (0 + (i : Nat)) = PyData.int (i : Nat)
  rw [Int.zero_add]
/-! as data -/
def ci (a : List Nat) : List Int := a.map fun k : Nat => (k : Int)
def ti (a : List Nat) : PyData := .tuple ((ci a).map PyData.int)
theorem ci_inj {a b : List Nat} : ci a = ci b ↔ a = b := by
  constructor
  · intro h
    have e : (ci a).map Int.toNat = (ci b).map Int.toNat := by rw [h]
    unfold ci at e
    simp only [List.map_map] at e
    have f : (Int.toNat ∘ fun k : Nat => (k : Int)) = id := by funext k; simp
    rw [f, List.map_id, List.map_id] at e
    exact e
  · intro h; rw [h]
theorem eqvAll_ints : ∀ ns ms : List Int, PyData.eqvAll (ns.map PyData.int) (ms.map PyData.int) = decide (ns = ms)
  | [], [] => rfl
  | [], _ :: _ => rfl
  | _ :: _, [] => rfl
  | n :: ns, m :: ms => by
    show (PyData.eqv (.int n) (.int m) && PyData.eqvAll (ns.map PyData.int) (ms.map PyData.int)) = _
    rw [eqvAll_ints ns ms, eqv_int, ← Bool.decide_and]
    exact decide_eq_decide.mpr (by simp)
theorem eqv_ti {a b : List Nat} : PyData.eqv (ti a) (ti b) = decide (a = b) := by
  show PyData.eqvAll ((ci a).map PyData.int) ((ci b).map PyData.int) = _
  rw [eqvAll_ints]
  exact decide_eq_decide.mpr ci_inj
theorem shaped_ti (a : List Nat) : SeqAt.shaped (ti a) = true := shaped_intsT _
theorem lay_ti (a : List Nat) : (ti a).canLay0 = true := canLayAll_map _ (fun _ => rfl) _
theorem fine_ti {a : List Nat} {n : Nat} (h : PmP n a) (hn : n ≤ 100) : Fine 1 30000 (ti a) := by
  refine Fine.tuple (k := 0) (w := 200) (fun x hx => ?_) ?_
  · obtain ⟨i, hi, rfl⟩ := List.mem_map.mp hx
    have ⟨k, hk, ek⟩ := List.mem_map.mp hi
    subst ek
    have := h.2.2 k hk
    exact Fine.ofInt (show (k : Int).natAbs < 10 ^ 50 by omega)
  · rw [List.length_map, ci, List.length_map, h.1]; omega
theorem len_ti {S : Sto} {a : List Nat} : lenW S (.d (ti a)) = some a.length := by
  show some (((ci a).map PyData.int).map W.d).length = _
  rw [List.length_map, List.length_map, ci, List.length_map]
theorem ix_ti {S : Sto} {a : List Nat} {i : Nat} (h : i < a.length) : ixW S (i : Int) (.d (ti a)) = some (.int (a.getD i 0 : Nat)) := by
  show atI (((ci a).map PyData.int).map W.d) (i : Int) = _
  apply atI_nat
  rw [List.getElem?_map, List.getElem?_map, ci, List.getElem?_map, List.getElem?_eq_getElem h, getD_lt h]; rfl
theorem rgD_ti {n : Nat} : rgD 0 (n : Int) = (ci (List.range n)).map PyData.int := by rw [rgD_zero]; rfl
end H3

namespace H3
open PySem PySem.Spec L2
open PyProof.Rows hiding St
/-! ### the program's turnings -/
def sq_joined : Sp3 := fun ws S Q _ => ∃ a b, ws = [.d (ti a), .d (ti b)] ∧ a.length ≤ 1000 ∧ (∀ x ∈ a, x < b.length) ∧ Q (.d (ti (jn a b))) S
def sp_joined : Sp3 := fun ws S Q E => Bx (sq_joined ws S Q E)
theorem len_joined : ∀ ws S Q E, sp_joined ws S Q E → ws.length = 2 := fun ws S Q E ⟨a, b, e, _⟩ => by rw [e]; rfl
def rd_joined : TS3 := (tRet3 (tCB3 gTuple (tCons3 (tLcD3 (tSeqI3 (tVar3 0)) (gName3 2) tYes3 (tOp3 gIx (tVar3 1) (tVar3 2)) [2]) tNil3)))
theorem mw_ti (a : List Nat) : ((ci a).map PyData.int).map W.d = a.map fun k => W.int (k : Nat) := by rw [ci, List.map_map, List.map_map]; rfl
theorem join_eq (a b : List Nat) : (a.map fun k => W.int (k : Nat)).map (fun w => match w with | .d (.int i) => W.int (b.getD i.toNat 0 : Nat) | w => w) = ((ci (jn a b)).map PyData.int).map W.d := by
  rw [mw_ti, jn, List.map_map, List.map_map]; rfl
theorem sem_joined : ∀ ws S Q E, sp_joined ws S Q E → rd_joined (DQ Q) (start3 3 ws E) S := fun ws S Q E ⟨a, b, e, hl, hb, q⟩ => by
  subst e
  refine ⟨_, rfl, _, .inr rfl, by rw [mw_ti, List.length_map]; omega, ?_⟩
  rw [mw_ti]
  refine lcGo_map (fun w => match w with | .d (.int i) => W.int (b.getD i.toNat 0 : Nat) | w => w) (fun w hw A h => ?_) ?_
  · obtain ⟨k, hk, rfl⟩ := List.mem_map.mp hw
    exact ⟨_, rfl, _, rfl, _, _, rfl, ix_ti (hb k hk), h⟩
  · exact ⟨_, join_eq a b, _, _, rfl, rfl, _, Sub.refl _, q⟩
/-- n states -/
def Tis (w : W) (ds : List PyData) : Prop := w = .lst ds ∨ w = .tup ds
def sq_joined_all : Sp3 := fun ws S Q _ => ∃ (n : Nat) (w : W) (as : List (List Nat)), ws = [.int n, w] ∧ Tis w (as.map ti) ∧ n ≤ 1000 ∧ (∀ a ∈ as, PmP n a) ∧ Q (.d (ti (as.foldl jn (List.range n)))) S
def sp_joined_all : Sp3 := fun ws S Q E => Bx (sq_joined_all ws S Q E)
theorem len_joined_all : ∀ ws S Q E, sp_joined_all ws S Q E → ws.length = 2 := fun ws S Q E ⟨n, w, as, e, _⟩ => by rw [e]; rfl
def rb_joined_all_0 : TS3 := (tSet3 2 (tCall3 sp_joined (tCons3 (tVar3 2) (tCons3 (tVar3 3) tNil3))))
def rd_joined_all : TS3 := (tSeq3 (tSet3 2 (tCall3 sp_still (tCons3 (tVar3 0) tNil3))) (tSeq3 (tFor3 (tSeqI3 (tVar3 1)) (gName3 3) rb_joined_all_0) (tRet3 (tVar3 2))))
theorem still_ti {n : Nat} {S : Sto} {Q : K3} {E : X3} (hn : n ≤ 1000) (q : Q (.d (ti (List.range n))) S) : sp_still [.int n] S Q E := ⟨n, rfl, by omega, by omega, by rw [rgD_ti]; exact q⟩
theorem jn_all_ok {n : Nat} : ∀ {as : List (List Nat)} {f : List Nat}, PmP n f → (∀ a ∈ as, PmP n a) → PmP n (as.foldl jn f)
  | [], _, h, _ => h
  | a :: as, f, h, ha => jn_all_ok (as := as) (jn_ok h (ha a List.mem_cons_self)) fun b hb => ha b (List.mem_cons_of_mem _ hb)
theorem join_P {n : Nat} {a b : List Nat} {S : Sto} {Q : K3} {E : X3} (ha : PmP n a) (hb : PmP n b) (hn : n ≤ 1000) (q : Q (.d (ti (jn a b))) S) : sp_joined [.d (ti a), .d (ti b)] S Q E :=
  ⟨a, b, rfl, by rw [ha.1]; exact hn, fun x hx => by rw [hb.1]; exact ha.2.2 x hx, q⟩
theorem get_map {α β : Type} {f : α → β} {l : List α} {i : Nat} {y : β} (h : (l.map f)[i]? = some y) : ∃ x, l[i]? = some x ∧ f x = y := by
  rw [List.getElem?_map] at h
  cases e : l[i]? with
  | none => rw [e] at h; exact nomatch h
  | some x => rw [e] at h; exact ⟨x, rfl, Option.some.inj h⟩
/-- a loop that folds -/
theorem fold_take {α β : Type} (f : β → α → β) (b : β) {l : List α} {i : Nat} {x : α} (h : l[i]? = some x) : f ((l.take i).foldl f b) x = (l.take (i + 1)).foldl f b := by
  rw [List.take_add_one, h, List.foldl_append]; rfl
theorem sem_joined_all : ∀ ws S Q E, sp_joined_all ws S Q E → rd_joined_all (DQ Q) (start3 4 ws E) S := fun ws S Q E ⟨n, w, as, e, hw, hn, ha, q⟩ => by
  subst e
  refine ⟨_, rfl, still_ti hn ⟨_, rfl, as.map ti, hw, ?_⟩⟩
  refine forGo_inv (fun i τ S' => S' = S ∧ ∃ w4, τ.sl = [some (.int n), some w, some (.d (ti ((as.take i).foldl jn (List.range n)))), w4]) ⟨rfl, _, rfl⟩ ?_ ?_
  · rintro i x ⟨sl, ex⟩ S' hx ⟨rfl, w4, e⟩
    subst e
    rw [List.map_map] at hx
    obtain ⟨a, h1, rfl⟩ := get_map hx
    have hm := List.mem_of_getElem? h1
    refine ⟨_, rfl, _, rfl, join_P (jn_all_ok hm_ok fun b hb => ha b (List.mem_of_mem_take hb)) (ha a hm) hn ⟨rfl, some (.d (ti a)), ?_⟩⟩
    rw [fold_take jn _ h1]; rfl
  · rintro ⟨sl, ex⟩ S' ⟨rfl, w4, e⟩
    subst e
    rw [List.length_map, List.length_map, List.take_length]
    exact ⟨_, rfl, _, Sub.refl _, q⟩
/-- turned back -/
def sq_need_turning : Sp3 := fun ws S Q _ => ∃ n a, ws = [.d (ti a)] ∧ PmP n a ∧ n ≤ 1000 ∧ Q .non S
def sp_need_turning : Sp3 := fun ws S Q E => Bx (sq_need_turning ws S Q E)
def sq_turned_back : Sp3 := fun ws S Q _ => ∃ n a, ws = [.d (ti a)] ∧ PmP n a ∧ n ≤ 1000 ∧ Q (.d (ti (iv a))) S
def sp_turned_back : Sp3 := fun ws S Q E => Bx (sq_turned_back ws S Q E)
theorem len_need_turning : ∀ ws S Q E, sp_need_turning ws S Q E → ws.length = 1 := fun ws S Q E ⟨n, a, e, _⟩ => by rw [e]; rfl
theorem len_turned_back : ∀ ws S Q E, sp_turned_back ws S Q E → ws.length = 1 := fun ws S Q E ⟨n, a, e, _⟩ => by rw [e]; rfl
def rd_need_turning : TS3 := (tIf3 (tNot3 (tB3 (tCall3 sp_is_turning (tCons3 (tVar3 0) tNil3)))) tNever3 tNext3)
theorem ci_nodup {a : List Nat} (h : a.Nodup) : (ci a).Nodup := nodup_map_on _ (fun x _ y _ e => by omega) h
theorem ci_len {a : List Nat} : (ci a).length = a.length := by rw [ci, List.length_map]
theorem sem_need_turning : ∀ ws S Q E, sp_need_turning ws S Q E → rd_need_turning (DQ Q) (start3 1 ws E) S := fun ws S Q E ⟨n, a, e, ha, hn, q⟩ => by
  subst e
  refine ⟨_, rfl, ci a, rfl, by rw [ci_len, ha.1]; exact hn, fun L h1 h2 => ⟨_, rfl, fun c => ?_, fun _ => ⟨_, Sub.refl _, q⟩⟩⟩
  rw [nodup_len h1 (ci_nodup ha.2.1) h2] at c
  simp at c
def rd_turned_back : TS3 := (tSeq3 (tDrop3 (tCall3 sp_need_turning (tCons3 (tVar3 0) tNil3))) (tRet3 (tCB3 gTuple (tCons3 (tLcD3 (tRgI1 (tCons3 (tCB3 gLen (tCons3 (tVar3 0) tNil3)) tNil3)) (gName3 1) tYes3 (tTM3 gTIx (tVar3 0) (tCons3 (tVar3 1) tNil3)) [1]) tNil3))))
theorem ci_mem {a : List Nat} {k : Nat} : (k : Int) ∈ ci a ↔ k ∈ a := by
  unfold ci
  rw [List.mem_map]
  constructor
  · rintro ⟨j, hj, e⟩
    have : j = k := by omega
    rw [← this]; exact hj
  · exact fun h => ⟨k, h, rfl⟩
theorem ci_idx (k : Nat) : ∀ (a : List Nat), (ci a).idxOf (k : Int) = a.idxOf k
  | [] => rfl
  | x :: a => by
    show ((x : Int) :: ci a).idxOf (k : Int) = _
    rw [List.idxOf_cons, List.idxOf_cons, ci_idx k a]
    by_cases h : x = k
    · subst h; simp
    · have h1 : ((x : Int) == (k : Int)) = false := by rw [beq_eq_false_iff_ne]; omega
      have h2 : (x == k) = false := by simpa using h
      rw [h1, h2]
theorem rgW_nat {n : Nat} : rgW 0 (n : Int).toNat = (List.range n).map fun k => W.int (k : Nat) := by
  unfold rgW
  rw [show (n : Int).toNat = n by omega]
  apply List.map_congr_left; intro i _
  show W.int (0 + (i : Nat)) = W.int (i : Nat)
  rw [Int.zero_add]
theorem sem_turned_back : ∀ ws S Q E, sp_turned_back ws S Q E → rd_turned_back (DQ Q) (start3 2 ws E) S := fun ws S Q E ⟨n, a, e, ha, hn, q⟩ => by
  subst e
  refine ⟨_, rfl, ⟨n, a, rfl, ha, hn, ?_⟩⟩
  refine ⟨_, rfl, _, _, rfl, len_ti, _, rfl, ⟨by omega, by have := ha.1; omega⟩, by rw [rgW_len]; have := ha.1; omega, ?_⟩
  rw [rgW_nat]
  refine lcGo_map (fun w => match w with | .d (.int i) => W.int (a.idxOf i.toNat : Nat) | w => w) (fun w hw A h => ?_) ?_
  · obtain ⟨k, hk, rfl⟩ := List.mem_map.mp hw
    have hk : k ∈ a := ha.mem (by have := List.mem_range.mp hk; rw [ha.1] at this; exact this)
    refine ⟨_, rfl, ⟨_, rfl⟩, _, rfl, ci a, (k : Int), rfl, rfl, ci_mem.mpr hk, ?_⟩
    rw [ci_idx]; exact h
  · refine ⟨(ci (iv a)).map PyData.int, ?_, _, _, rfl, rfl, _, Sub.refl _, q⟩
    rw [mw_ti, iv, List.nil_append, List.map_map, List.map_map]; rfl
/-- commutators -/
def sq_commutator : Sp3 := fun ws S Q _ => ∃ n a b, ws = [.d (ti a), .d (ti b)] ∧ PmP n a ∧ PmP n b ∧ n ≤ 1000 ∧ Q (.d (ti (cm a b))) S
def sp_commutator : Sp3 := fun ws S Q E => Bx (sq_commutator ws S Q E)
def sq_conjugate : Sp3 := fun ws S Q _ => ∃ n a b, ws = [.d (ti a), .d (ti b)] ∧ PmP n a ∧ PmP n b ∧ n ≤ 1000 ∧ Q (.d (ti (cj a b))) S
def sp_conjugate : Sp3 := fun ws S Q E => Bx (sq_conjugate ws S Q E)
theorem len_commutator : ∀ ws S Q E, sp_commutator ws S Q E → ws.length = 2 := fun ws S Q E ⟨n, a, b, e, _⟩ => by rw [e]; rfl
theorem len_conjugate : ∀ ws S Q E, sp_conjugate ws S Q E → ws.length = 2 := fun ws S Q E ⟨n, a, b, e, _⟩ => by rw [e]; rfl
def rd_commutator : TS3 := (tRet3 (tCall3 sp_joined (tCons3 (tCall3 sp_joined (tCons3 (tVar3 0) (tCons3 (tVar3 1) tNil3))) (tCons3 (tCall3 sp_joined (tCons3 (tCall3 sp_turned_back (tCons3 (tVar3 0) tNil3)) (tCons3 (tCall3 sp_turned_back (tCons3 (tVar3 1) tNil3)) tNil3))) tNil3))))
def rd_conjugate : TS3 := (tRet3 (tCall3 sp_joined (tCons3 (tCall3 sp_joined (tCons3 (tCall3 sp_turned_back (tCons3 (tVar3 1) tNil3)) (tCons3 (tVar3 0) tNil3))) (tCons3 (tVar3 1) tNil3))))
theorem sem_commutator : ∀ ws S Q E, sp_commutator ws S Q E → rd_commutator (DQ Q) (start3 2 ws E) S := fun ws S Q E ⟨n, a, b, e, ha, hb, hn, q⟩ => by
  subst e
  exact ⟨_, rfl, _, rfl, join_P ha hb hn ⟨_, rfl, ⟨n, a, rfl, ha, hn, ⟨_, rfl, ⟨n, b, rfl, hb, hn, join_P (iv_ok ha) (iv_ok hb) hn (join_P (jn_ok ha hb) (jn_ok (iv_ok ha) (iv_ok hb)) hn ⟨_, Sub.refl _, q⟩)⟩⟩⟩⟩⟩
theorem sem_conjugate : ∀ ws S Q E, sp_conjugate ws S Q E → rd_conjugate (DQ Q) (start3 2 ws E) S := fun ws S Q E ⟨n, a, b, e, ha, hb, hn, q⟩ => by
  subst e
  exact ⟨_, rfl, ⟨n, b, rfl, hb, hn, ⟨_, rfl, join_P (iv_ok hb) ha hn ⟨_, rfl, join_P (jn_ok (iv_ok hb) ha) hb hn ⟨_, Sub.refl _, q⟩⟩⟩⟩⟩
/-- powers -/
def sq_power : Sp3 := fun ws S Q _ => ∃ (n : Nat) (a : Pm n) (m : Nat), ws = [.d (ti a.1), .int m] ∧ n ≤ 1000 ∧ Q (.d (ti (pw a m).1)) S
def sp_power : Sp3 := fun ws S Q E => Bx (sq_power ws S Q E)
theorem len_power : ∀ ws S Q E, sp_power ws S Q E → ws.length = 2 := fun ws S Q E ⟨n, a, b, e, _⟩ => by rw [e]; rfl
def rd_power : TS3 := (tSeq3 (tPar3 2 3 (tCons3 (tCall3 sp_still (tCons3 (tCB3 gLen (tCons3 (tVar3 0) tNil3)) tNil3)) (tCons3 (tVar3 0) tNil3))) (tSeq3 (tWhile3 (tB3 (tOp3 gGt (tVar3 1) (tC3 (.int 0)))) (tSeq3 (tIf3 (tB3 (tOp3 gEq (tOp3 gMod (tVar3 1) (tC3 (.int 2))) (tC3 (.int 1)))) (tSet3 2 (tCall3 sp_joined (tCons3 (tVar3 2) (tCons3 (tVar3 3) tNil3)))) tNext3) (tPar3 3 1 (tCons3 (tCall3 sp_joined (tCons3 (tVar3 3) (tCons3 (tVar3 3) tNil3))) (tCons3 (tOp3 gDiv (tVar3 1) (tC3 (.int 2))) tNil3))))) (tRet3 (tVar3 2))))
theorem join_Pm {n : Nat} {a b : Pm n} {S : Sto} {Q : K3} {E : X3} (hn : n ≤ 1000) (q : Q (.d (ti (a * b).1)) S) : sp_joined [.d (ti a.1), .d (ti b.1)] S Q E := join_P a.2 b.2 hn q
theorem sem_power : ∀ ws S Q E, sp_power ws S Q E → rd_power (DQ Q) (start3 4 ws E) S := fun ws S Q E ⟨n, a, m, e, hn, q⟩ => by
  subst e
  refine ⟨_, rfl, _, _, rfl, len_ti, ?_⟩
  rw [a.2.1]
  refine still_ti hn ⟨_, rfl, _, _, rfl, ?_⟩
  refine ⟨fun k τ S' => S' = S ∧ ∃ (f s : Pm n) (w0 : Option W), τ.sl = [w0, some (.int (k : Nat)), some (.d (ti f.1)), some (.d (ti s.1))] ∧ f * pw s k = pw a m, ⟨m, rfl, (1 : Pm n), a, _, rfl, pm_one_mul _⟩, ?_⟩
  rintro k ⟨sl, ex⟩ S' ⟨rfl, f, s, w0, e, hp⟩
  subst e
  refine ⟨_, rfl, _, _, rfl, rfl, _, rfl, fun c => ?_, fun c => ?_⟩
  · have hk : 0 < k := by
      have : (0 : Int) < (k : Nat) := by simpa using c
      omega
    refine ⟨fun τ2 S2 => S2 = S' ∧ ∃ (f s : Pm n) (w0 : Option W), τ2.sl = [w0, some (.int (k / 2 : Nat)), some (.d (ti f.1)), some (.d (ti s.1))] ∧ f * pw s (k / 2) = pw a m, fun τ2 S2 ⟨h1, h2⟩ => ⟨k / 2, by omega, h1, h2⟩, ?_⟩
    refine ⟨_, rfl, _, _, rfl, rfl, (show (0 : Int) < 2 by decide), .inr ⟨_, _, rfl, rfl, rfl, rfl, _, rfl, fun c2 => ?_, fun c2 => ?_⟩⟩
    · rw [eqv_int] at c2
      have h2 : k = 2 * (k / 2) + 1 := by have := of_decide_eq_true c2; omega
      refine ⟨_, rfl, _, rfl, join_Pm hn ⟨_, rfl, _, rfl, join_Pm hn ⟨_, rfl, _, _, rfl, rfl, ⟨by decide, by decide⟩, _, _, rfl, rfl, f * s, s * s, w0, ?_, ?_⟩⟩⟩
      · rw [show ((k / 2 : Nat) : Int) = (k : Int) / 2 by omega]; rfl
      · rw [pw_sq, pm_assoc]
        rw [h2] at hp
        exact hp
    · rw [eqv_int] at c2
      have h2 : k = 2 * (k / 2) := by have := of_decide_eq_false c2; omega
      refine ⟨_, rfl, _, rfl, join_Pm hn ⟨_, rfl, _, _, rfl, rfl, ⟨by decide, by decide⟩, _, _, rfl, rfl, f, s * s, w0, ?_, ?_⟩⟩
      · rw [show ((k / 2 : Nat) : Int) = (k : Int) / 2 by omega]; rfl
      · rw [pw_sq]
        rw [h2] at hp
        exact hp
  · have hk : k = 0 := by
      have : ¬ (0 : Int) < (k : Nat) := by simpa using c
      omega
    subst hk
    have e : f = pw a m := by rw [← hp]; exact (pm_mul_one f).symm
    subst e
    exact ⟨_, rfl, _, Sub.refl _, q⟩

end H3

namespace Lk10
open PySem PySem.Spec L2 H3
open PyProof.Rows hiding St
def top (i : Nat) : Stmt := PySem.Challenge.pw_handsaway_k10_whole_commutators_and_fold.main.body.getD i (.Pass ⟨0, 0, 0, 0⟩)
abbrev s_law_join : Stmt := top 20
abbrev N_law_join : List Str := ["one", "other", "state"]
abbrev P_law_join : List Str := ["one", "other"]
theorem sc_law_join : FnScope N_law_join P_law_join (defScope s_law_join) := ⟨rfl, rfl, rfl, by decide +kernel, rfl, by decide +kernel, by decide +kernel⟩
abbrev s_law_all : Stmt := top 26
abbrev N_law_all : List Str := ["some", "states", "found", "one"]
abbrev P_law_all : List Str := ["some", "states"]
theorem sc_law_all : FnScope N_law_all P_law_all (defScope s_law_all) := ⟨rfl, rfl, rfl, by decide +kernel, rfl, by decide +kernel, by decide +kernel⟩
abbrev s_law_any : Stmt := top 18
abbrev N_law_any : List Str := ["deal", "bound", "rest"]
abbrev P_law_any : List Str := ["deal", "bound"]
theorem sc_law_any : FnScope N_law_any P_law_any (defScope s_law_any) := ⟨rfl, rfl, rfl, by decide +kernel, rfl, by decide +kernel, by decide +kernel⟩
abbrev s_law_back : Stmt := top 21
abbrev N_law_back : List Str := ["one", "found", "state"]
abbrev P_law_back : List Str := ["one"]
theorem sc_law_back : FnScope N_law_back P_law_back (defScope s_law_back) := ⟨rfl, rfl, rfl, by decide +kernel, rfl, by decide +kernel, by decide +kernel⟩
abbrev s_law_fold : Stmt := top 27
abbrev N_law_fold : List Str := ["row", "found", "one"]
abbrev P_law_fold : List Str := ["row"]
theorem sc_law_fold : FnScope N_law_fold P_law_fold (defScope s_law_fold) := ⟨rfl, rfl, rfl, by decide +kernel, rfl, by decide +kernel, by decide +kernel⟩
abbrev s_law_made : Stmt := top 23
abbrev N_law_made : List Str := ["some", "states", "found", "turn", "one", "other"]
abbrev P_law_made : List Str := ["some", "states"]
theorem sc_law_made : FnScope N_law_made P_law_made (defScope s_law_made) := ⟨rfl, rfl, rfl, by decide +kernel, rfl, by decide +kernel, by decide +kernel⟩
abbrev s_law_of : Stmt := top 19
abbrev N_law_of : List Str := ["deal", "some"]
abbrev P_law_of : List Str := ["deal", "some"]
theorem sc_law_of : FnScope N_law_of P_law_of (defScope s_law_of) := ⟨rfl, rfl, rfl, by decide +kernel, rfl, by decide +kernel, by decide +kernel⟩
abbrev s_joined : Stmt := top 6
abbrev N_joined : List Str := ["one", "other", "state"]
abbrev P_joined : List Str := ["one", "other"]
theorem sc_joined : FnScope N_joined P_joined (defScope s_joined) := ⟨rfl, rfl, rfl, by decide +kernel, rfl, by decide +kernel, by decide +kernel⟩
abbrev s_is_turning : Stmt := top 4
abbrev N_is_turning : List Str := ["one"]
abbrev P_is_turning : List Str := ["one"]
theorem sc_is_turning : FnScope N_is_turning P_is_turning (defScope s_is_turning) := ⟨rfl, rfl, rfl, by decide +kernel, rfl, by decide +kernel, by decide +kernel⟩
abbrev s_need_turning : Stmt := top 9
abbrev N_need_turning : List Str := ["one"]
abbrev P_need_turning : List Str := ["one"]
theorem sc_need_turning : FnScope N_need_turning P_need_turning (defScope s_need_turning) := ⟨rfl, rfl, rfl, by decide +kernel, rfl, by decide +kernel, by decide +kernel⟩
abbrev s_turned_back : Stmt := top 10
abbrev N_turned_back : List Str := ["one", "state"]
abbrev P_turned_back : List Str := ["one"]
theorem sc_turned_back : FnScope N_turned_back P_turned_back (defScope s_turned_back) := ⟨rfl, rfl, rfl, by decide +kernel, rfl, by decide +kernel, by decide +kernel⟩
abbrev s_commutator : Stmt := top 12
abbrev N_commutator : List Str := ["one", "other"]
abbrev P_commutator : List Str := ["one", "other"]
theorem sc_commutator : FnScope N_commutator P_commutator (defScope s_commutator) := ⟨rfl, rfl, rfl, by decide +kernel, rfl, by decide +kernel, by decide +kernel⟩
abbrev s_conjugate : Stmt := top 13
abbrev N_conjugate : List Str := ["one", "other"]
abbrev P_conjugate : List Str := ["one", "other"]
theorem sc_conjugate : FnScope N_conjugate P_conjugate (defScope s_conjugate) := ⟨rfl, rfl, rfl, by decide +kernel, rfl, by decide +kernel, by decide +kernel⟩
abbrev s_law_pair_right : Stmt := top 29
abbrev N_law_pair_right : List Str := ["one", "other", "home", "bent", "worth", "due"]
abbrev P_law_pair_right : List Str := ["one", "other", "home"]
theorem sc_law_pair_right : FnScope N_law_pair_right P_law_pair_right (defScope s_law_pair_right) := ⟨rfl, rfl, rfl, by decide +kernel, rfl, by decide +kernel, by decide +kernel⟩
abbrev s_law_parts_right : Stmt := top 30
abbrev N_law_parts_right : List Str := ["one", "other", "more", "left", "right"]
abbrev P_law_parts_right : List Str := ["one", "other", "more"]
theorem sc_law_parts_right : FnScope N_law_parts_right P_law_parts_right (defScope s_law_parts_right) := ⟨rfl, rfl, rfl, by decide +kernel, rfl, by decide +kernel, by decide +kernel⟩
abbrev s_law_row : Stmt := top 28
abbrev N_law_row : List Str := ["deal", "some", "row", "turn"]
abbrev P_law_row : List Str := ["deal", "some"]
theorem sc_law_row : FnScope N_law_row P_law_row (defScope s_law_row) := ⟨rfl, rfl, rfl, by decide +kernel, rfl, by decide +kernel, by decide +kernel⟩
abbrev s_law_shuffled : Stmt := top 24
abbrev N_law_shuffled : List Str := ["deal", "states", "turn", "left", "found"]
abbrev P_law_shuffled : List Str := ["deal", "states"]
theorem sc_law_shuffled : FnScope N_law_shuffled P_law_shuffled (defScope s_law_shuffled) := ⟨rfl, rfl, rfl, by decide +kernel, rfl, by decide +kernel, by decide +kernel⟩
abbrev s_law_source : Stmt := top 17
abbrev N_law_source : List Str := ["script", "cells", "blend", "cell"]
abbrev P_law_source : List Str := ["script"]
theorem sc_law_source : FnScope N_law_source P_law_source (defScope s_law_source) := ⟨rfl, rfl, rfl, by decide +kernel, rfl, by decide +kernel, by decide +kernel⟩
abbrev s_law_turnings : Stmt := top 25
abbrev N_law_turnings : List Str := ["deal", "known", "some", "by", "states", "one", "turn"]
abbrev P_law_turnings : List Str := ["deal"]
theorem sc_law_turnings : FnScope N_law_turnings P_law_turnings (defScope s_law_turnings) := ⟨rfl, rfl, rfl, by decide +kernel, rfl, by decide +kernel, by decide +kernel⟩
abbrev s_fold : Stmt := top 14
abbrev N_fold : List Str := ["row", "found", "one"]
abbrev P_fold : List Str := ["row"]
theorem sc_fold : FnScope N_fold P_fold (defScope s_fold) := ⟨rfl, rfl, rfl, by decide +kernel, rfl, by decide +kernel, by decide +kernel⟩
abbrev s_still : Stmt := top 5
abbrev N_still : List Str := ["states"]
abbrev P_still : List Str := ["states"]
theorem sc_still : FnScope N_still P_still (defScope s_still) := ⟨rfl, rfl, rfl, by decide +kernel, rfl, by decide +kernel, by decide +kernel⟩
abbrev s_joined_all : Stmt := top 7
abbrev N_joined_all : List Str := ["states", "maps", "found", "one"]
abbrev P_joined_all : List Str := ["states", "maps"]
theorem sc_joined_all : FnScope N_joined_all P_joined_all (defScope s_joined_all) := ⟨rfl, rfl, rfl, by decide +kernel, rfl, by decide +kernel, by decide +kernel⟩
abbrev s_folds_joined : Stmt := top 15
abbrev N_folds_joined : List Str := ["states", "rows", "row"]
abbrev P_folds_joined : List Str := ["states", "rows"]
theorem sc_folds_joined : FnScope N_folds_joined P_folds_joined (defScope s_folds_joined) := ⟨rfl, rfl, rfl, by decide +kernel, rfl, by decide +kernel, by decide +kernel⟩
abbrev s_power : Stmt := top 8
abbrev N_power : List Str := ["one", "many", "found", "square"]
abbrev P_power : List Str := ["one", "many"]
theorem sc_power : FnScope N_power P_power (defScope s_power) := ⟨rfl, rfl, rfl, by decide +kernel, rfl, by decide +kernel, by decide +kernel⟩
abbrev s_law : Stmt := top 31
abbrev N_law : List Str := ["script", "deal", "some", "home", "turn", "rows", "row", "due", "states", "group", "worth", "one", "other", "more"]
abbrev P_law : List Str := ["script"]
theorem sc_law : FnScope N_law P_law (defScope s_law) := ⟨rfl, rfl, rfl, by decide +kernel, rfl, by decide +kernel, by decide +kernel⟩
structure Txt (K : PySem.W.Frag) (mg : Str → Option Value) where
  f_law_join : Addr
  d_law_join : FuncData
  F_law_join : FnP K "_law_join" s_law_join f_law_join d_law_join
  m_law_join : mg "_law_join" = some (.ref f_law_join)
  f_law_all : Addr
  d_law_all : FuncData
  F_law_all : FnP K "_law_all" s_law_all f_law_all d_law_all
  m_law_all : mg "_law_all" = some (.ref f_law_all)
  f_law_any : Addr
  d_law_any : FuncData
  F_law_any : FnP K "_law_any" s_law_any f_law_any d_law_any
  m_law_any : mg "_law_any" = some (.ref f_law_any)
  f_law_back : Addr
  d_law_back : FuncData
  F_law_back : FnP K "_law_back" s_law_back f_law_back d_law_back
  m_law_back : mg "_law_back" = some (.ref f_law_back)
  f_law_fold : Addr
  d_law_fold : FuncData
  F_law_fold : FnP K "_law_fold" s_law_fold f_law_fold d_law_fold
  m_law_fold : mg "_law_fold" = some (.ref f_law_fold)
  f_law_made : Addr
  d_law_made : FuncData
  F_law_made : FnP K "_law_made" s_law_made f_law_made d_law_made
  m_law_made : mg "_law_made" = some (.ref f_law_made)
  f_law_of : Addr
  d_law_of : FuncData
  F_law_of : FnP K "_law_of" s_law_of f_law_of d_law_of
  m_law_of : mg "_law_of" = some (.ref f_law_of)
  f_joined : Addr
  d_joined : FuncData
  F_joined : FnP K "joined" s_joined f_joined d_joined
  m_joined : mg "joined" = some (.ref f_joined)
  f_is_turning : Addr
  d_is_turning : FuncData
  F_is_turning : FnP K "is_turning" s_is_turning f_is_turning d_is_turning
  m_is_turning : mg "is_turning" = some (.ref f_is_turning)
  f_need_turning : Addr
  d_need_turning : FuncData
  F_need_turning : FnP K "need_turning" s_need_turning f_need_turning d_need_turning
  m_need_turning : mg "need_turning" = some (.ref f_need_turning)
  f_turned_back : Addr
  d_turned_back : FuncData
  F_turned_back : FnP K "turned_back" s_turned_back f_turned_back d_turned_back
  m_turned_back : mg "turned_back" = some (.ref f_turned_back)
  f_commutator : Addr
  d_commutator : FuncData
  F_commutator : FnP K "commutator" s_commutator f_commutator d_commutator
  m_commutator : mg "commutator" = some (.ref f_commutator)
  f_conjugate : Addr
  d_conjugate : FuncData
  F_conjugate : FnP K "conjugate" s_conjugate f_conjugate d_conjugate
  m_conjugate : mg "conjugate" = some (.ref f_conjugate)
  f_law_pair_right : Addr
  d_law_pair_right : FuncData
  F_law_pair_right : FnP K "_law_pair_right" s_law_pair_right f_law_pair_right d_law_pair_right
  m_law_pair_right : mg "_law_pair_right" = some (.ref f_law_pair_right)
  f_law_parts_right : Addr
  d_law_parts_right : FuncData
  F_law_parts_right : FnP K "_law_parts_right" s_law_parts_right f_law_parts_right d_law_parts_right
  m_law_parts_right : mg "_law_parts_right" = some (.ref f_law_parts_right)
  f_law_row : Addr
  d_law_row : FuncData
  F_law_row : FnP K "_law_row" s_law_row f_law_row d_law_row
  m_law_row : mg "_law_row" = some (.ref f_law_row)
  f_law_shuffled : Addr
  d_law_shuffled : FuncData
  F_law_shuffled : FnP K "_law_shuffled" s_law_shuffled f_law_shuffled d_law_shuffled
  m_law_shuffled : mg "_law_shuffled" = some (.ref f_law_shuffled)
  f_law_source : Addr
  d_law_source : FuncData
  F_law_source : FnP K "_law_source" s_law_source f_law_source d_law_source
  m_law_source : mg "_law_source" = some (.ref f_law_source)
  f_law_turnings : Addr
  d_law_turnings : FuncData
  F_law_turnings : FnP K "_law_turnings" s_law_turnings f_law_turnings d_law_turnings
  m_law_turnings : mg "_law_turnings" = some (.ref f_law_turnings)
  f_fold : Addr
  d_fold : FuncData
  F_fold : FnP K "fold" s_fold f_fold d_fold
  m_fold : mg "fold" = some (.ref f_fold)
  f_still : Addr
  d_still : FuncData
  F_still : FnP K "still" s_still f_still d_still
  m_still : mg "still" = some (.ref f_still)
  f_joined_all : Addr
  d_joined_all : FuncData
  F_joined_all : FnP K "joined_all" s_joined_all f_joined_all d_joined_all
  m_joined_all : mg "joined_all" = some (.ref f_joined_all)
  f_folds_joined : Addr
  d_folds_joined : FuncData
  F_folds_joined : FnP K "folds_joined" s_folds_joined f_folds_joined d_folds_joined
  m_folds_joined : mg "folds_joined" = some (.ref f_folds_joined)
  f_power : Addr
  d_power : FuncData
  F_power : FnP K "power" s_power f_power d_power
  m_power : mg "power" = some (.ref f_power)
  f_law : Addr
  d_law : FuncData
  F_law : FnP K "law" s_law f_law d_law
  m_law : mg "law" = some (.ref f_law)
  z_len : mg "len" = none
  z_set : mg "set" = none
  z_range : mg "range" = none
  z_tuple : mg "tuple" = none
  z_int : mg "int" = none
  z_abs : mg "abs" = none
  z_sorted : mg "sorted" = none
  z_list : mg "list" = none
  z_repr : mg "repr" = none
theorem b_law_join {K : PySem.W.Frag} {f : Addr} {fd : FuncData} (F : FnP K "_law_join" s_law_join f fd) : Binds K fd P_law_join [] := F.bindsN fun _ _ _ _ _ _ us hl => match us, hl with | [_, _], _ => rfl
theorem b_law_all {K : PySem.W.Frag} {f : Addr} {fd : FuncData} (F : FnP K "_law_all" s_law_all f fd) : Binds K fd P_law_all [] := F.bindsN fun _ _ _ _ _ _ us hl => match us, hl with | [_, _], _ => rfl
theorem b_law_any {K : PySem.W.Frag} {f : Addr} {fd : FuncData} (F : FnP K "_law_any" s_law_any f fd) : Binds K fd P_law_any [] := F.bindsN fun _ _ _ _ _ _ us hl => match us, hl with | [_, _], _ => rfl
theorem b_law_back {K : PySem.W.Frag} {f : Addr} {fd : FuncData} (F : FnP K "_law_back" s_law_back f fd) : Binds K fd P_law_back [] := F.bindsN fun _ _ _ _ _ _ us hl => match us, hl with | [_], _ => rfl
theorem b_law_fold {K : PySem.W.Frag} {f : Addr} {fd : FuncData} (F : FnP K "_law_fold" s_law_fold f fd) : Binds K fd P_law_fold [] := F.bindsN fun _ _ _ _ _ _ us hl => match us, hl with | [_], _ => rfl
theorem b_law_made {K : PySem.W.Frag} {f : Addr} {fd : FuncData} (F : FnP K "_law_made" s_law_made f fd) : Binds K fd P_law_made [] := F.bindsN fun _ _ _ _ _ _ us hl => match us, hl with | [_, _], _ => rfl
theorem b_law_of {K : PySem.W.Frag} {f : Addr} {fd : FuncData} (F : FnP K "_law_of" s_law_of f fd) : Binds K fd P_law_of [] := F.bindsN fun _ _ _ _ _ _ us hl => match us, hl with | [_, _], _ => rfl
theorem b_joined {K : PySem.W.Frag} {f : Addr} {fd : FuncData} (F : FnP K "joined" s_joined f fd) : Binds K fd P_joined [] := F.bindsN fun _ _ _ _ _ _ us hl => match us, hl with | [_, _], _ => rfl
theorem b_is_turning {K : PySem.W.Frag} {f : Addr} {fd : FuncData} (F : FnP K "is_turning" s_is_turning f fd) : Binds K fd P_is_turning [] := F.bindsN fun _ _ _ _ _ _ us hl => match us, hl with | [_], _ => rfl
theorem b_need_turning {K : PySem.W.Frag} {f : Addr} {fd : FuncData} (F : FnP K "need_turning" s_need_turning f fd) : Binds K fd P_need_turning [] := F.bindsN fun _ _ _ _ _ _ us hl => match us, hl with | [_], _ => rfl
theorem b_turned_back {K : PySem.W.Frag} {f : Addr} {fd : FuncData} (F : FnP K "turned_back" s_turned_back f fd) : Binds K fd P_turned_back [] := F.bindsN fun _ _ _ _ _ _ us hl => match us, hl with | [_], _ => rfl
theorem b_commutator {K : PySem.W.Frag} {f : Addr} {fd : FuncData} (F : FnP K "commutator" s_commutator f fd) : Binds K fd P_commutator [] := F.bindsN fun _ _ _ _ _ _ us hl => match us, hl with | [_, _], _ => rfl
def gw_commutator_0 {α : Type} : List α → List α := fun | [a0, a1] => [a1, a0] | l => l
theorem kb_commutator_0 {K : PySem.W.Frag} {f : Addr} {fd : FuncData} (F : FnP K "commutator" s_commutator f fd) : KwTo fd P_commutator ["other", "one"] gw_commutator_0 where
  to := fun s ws hl => by
    obtain ⟨_, _, dV, _, _, _, _, _, _, _, rfl, _, _, dfl, _⟩ := F.ex
    rcases dfl with ⟨_, rfl⟩ | ⟨no, _⟩
    · match ws, hl with
      | [a0, a1], _ => exact .of_eq rfl
    · exact absurd rfl no
  rel := fun {zs ws} hl r => by
    match zs, ws, hl, r with
    | [_, _], [_, _], _, .cons r0 (.cons r1 .nil) => exact .cons r1 (.cons r0 .nil)
theorem kw_commutator_0 (K : PySem.W.Frag) (F : Fz) (ws : List W) (vs : List V) (hl : ws.length = ["other", "one"].length) (r : RepWs K F ws vs) : RepWs K F (gw_commutator_0 ws) (gw_commutator_0 vs) := by
  match ws, vs, hl, r with
  | [_, _], [_, _], _, .cons r0 (.cons r1 .nil) => exact .cons r1 (.cons r0 .nil)
theorem b_conjugate {K : PySem.W.Frag} {f : Addr} {fd : FuncData} (F : FnP K "conjugate" s_conjugate f fd) : Binds K fd P_conjugate [] := F.bindsN fun _ _ _ _ _ _ us hl => match us, hl with | [_, _], _ => rfl
def gw_conjugate_0 {α : Type} : List α → List α := fun | [a0, a1] => [a1, a0] | l => l
theorem kb_conjugate_0 {K : PySem.W.Frag} {f : Addr} {fd : FuncData} (F : FnP K "conjugate" s_conjugate f fd) : KwTo fd P_conjugate ["other", "one"] gw_conjugate_0 where
  to := fun s ws hl => by
    obtain ⟨_, _, dV, _, _, _, _, _, _, _, rfl, _, _, dfl, _⟩ := F.ex
    rcases dfl with ⟨_, rfl⟩ | ⟨no, _⟩
    · match ws, hl with
      | [a0, a1], _ => exact .of_eq rfl
    · exact absurd rfl no
  rel := fun {zs ws} hl r => by
    match zs, ws, hl, r with
    | [_, _], [_, _], _, .cons r0 (.cons r1 .nil) => exact .cons r1 (.cons r0 .nil)
theorem kw_conjugate_0 (K : PySem.W.Frag) (F : Fz) (ws : List W) (vs : List V) (hl : ws.length = ["other", "one"].length) (r : RepWs K F ws vs) : RepWs K F (gw_conjugate_0 ws) (gw_conjugate_0 vs) := by
  match ws, vs, hl, r with
  | [_, _], [_, _], _, .cons r0 (.cons r1 .nil) => exact .cons r1 (.cons r0 .nil)
theorem b_law_pair_right {K : PySem.W.Frag} {f : Addr} {fd : FuncData} (F : FnP K "_law_pair_right" s_law_pair_right f fd) : Binds K fd P_law_pair_right [] := F.bindsN fun _ _ _ _ _ _ us hl => match us, hl with | [_, _, _], _ => rfl
theorem b_law_parts_right {K : PySem.W.Frag} {f : Addr} {fd : FuncData} (F : FnP K "_law_parts_right" s_law_parts_right f fd) : Binds K fd P_law_parts_right [] := F.bindsN fun _ _ _ _ _ _ us hl => match us, hl with | [_, _, _], _ => rfl
theorem b_law_row {K : PySem.W.Frag} {f : Addr} {fd : FuncData} (F : FnP K "_law_row" s_law_row f fd) : Binds K fd P_law_row [] := F.bindsN fun _ _ _ _ _ _ us hl => match us, hl with | [_, _], _ => rfl
theorem b_law_shuffled {K : PySem.W.Frag} {f : Addr} {fd : FuncData} (F : FnP K "_law_shuffled" s_law_shuffled f fd) : Binds K fd P_law_shuffled [] := F.bindsN fun _ _ _ _ _ _ us hl => match us, hl with | [_, _], _ => rfl
theorem b_law_source {K : PySem.W.Frag} {f : Addr} {fd : FuncData} (F : FnP K "_law_source" s_law_source f fd) : Binds K fd P_law_source [] := F.bindsN fun _ _ _ _ _ _ us hl => match us, hl with | [_], _ => rfl
theorem b_law_turnings {K : PySem.W.Frag} {f : Addr} {fd : FuncData} (F : FnP K "_law_turnings" s_law_turnings f fd) : Binds K fd P_law_turnings [] := F.bindsN fun _ _ _ _ _ _ us hl => match us, hl with | [_], _ => rfl
theorem b_fold {K : PySem.W.Frag} {f : Addr} {fd : FuncData} (F : FnP K "fold" s_fold f fd) : Binds K fd P_fold [] := F.bindsN fun _ _ _ _ _ _ us hl => match us, hl with | [_], _ => rfl
def gw_fold_0 {α : Type} : List α → List α := fun | [a0] => [a0] | l => l
theorem kb_fold_0 {K : PySem.W.Frag} {f : Addr} {fd : FuncData} (F : FnP K "fold" s_fold f fd) : KwTo fd P_fold ["row"] gw_fold_0 where
  to := fun s ws hl => by
    obtain ⟨_, _, dV, _, _, _, _, _, _, _, rfl, _, _, dfl, _⟩ := F.ex
    rcases dfl with ⟨_, rfl⟩ | ⟨no, _⟩
    · match ws, hl with
      | [a0], _ => exact .of_eq rfl
    · exact absurd rfl no
  rel := fun {zs ws} hl r => by
    match zs, ws, hl, r with
    | [_], [_], _, .cons r0 .nil => exact .cons r0 .nil
theorem kw_fold_0 (K : PySem.W.Frag) (F : Fz) (ws : List W) (vs : List V) (hl : ws.length = ["row"].length) (r : RepWs K F ws vs) : RepWs K F (gw_fold_0 ws) (gw_fold_0 vs) := by
  match ws, vs, hl, r with
  | [_], [_], _, .cons r0 .nil => exact .cons r0 .nil
theorem b_still {K : PySem.W.Frag} {f : Addr} {fd : FuncData} (F : FnP K "still" s_still f fd) : Binds K fd P_still [] := F.bindsN fun _ _ _ _ _ _ us hl => match us, hl with | [_], _ => rfl
theorem b_joined_all {K : PySem.W.Frag} {f : Addr} {fd : FuncData} (F : FnP K "joined_all" s_joined_all f fd) : Binds K fd P_joined_all [] := F.bindsN fun _ _ _ _ _ _ us hl => match us, hl with | [_, _], _ => rfl
theorem b_folds_joined {K : PySem.W.Frag} {f : Addr} {fd : FuncData} (F : FnP K "folds_joined" s_folds_joined f fd) : Binds K fd P_folds_joined [] := F.bindsN fun _ _ _ _ _ _ us hl => match us, hl with | [_, _], _ => rfl
def gw_folds_joined_0 {α : Type} : List α → List α := fun | [a0, a1] => [a1, a0] | l => l
theorem kb_folds_joined_0 {K : PySem.W.Frag} {f : Addr} {fd : FuncData} (F : FnP K "folds_joined" s_folds_joined f fd) : KwTo fd P_folds_joined ["rows", "states"] gw_folds_joined_0 where
  to := fun s ws hl => by
    obtain ⟨_, _, dV, _, _, _, _, _, _, _, rfl, _, _, dfl, _⟩ := F.ex
    rcases dfl with ⟨_, rfl⟩ | ⟨no, _⟩
    · match ws, hl with
      | [a0, a1], _ => exact .of_eq rfl
    · exact absurd rfl no
  rel := fun {zs ws} hl r => by
    match zs, ws, hl, r with
    | [_, _], [_, _], _, .cons r0 (.cons r1 .nil) => exact .cons r1 (.cons r0 .nil)
theorem kw_folds_joined_0 (K : PySem.W.Frag) (F : Fz) (ws : List W) (vs : List V) (hl : ws.length = ["rows", "states"].length) (r : RepWs K F ws vs) : RepWs K F (gw_folds_joined_0 ws) (gw_folds_joined_0 vs) := by
  match ws, vs, hl, r with
  | [_, _], [_, _], _, .cons r0 (.cons r1 .nil) => exact .cons r1 (.cons r0 .nil)
theorem b_power {K : PySem.W.Frag} {f : Addr} {fd : FuncData} (F : FnP K "power" s_power f fd) : Binds K fd P_power [] := F.bindsN fun _ _ _ _ _ _ us hl => match us, hl with | [_, _], _ => rfl
theorem b_law {K : PySem.W.Frag} {f : Addr} {fd : FuncData} (F : FnP K "law" s_law f fd) : Binds K fd P_law [] := F.bindsN fun _ _ _ _ _ _ us hl => match us, hl with | [_], _ => rfl
def dd_law_join : He.DefD := ⟨("_law_join", none), "_law_join", "_law_join", defArgs s_law_join, defBody s_law_join, defScope s_law_join, [], []⟩
def dd_law_all : He.DefD := ⟨("_law_all", none), "_law_all", "_law_all", defArgs s_law_all, defBody s_law_all, defScope s_law_all, [], []⟩
def dd_law_any : He.DefD := ⟨("_law_any", none), "_law_any", "_law_any", defArgs s_law_any, defBody s_law_any, defScope s_law_any, [], []⟩
def dd_law_back : He.DefD := ⟨("_law_back", none), "_law_back", "_law_back", defArgs s_law_back, defBody s_law_back, defScope s_law_back, [], []⟩
def dd_law_fold : He.DefD := ⟨("_law_fold", none), "_law_fold", "_law_fold", defArgs s_law_fold, defBody s_law_fold, defScope s_law_fold, [], []⟩
def dd_law_made : He.DefD := ⟨("_law_made", none), "_law_made", "_law_made", defArgs s_law_made, defBody s_law_made, defScope s_law_made, [], []⟩
def dd_law_of : He.DefD := ⟨("_law_of", none), "_law_of", "_law_of", defArgs s_law_of, defBody s_law_of, defScope s_law_of, [], []⟩
def dd_joined : He.DefD := ⟨("joined", none), "joined", "joined", defArgs s_joined, defBody s_joined, defScope s_joined, [], []⟩
def dd_is_turning : He.DefD := ⟨("is_turning", none), "is_turning", "is_turning", defArgs s_is_turning, defBody s_is_turning, defScope s_is_turning, [], []⟩
def dd_need_turning : He.DefD := ⟨("need_turning", none), "need_turning", "need_turning", defArgs s_need_turning, defBody s_need_turning, defScope s_need_turning, [], []⟩
def dd_turned_back : He.DefD := ⟨("turned_back", none), "turned_back", "turned_back", defArgs s_turned_back, defBody s_turned_back, defScope s_turned_back, [], []⟩
def dd_commutator : He.DefD := ⟨("commutator", none), "commutator", "commutator", defArgs s_commutator, defBody s_commutator, defScope s_commutator, [], []⟩
def dd_conjugate : He.DefD := ⟨("conjugate", none), "conjugate", "conjugate", defArgs s_conjugate, defBody s_conjugate, defScope s_conjugate, [], []⟩
def dd_law_pair_right : He.DefD := ⟨("_law_pair_right", none), "_law_pair_right", "_law_pair_right", defArgs s_law_pair_right, defBody s_law_pair_right, defScope s_law_pair_right, [], []⟩
def dd_law_parts_right : He.DefD := ⟨("_law_parts_right", none), "_law_parts_right", "_law_parts_right", defArgs s_law_parts_right, defBody s_law_parts_right, defScope s_law_parts_right, [], []⟩
def dd_law_row : He.DefD := ⟨("_law_row", none), "_law_row", "_law_row", defArgs s_law_row, defBody s_law_row, defScope s_law_row, [], []⟩
def dd_law_shuffled : He.DefD := ⟨("_law_shuffled", none), "_law_shuffled", "_law_shuffled", defArgs s_law_shuffled, defBody s_law_shuffled, defScope s_law_shuffled, [], []⟩
def dd_law_source : He.DefD := ⟨("_law_source", none), "_law_source", "_law_source", defArgs s_law_source, defBody s_law_source, defScope s_law_source, [], []⟩
def dd_law_turnings : He.DefD := ⟨("_law_turnings", none), "_law_turnings", "_law_turnings", defArgs s_law_turnings, defBody s_law_turnings, defScope s_law_turnings, [], []⟩
def dd_fold : He.DefD := ⟨("fold", none), "fold", "fold", defArgs s_fold, defBody s_fold, defScope s_fold, [], []⟩
def dd_still : He.DefD := ⟨("still", none), "still", "still", defArgs s_still, defBody s_still, defScope s_still, [], []⟩
def dd_joined_all : He.DefD := ⟨("joined_all", none), "joined_all", "joined_all", defArgs s_joined_all, defBody s_joined_all, defScope s_joined_all, [], []⟩
def dd_folds_joined : He.DefD := ⟨("folds_joined", none), "folds_joined", "folds_joined", defArgs s_folds_joined, defBody s_folds_joined, defScope s_folds_joined, [], []⟩
def dd_power : He.DefD := ⟨("power", none), "power", "power", defArgs s_power, defBody s_power, defScope s_power, [], []⟩
def dd_law : He.DefD := ⟨("law", none), "law", "law", defArgs s_law, defBody s_law, defScope s_law, [], []⟩
def fnl : List He.DefD := [dd_law_join, dd_law_all, dd_law_any, dd_law_back, dd_law_fold, dd_law_made, dd_law_of, dd_joined, dd_is_turning, dd_need_turning, dd_turned_back, dd_commutator, dd_conjugate, dd_law_pair_right, dd_law_parts_right, dd_law_row, dd_law_shuffled, dd_law_source, dd_law_turnings, dd_fold, dd_still, dd_joined_all, dd_folds_joined, dd_power, dd_law]
def fal : List He.Fa := [.glo "_law_join", .glo "_law_all", .glo "_law_any", .glo "_law_back", .glo "_law_fold", .glo "_law_made", .glo "_law_of", .glo "joined", .glo "is_turning", .glo "need_turning", .glo "turned_back", .glo "commutator", .glo "conjugate", .glo "_law_pair_right", .glo "_law_parts_right", .glo "_law_row", .glo "_law_shuffled", .glo "_law_source", .glo "_law_turnings", .glo "fold", .glo "still", .glo "joined_all", .glo "folds_joined", .glo "power", .glo "law", .free "len", .free "set", .free "range", .free "tuple", .free "int", .free "abs", .free "sorted", .free "list", .free "repr"]
abbrev R : PySem.W.OpenRow := PySem.W.OpenLaw.row PySem.Challenge.rw_handsaway_k10_whole_commutators_and_fold
abbrev hk : PySem.W.Hook := He.hookD 4 fal fnl
def ob (s : PySem.W.SharedT) : He.AlD := He.obsDG 4 fal fnl (HandSHeadRun.getT s)
theorem seen_eq (sh : PySem.W.SharedT) : ob sh = hk.obs sh.abs := He.obsDG_eq (HandSHeadRun.getT_eq sh)
def loose : List PySem.Str := ["is_turning", "still", "joined", "joined_all", "power", "need_turning", "turned_back", "commutator", "conjugate", "fold", "folds_joined", "_law_source", "_law_any", "_law_of", "_law_join", "_law_back", "_law_cross", "_law_made", "_law_shuffled", "_law_turnings", "_law_all", "_law_fold", "_law_row", "_law_pair_right", "_law_parts_right", "HandError", "Refused"]
theorem run (w : World) : HandSHeadRun.RunEq R (PySem.W.view R.prog [31]) hk ob 2000 loose w := by
  intro os
  kernel_rfl
end Lk10

namespace Lk10
open PySem PySem.Spec L2 H3
open PyProof.Rows hiding St
/-! draws, the second kind -/
def sq_law_source : Sp3 := fun ws S Q _ => ∃ (ns : List Int), ws = [.lst (ns.map PyData.int)] ∧ ns.length ≤ 63 ∧ ∀ dl d1 S', S dl = none → S d1 = none → Upto [dl, d1] S S' → Deal S' dl d1 → Q (.r dl) S'
def sp_law_source : Sp3 := fun ws S Q E => Bx (sq_law_source ws S Q E)
theorem len_law_source : ∀ ws S Q E, sp_law_source ws S Q E → ws.length = 1 := fun ws S Q E ⟨ns, e, _⟩ => by rw [e]; rfl
def rb_law_source_0 : TS3 := (tSet3 2 (tOp3 gMod (tCB3 gInt (tCons3 (tOp3 gAdd (tOp3 gAdd (tOp3 gMul (tVar3 2) (tC3 (.int 48271))) (tOp3 gMod (tVar3 3) (tC3 (.int 2147483549)))) (tC3 (.int 41))) tNil3)) (tC3 (.int 2147483647))))
def rd_law_source : TS3 := (tSeq3 (tSet3 1 (tLcD3 (tSeqI3 (tSl3 gSlL (tVar3 0) tNoP3 (tPart3 (tC3 (.int 63))))) (gName3 3) tYes3 (tCB3 gAbs (tCons3 (tCB3 gInt (tCons3 (tVar3 3) tNil3)) tNil3)) [3])) (tSeq3 (tSet3 2 (tC3 (.int 60917))) (tSeq3 (tFor3 (tSeqI3 (tVar3 1)) (gName3 3) rb_law_source_0) (tRet3 (tLstM3 (tCons3 (tRevM3 (tLcD3 (tSeqI3 (tVar3 1)) (gName3 3) (tB3 (tOp3 gGe (tVar3 3) (tOp3 gPow (tC3 (.int 10)) (tC3 (.int 18))))) (tVar3 3) [3])) (tCons3 (tVar3 2) tNil3)))))))
theorem sem_law_source : ∀ ws S Q E, sp_law_source ws S Q E → rd_law_source (DQ Q) (start3 4 ws E) S := fun ws S Q E ⟨ns, e, hl, hQ⟩ => by
  subst e
  refine ⟨_, rfl, _, rfl, ns.map PyData.int, rfl, _, .inl rfl, ?_, ?_⟩
  · rw [List.length_map]
    have z := cutG_none_len (ns.map PyData.int) (some 63)
    rw [List.length_map] at z
    omega
  rw [cutG_map, mw_ints]
  have hcl := cutG_none_len ns (some 63)
  refine lcGo_map (fun w => match w with | .d (.int i) => .int (if i < 0 then -i else i) | w => w) ?_ ?_
  · intro w hw A a
    obtain ⟨i, hi, rfl⟩ := List.mem_map.mp hw
    exact ⟨_, rfl, i, rfl, i, rfl, a⟩
  · refine ⟨((cutG ns none (some 63)).map fun i => if i < 0 then -i else i).map PyData.int, by rw [List.map_map, List.map_map, List.map_map]; rfl, ?_⟩
    generalize hcs : ((cutG ns none (some 63)).map fun i => if i < 0 then -i else i) = cs
    have hcsl : cs.length ≤ 63 := by rw [← hcs, List.length_map]; omega
    refine ⟨_, rfl, _, .inl rfl, ?_⟩
    refine forGo_inv (fun _ τ S' => S' = S ∧ ∃ m w, τ.sl = [some (.lst (ns.map PyData.int)), some (.lst (cs.map PyData.int)), some (.int m), w]) ⟨rfl, _, _, rfl⟩ ?_ ?_
    · rintro i w ⟨sl, ex⟩ S' hw ⟨rfl, m, w4, e⟩
      subst e
      rw [mw_ints, List.getElem?_map] at hw
      obtain ⟨n, hn, rfl⟩ : ∃ n, cs[i]? = some n ∧ W.int n = w := by
        cases h : cs[i]? with
        | none => rw [h] at hw; cases hw
        | some n => rw [h] at hw; exact ⟨n, rfl, Option.some.inj hw⟩
      exact ⟨_, rfl, _, _, rfl, rfl, .inr ⟨by decide, by decide⟩, _, rfl, _, _, rfl, rfl, (show (0 : Int) < 2147483549 by decide), _, _, rfl, rfl, _, _, rfl, rfl, _, rfl, _, _, rfl, rfl, (show (0 : Int) < 2147483647 by decide), rfl, _, _, rfl⟩
    · rintro ⟨sl, ex⟩ S' ⟨rfl, m, w4, e⟩
      subst e
      refine ⟨_, rfl, _, .inl rfl, by rw [List.length_map, List.length_map]; omega, ?_⟩
      rw [mw_ints]
      refine lcGo_pure (fun w => match w with | .d (.int i) => decide ((10 : Int) ^ (18 : Int).toNat ≤ i) | _ => false) id ?_ ?_ ?_
      · intro w hw A a
        obtain ⟨i, hi, rfl⟩ := List.mem_map.mp hw
        exact ⟨_, rfl, _, _, rfl, rfl, ⟨by decide, by decide, by decide⟩, _, _, rfl, rfl, _, rfl, a⟩
      · intro w hw hp A a
        exact ⟨_, rfl, a⟩
      · have e : ([] ++ ((cs.map W.int).filter fun w => match w with | .d (.int i) => decide ((10 : Int) ^ (18 : Int).toNat ≤ i) | _ => false).map id) = ((cs.filter fun i => decide ((10 : Int) ^ (18 : Int).toNat ≤ i)).map PyData.int).map W.d := by
          rw [List.nil_append, List.map_id, List.filter_map, List.map_map]; rfl
        refine ⟨_, e, _, ⟨_, rfl, rfl⟩, fun p hp => ?_⟩
        generalize hgs : (cs.filter fun i => decide ((10 : Int) ^ (18 : Int).toNat ≤ i)) = gs
        have hgl : gs.length ≤ 63 := by rw [← hgs]; exact Nat.le_trans (List.length_filter_le _ _) hcsl
        refine ⟨_, rfl, (show 2 ≤ 1000 by decide), fun q hq => ⟨_, Sub.refl _, ?_⟩⟩
        have hqp : p ≠ q := by rintro rfl; rw [put_same] at hq; cases hq
        refine hQ q p _ (by rw [← hq, put_ne hqp.symm]) hp ((Upto.put (Upto.refl) (by simp)).put (by simp)) ⟨hqp.symm, ⟨_, put_same⟩, gs.reverse, by rw [List.length_reverse]; exact hgl, ?_⟩
        rw [put_ne hqp, put_same, mw_ints, List.map_reverse]
def rd_law_any : TS3 := (tSeq3 (tWhile3 (tAnd3 (tB3 (tOp3 gNe (tOp3 gIx (tVar3 0) (tC3 (.int 0))) (tLstD3 tNil3))) (tB3 (tOp3 gEq (tOp3 gIx (tOp3 gIx (tVar3 0) (tC3 (.int 0))) (tNeg3 (tC3 (.int 1)))) (tC3 (.int 0))))) (tDrop3 (tBM03 gPop (tOp3 gIx (tVar3 0) (tC3 (.int 0)))))) (tSeq3 (tIf3 (tB3 (tOp3 gNe (tOp3 gIx (tVar3 0) (tC3 (.int 0))) (tLstD3 tNil3))) (tSeq3 (tSet3 2 (tCB3 gInt (tCons3 (tBM03 gPop (tOp3 gIx (tVar3 0) (tC3 (.int 0)))) tNil3))) (tSeq3 (tDrop3 (tBM3 gAppend (tOp3 gIx (tVar3 0) (tC3 (.int 0))) (tCons3 (tOp3 gDiv (tVar3 2) (tVar3 1)) tNil3))) (tRet3 (tOp3 gMod (tVar3 2) (tVar3 1))))) tNext3) (tSeq3 (tAsg3 (tOp3 gMod (tCB3 gInt (tCons3 (tOp3 gAdd (tOp3 gMul (tOp3 gIx (tVar3 0) (tC3 (.int 1))) (tC3 (.int 48271))) (tC3 (.int 41))) tNil3)) (tC3 (.int 2147483647))) (gSub3 (tVar3 0) (tC3 (.int 1)) gSetL)) (tRet3 (tOp3 gMod (tCB3 gInt (tCons3 (tOp3 gDiv (tOp3 gIx (tVar3 0) (tC3 (.int 1))) (tC3 (.int 64))) tNil3)) (tVar3 1))))))
theorem sem_law_any : ∀ ws S Q E, sp_law_any ws S Q E → rd_law_any (DQ Q) (start3 3 ws E) S := fun ws S Q E ⟨dl, d1, b, e, hb, hb2, hD, hQ⟩ => by
  subst e
  refine ⟨fun k τ S' => τ.sl = [some (.r dl), some (.int b), none] ∧ Upto [dl, d1] S S' ∧ Deal S' dl d1 ∧ ∃ ns : List Int, ns.length = k ∧ S' d1 = some (.lst (ns.map W.int)), ?_, ?_⟩
  · obtain ⟨ns, _, h⟩ := hD.low
    exact ⟨_, rfl, Upto.refl, hD, ns, rfl, h⟩
  rintro k ⟨sl, ex⟩ S' ⟨e, u, hD', ns, hk, h1⟩
  subst e
  obtain ⟨ne, ⟨m, ht⟩, ns', hl', h1'⟩ := id hD'
  rw [h1] at h1'
  have hl : ns.length ≤ 63 := by
    have z : ns.map W.int = ns'.map W.int := by injection (Option.some.inj h1')
    have z2 := congrArg List.length z
    rw [List.length_map, List.length_map] at z2
    omega
  have i0 : ixW S' 0 (.r dl) = some (.r d1) := by rw [ixW_r ht]; rfl
  have i1 : ixW S' 1 (.r dl) = some (.int m) := by rw [ixW_r ht]; rfl
  have vw : viewW S' (.r d1) = some (.list (ns.map PyData.int)) := view_lst (by rw [mw_ints]; exact h1)
  refine ⟨_, rfl, _, _, rfl, i0, [], rfl, by decide, .inr ⟨_, _, vw, rfl, shaped_intsL ns, shaped_intsL [], _, rfl, fun hc => ?_, fun hc => ?_⟩⟩
  · rw [eqv_nil] at hc
    have hn : ns ≠ [] := by simpa using hc
    have hpos : 0 < ns.length := List.length_pos_iff.mpr hn
    have hlast : (ns.map W.int)[(ns.map W.int).length - 1]? = some (.int (ns[ns.length - 1])) := by
      rw [List.length_map, List.getElem?_map, List.getElem?_eq_getElem (by omega)]; rfl
    have il : ixW S' (-1) (.r d1) = some (.int (ns[ns.length - 1])) := by rw [ixW_r h1]; exact atI_last hlast
    refine ⟨_, rfl, _, _, rfl, i0, _, rfl, _, _, rfl, il, .inr ⟨_, _, rfl, rfl, rfl, rfl, _, rfl, fun hz => ?_, fun hz => ?_⟩⟩
    · refine ⟨fun τ2 S2 => ∃ m', m' < k ∧ τ2.sl = [some (.r dl), some (.int b), none] ∧ Upto [dl, d1] S S2 ∧ Deal S2 dl d1 ∧ ∃ ns : List Int, ns.length = m' ∧ S2 d1 = some (.lst (ns.map W.int)), fun τ2 S2 h => h, ?_⟩
      refine ⟨_, rfl, _, _, rfl, i0, isLst_r h1, d1, _, _, rfl, rfl, h1, hlast, ns.length - 1, by omega, rfl, u.put (by simp), ⟨ne, ⟨m, by rw [put_ne ne]; exact ht⟩, ns.dropLast, by rw [List.length_dropLast]; omega, by rw [put_same, List.map_dropLast]⟩, ns.dropLast, by rw [List.length_dropLast], by rw [put_same, List.map_dropLast]⟩
    · -- the last is not 0
      refine ⟨_, rfl, _, _, rfl, i0, [], rfl, by decide, .inr ⟨_, _, vw, rfl, shaped_intsL ns, shaped_intsL [], _, rfl, fun _ => ?_, fun hc2 => ?_⟩⟩
      · generalize hx : ns[ns.length - 1] = x at *
        refine ⟨_, rfl, _, _, rfl, i0, isLst_r h1, d1, _, _, rfl, rfl, h1, hlast, x, rfl, ?_⟩
        have h2 : put S' d1 (.lst (ns.map W.int).dropLast) d1 = some (.lst (ns.map W.int).dropLast) := put_same
        have i2 : ixW (put S' d1 (.lst (ns.map W.int).dropLast)) 0 (.r dl) = some (.r d1) := by rw [ixW_r (by rw [put_ne ne]; exact ht)]; rfl
        refine ⟨_, rfl, _, _, rfl, i2, isLst_r h2, _, rfl, _, rfl, _, _, rfl, rfl, ⟨hb, hb2⟩, d1, _, _, rfl, rfl, h2, ?_, ?_⟩
        · rw [List.length_dropLast, List.length_map]; exact Nat.lt_of_le_of_lt (show ns.length - 1 ≤ 63 by omega) (by decide)
        refine ⟨_, rfl, _, rfl, _, _, rfl, rfl, hb, _, Sub.refl _, hQ _ _ (Int.emod_nonneg _ (by omega)) (Int.emod_lt_of_pos _ hb) ((u.put (by simp)).put (by simp)) ⟨ne, ⟨m, by rw [put_ne ne, put_ne ne]; exact ht⟩, ns.dropLast ++ [x / b], ?_, ?_⟩⟩
        · rw [List.length_append, List.length_dropLast, List.length_singleton]; omega
        · rw [put_same, List.map_append, List.map_dropLast]; rfl
      · rw [eqv_nil, hc] at hc2; cases hc2
  · -- nothing is left
    rw [eqv_nil] at hc
    refine ⟨fun z => (nomatch z), fun _ => ?_⟩
    refine ⟨_, rfl, _, _, rfl, i0, [], rfl, by decide, .inr ⟨_, _, vw, rfl, shaped_intsL ns, shaped_intsL [], _, rfl, fun hc2 => ?_, fun _ => ?_⟩⟩
    · rw [eqv_nil, hc] at hc2; cases hc2
    · have t2 : put S' dl (.lst ([W.r d1, W.int m].set 1 (.int ((m * 48271 + 41) % 2147483647)))) dl = some (.lst [.r d1, .int ((m * 48271 + 41) % 2147483647)]) := put_same
      have i2 : ixW (put S' dl (.lst ([W.r d1, W.int m].set 1 (.int ((m * 48271 + 41) % 2147483647))))) 1 (.r dl) = some (.int ((m * 48271 + 41) % 2147483647)) := by rw [ixW_r t2]; rfl
      refine ⟨_, rfl, _, _, rfl, i1, _, _, rfl, rfl, .inr ⟨by decide, by decide⟩, _, _, rfl, rfl, _, rfl, _, _, rfl, rfl, (show (0 : Int) < 2147483647 by decide), _, rfl, dl, _, _, 1, rfl, rfl, ht, rfl, ?_⟩
      exact ⟨_, rfl, _, _, rfl, i2, _, _, rfl, rfl, ⟨by decide, by decide⟩, _, rfl, _, rfl, _, _, rfl, rfl, hb, _, Sub.refl _, hQ _ _ (Int.emod_nonneg _ (by omega)) (Int.emod_lt_of_pos _ hb) (u.put (by simp)) ⟨ne, ⟨_, t2⟩, ns, hl, by rw [put_ne ne.symm]; exact h1⟩⟩

theorem lcGo_mapG {α : Type} {i : Nat} {te : TE3} {τ0 : S3} {S : Sto} {Q : List W → Sto → Prop} (g h : α → W) : ∀ {xs : List α} {acc : List W}, (∀ x ∈ xs, ∀ A : K3, A (h x) S → te (τ0.set i (some (g x))) S A) → Q (acc ++ xs.map h) S → lcGo (gName3 i) tYes3 te τ0 (xs.map g) acc S Q
  | [], acc, _, q => by
    rw [List.map_nil, List.append_nil] at q
    exact q
  | x :: xs, acc, he, q => ⟨fun _ => he x List.mem_cons_self _ (lcGo_mapG g h (fun y hy => he y (List.mem_cons_of_mem _ hy)) (by rw [List.append_assoc]; exact q)), fun e => (nomatch e)⟩
theorem forall_mem_nil {α : Type} {P : α → Prop} : ∀ x ∈ ([] : List α), P x := fun x h => by cases h
theorem forall_mem_cons' {α : Type} {P : α → Prop} {a : α} {l : List α} (h : P a) (t : ∀ x ∈ l, P x) : ∀ x ∈ a :: l, P x := fun x hx => by
  rcases List.mem_cons.mp hx with e | e
  · rw [e]; exact h
  · exact t x e
theorem itemsW_r {S : Sto} {a : Addr} {ds : List PyData} (h : S a = some (.lst (ds.map W.d))) : itemsW S (.r a) = some ds := by
  unfold itemsW; rw [view_lst h]
theorem rgW_at {lo : Int} {n i : Nat} {w : W} (h : (rgW lo n)[i]? = some w) : i < n ∧ w = .int (lo + (i : Nat)) := by
  have hi := (List.getElem?_eq_some_iff.mp h).1
  rw [rgW_len] at hi
  rw [rgW_get hi] at h
  exact ⟨hi, (Option.some.inj h).symm⟩
/-! folds -/
theorem cm_ok {n : Nat} {a b : List Nat} (ha : PmP n a) (hb : PmP n b) : PmP n (cm a b) := jn_ok (jn_ok ha hb) (jn_ok (iv_ok ha) (iv_ok hb))
theorem cm_all_ok {n : Nat} : ∀ {as : List (List Nat)} {f : List Nat}, PmP n f → (∀ a ∈ as, PmP n a) → PmP n (as.foldl cm f)
  | [], _, h, _ => h
  | a :: as, f, h, ha => cm_all_ok (as := as) (cm_ok h (ha a List.mem_cons_self)) fun b hb => ha b (List.mem_cons_of_mem _ hb)
def fd : List (List Nat) → List Nat
  | [] => []
  | a :: as => as.foldl cm a
def sq_fold : Sp3 := fun ws S Q _ => ∃ n w a as, ws = [w] ∧ Tis w ((a :: as).map ti) ∧ n ≤ 1000 ∧ (∀ b ∈ a :: as, PmP n b) ∧ Q (.d (ti (fd (a :: as)))) S
def sp_fold : Sp3 := fun ws S Q E => Bx (sq_fold ws S Q E)
theorem len_fold : ∀ ws S Q E, sp_fold ws S Q E → ws.length = 1 := fun ws S Q E ⟨n, w, a, as, e, _⟩ => by rw [e]; rfl
def rb_fold_0 : TS3 := (tSet3 1 (tCall3 sp_commutator (tCons3 (tVar3 1) (tCons3 (tVar3 2) tNil3))))
def rd_fold : TS3 := (tSeq3 (tSet3 1 (tOp3 gIx (tVar3 0) (tC3 (.int 0)))) (tSeq3 (tFor3 (tSeqI3 (tSl3 gSlB (tVar3 0) (tPart3 (tC3 (.int 1))) tNoP3)) (gName3 2) rb_fold_0) (tRet3 (tVar3 1))))
theorem cutG_tail {α : Type} (x : α) (l : List α) : cutG (x :: l) (some 1) none = l := by
  unfold cutG
  have e1 : HT.sIx (x :: l).length 0 (some 1) = 1 := by
    show (if (1 : Int) < 0 then ((1 : Int) + ((x :: l).length : Int)).toNat else min (1 : Int).toNat (x :: l).length) = 1
    rw [if_neg (by decide), List.length_cons]
    show min 1 (l.length + 1) = 1
    omega
  have e2 : HT.sIx (x :: l).length (x :: l).length none = (x :: l).length := rfl
  rw [e1, e2, List.length_cons]
  show (l.take (l.length + 1 - 1)) = l
  rw [Nat.add_sub_cancel, List.take_length]
theorem ix_head {S : Sto} {w : W} {x : PyData} {ds : List PyData} (h : Tis w (x :: ds)) : ixW S 0 w = some (.d x) := by
  have e : atI ((x :: ds).map W.d) ((0 : Nat) : Int) = some (.d x) := H3.atI_nat rfl
  rcases h with rfl | rfl <;> exact e
theorem sl_tail {S : Sto} {w : W} {x : PyData} {ds : List PyData} {Q : K3} (h : Tis w (x :: ds)) (q : ∀ u, Tis u ds → Q u S) : gSlB w (some 1) none S Q := by
  rcases h with rfl | rfl
  · exact .inr ⟨_, rfl, by rw [cutG_tail]; exact q _ (.inl rfl)⟩
  · exact .inl ⟨_, rfl, by rw [cutG_tail]; exact q _ (.inr rfl)⟩
theorem sem_fold : ∀ ws S Q E, sp_fold ws S Q E → rd_fold (DQ Q) (start3 3 ws E) S := fun ws S Q E ⟨n, w, a, as, e, hw, hn, ha, q⟩ => by
  subst e
  have h0 := ha a List.mem_cons_self
  have h1 : ∀ b ∈ as, PmP n b := fun b hb => ha b (List.mem_cons_of_mem _ hb)
  refine ⟨_, rfl, 0, _, rfl, ix_head hw, _, rfl, 1, rfl, ?_⟩
  refine sl_tail hw fun u hu => ⟨as.map ti, hu, ?_⟩
  refine forGo_inv (fun i τ S' => S' = S ∧ ∃ w2, τ.sl = [some w, some (.d (ti ((as.take i).foldl cm a))), w2]) ⟨rfl, _, rfl⟩ ?_ ?_
  · rintro i x ⟨sl, ex⟩ S' hx ⟨rfl, w2, e⟩
    subst e
    rw [List.map_map] at hx
    obtain ⟨b, hb, rfl⟩ := get_map hx
    have hm := h1 b (List.mem_of_getElem? hb)
    refine ⟨_, rfl, _, rfl, ⟨n, _, b, rfl, cm_all_ok h0 (fun c hc => h1 c (List.mem_of_mem_take hc)), hm, hn, rfl, some (.d (ti b)), ?_⟩⟩
    rw [fold_take cm _ hb]; rfl
  · rintro ⟨sl, ex⟩ S' ⟨rfl, w2, e⟩
    subst e
    rw [List.length_map, List.length_map, List.take_length]
    exact ⟨_, rfl, _, Sub.refl _, q⟩
def sq_folds_joined : Sp3 := fun ws S Q _ => ∃ (n : Nat) (w : W) (rows : List (List (List Nat))) (g : List PyData → PyData), ws = [.int n, w] ∧ (g = .tuple ∨ g = .list) ∧ Tis w (rows.map fun r => g (r.map ti)) ∧ rows.length ≤ 1000 ∧ n ≤ 1000 ∧ (∀ r ∈ rows, r ≠ [] ∧ ∀ a ∈ r, PmP n a) ∧ Q (.d (ti ((rows.map fd).foldl jn (List.range n)))) S
def sp_folds_joined : Sp3 := fun ws S Q E => Bx (sq_folds_joined ws S Q E)
theorem len_folds_joined : ∀ ws S Q E, sp_folds_joined ws S Q E → ws.length = 2 := fun ws S Q E ⟨n, w, a, as, e, _⟩ => by rw [e]; rfl
def rd_folds_joined : TS3 := (tRet3 (tCall3 sp_joined_all (tCons3 (tVar3 0) (tCons3 (tLcD3 (tSeqI3 (tVar3 1)) (gName3 2) tYes3 (tCall3 sp_fold (tCons3 (tVar3 2) tNil3)) [2]) tNil3))))
theorem fd_ok {n : Nat} {r : List (List Nat)} (h : r ≠ []) (ha : ∀ a ∈ r, PmP n a) : PmP n (fd r) := by
  cases r with
  | nil => exact absurd rfl h
  | cons a as => exact cm_all_ok (ha a List.mem_cons_self) fun b hb => ha b (List.mem_cons_of_mem _ hb)
theorem sem_folds_joined : ∀ ws S Q E, sp_folds_joined ws S Q E → rd_folds_joined (DQ Q) (start3 3 ws E) S := fun ws S Q E ⟨n, w, rows, g, e, hg, hw, hl, hn, hr, q⟩ => by
  subst e
  refine ⟨_, rfl, _, rfl, _, hw, by rw [List.length_map, List.length_map]; omega, ?_⟩
  rw [List.map_map]
  refine lcGo_mapG _ (fun r => W.d (ti (fd r))) (fun r h A k => ?_) ?_
  · obtain ⟨h1, h2⟩ := hr r h
    cases r with
    | nil => exact absurd rfl h1
    | cons a as =>
      refine ⟨_, rfl, ⟨n, _, a, as, rfl, ?_, hn, h2, k⟩⟩
      rcases hg with rfl | rfl
      · exact .inr rfl
      · exact .inl rfl
  · refine ⟨(rows.map fd).map ti, by rw [List.nil_append, List.map_map, List.map_map]; rfl, ⟨n, _, rows.map fd, rfl, .inl rfl, hn, fun a ha => ?_, _, Sub.refl _, q⟩⟩
    obtain ⟨r, h, rfl⟩ := List.mem_map.mp ha
    exact fd_ok (hr r h).1 (hr r h).2
/-! the law's own -/
def sp_law_join : Sp3 := fun ws S Q E => Bx (sq_joined ws S Q E)
theorem len_law_join : ∀ ws S Q E, sp_law_join ws S Q E → ws.length = 2 := len_joined
def rd_law_join : TS3 := (tRet3 (tCB3 gTuple (tCons3 (tLcD3 (tSeqI3 (tVar3 0)) (gName3 2) tYes3 (tOp3 gIx (tVar3 1) (tVar3 2)) [2]) tNil3)))
theorem sem_law_join : ∀ ws S Q E, sp_law_join ws S Q E → rd_law_join (DQ Q) (start3 3 ws E) S := sem_joined
def sq_law_back : Sp3 := fun ws S Q _ => ∃ n a, ws = [.d (ti a)] ∧ PmP n a ∧ n ≤ 1000 ∧ Q (.d (ti (iv a))) S
def sp_law_back : Sp3 := fun ws S Q E => Bx (sq_law_back ws S Q E)
theorem len_law_back : ∀ ws S Q E, sp_law_back ws S Q E → ws.length = 1 := fun ws S Q E ⟨n, a, e, _⟩ => by rw [e]; rfl
def rb_law_back_0 : TS3 := (tAsg3 (tVar3 2) (gSub3 (tVar3 1) (tOp3 gIx (tVar3 0) (tVar3 2)) gSetL))
def rd_law_back : TS3 := (tSeq3 (tSet3 1 (tOp3 gRepM (tLstM3 (tCons3 (tC3 (.int 0)) tNil3)) (tCB3 gLen (tCons3 (tVar3 0) tNil3)))) (tSeq3 (tFor3 (tRgI1 (tCons3 (tCB3 gLen (tCons3 (tVar3 0) tNil3)) tNil3)) (gName3 2) rb_law_back_0) (tRet3 (tCB3 gTuple (tCons3 (tVar3 1) tNil3)))))
abbrev wn (fs : List Nat) : List W := fs.map fun k => W.int (k : Nat)
theorem rep_zero : ∀ n : Nat, (List.replicate n [W.int 0]).flatten = wn (List.replicate n 0)
  | 0 => rfl
  | n + 1 => by
    rw [List.replicate_succ, List.flatten_cons, rep_zero n]; rfl
theorem sem_law_back : ∀ ws S Q E, sp_law_back ws S Q E → rd_law_back (DQ Q) (start3 3 ws E) S := fun ws S Q E ⟨n, a, e, ha, hn, q⟩ => by
  subst e
  have hal := ha.1
  refine ⟨by decide, fun p0 h0 => ⟨_, rfl, _, _, rfl, len_ti, p0, _, _, rfl, rfl, put_same, by omega, by omega, ?_, fun p1 h1 => ?_⟩⟩
  · show 1 * ((a.length : Nat) : Int).toNat ≤ sizeLine
    rw [hal, sizeLine_eq]; omega
  have h01 : p1 ≠ p0 := by rintro rfl; rw [put_same] at h1; cases h1
  have hS1 : S p1 = none := by rw [put_ne h01] at h1; exact h1
  refine ⟨_, rfl, _, _, rfl, len_ti, _, rfl, ⟨by omega, by omega⟩, ?_⟩
  rw [show ((a.length : Nat) : Int).toNat = n by omega, rep_zero]
  have K1 : Kp [] S (put (put S p0 (.lst [W.int 0])) p1 (.lst (wn (List.replicate n 0)))) := (Kp.refl.new h0).wr hS1
  refine forGo_inv (fun i τ S' => (∃ w2, τ.sl = [some (.d (ti a)), some (.r p1), w2]) ∧ Kp [] S S' ∧ ∃ fs : List Nat, fs.length = n ∧ S' p1 = some (.lst (wn fs)) ∧ ∀ j, j < i → fs[a.getD j 0]? = some j) ⟨⟨_, rfl⟩, K1, List.replicate n 0, List.length_replicate, put_same, fun j hj => absurd hj (Nat.not_lt_zero _)⟩ ?_ ?_
  · rintro i w ⟨sl, ex⟩ S' hw ⟨⟨w2, e⟩, hk, fs, hf, hs, hj⟩
    subst e
    obtain ⟨hi, rfl⟩ := rgW_at hw
    rw [Int.zero_add]
    have hi' : i < a.length := by omega
    have hy : a.getD i 0 < n := by rw [getD_lt hi']; exact ha.2.2 _ (List.getElem_mem hi')
    refine ⟨_, rfl, _, rfl, _, rfl, _, rfl, _, _, rfl, ix_ti hi', p1, _, _, a.getD i 0, rfl, rfl, hs, ?_, ⟨_, rfl⟩, hk.wr hS1, fs.set (a.getD i 0) i, ?_, ?_, fun j hj2 => ?_⟩
    · unfold ixN
      rw [if_pos (by omega), if_pos (by rw [List.length_map, hf]; omega)]
      congr 1
    · rw [List.length_set, hf]
    · rw [put_same, wn, wn, List.map_set]
    · by_cases h : j = i
      · subst h
        rw [List.getElem?_set_self (by rw [hf]; exact hy)]
      · have hji : j < i := by omega
        have hne : a.getD i 0 ≠ a.getD j 0 := fun q => by
          rw [getD_lt hi', getD_lt (show j < a.length by omega)] at q
          exact h ((List.getElem_inj ha.2.1).mp q).symm
        rw [List.getElem?_set_ne hne]
        exact hj j hji
  · rintro ⟨sl, ex⟩ S' ⟨⟨w2, e⟩, hk, fs, hf, hs, hj⟩
    subst e
    rw [rgW_len] at hj
    have e1 : fs = iv a := by
      apply List.ext_getElem?
      intro k
      by_cases hkn : k < n
      · have hm := ha.mem hkn
        have hx := List.idxOf_lt_length_of_mem hm
        have e2 := hj (a.idxOf k) (by omega)
        rw [getD_lt hx, List.getElem_idxOf hx] at e2
        have e3 := iv_getD (a := a) (k := k) (by omega)
        have e4 : k < (iv a).length := by rw [(iv_ok ha).1]; exact hkn
        rw [getD_lt e4] at e3
        rw [e2, List.getElem?_eq_getElem e4, e3]
      · rw [List.getElem?_eq_none (by omega), List.getElem?_eq_none (by rw [(iv_ok ha).1]; omega)]
    subst e1
    exact ⟨_, rfl, _, _, rfl, itemsW_r (ds := (ci (iv a)).map PyData.int) (by rw [mw_ti]; exact hs), S, hk.sub, q⟩
/-! draws of turnings -/
def sq_law_shuffled : Sp3 := fun ws S Q _ => ∃ (dl d1 : Addr) (n : Nat), ws = [.r dl, .int n] ∧ n ≤ 1000 ∧ Deal S dl d1 ∧ ∀ a S', PmP n a → Upto [dl, d1] S S' → Deal S' dl d1 → Q (.d (ti a)) S'
def sp_law_shuffled : Sp3 := fun ws S Q E => Bx (sq_law_shuffled ws S Q E)
theorem len_law_shuffled : ∀ ws S Q E, sp_law_shuffled ws S Q E → ws.length = 2 := fun ws S Q E ⟨n, a, b, e, _⟩ => by rw [e]; rfl
def rb_law_shuffled_0 : TS3 := (tDrop3 (tBM3 gAppend (tVar3 4) (tCons3 (tBM3 gPopAt (tVar3 3) (tCons3 (tCall3 sp_law_any (tCons3 (tVar3 0) (tCons3 (tCB3 gLen (tCons3 (tVar3 3) tNil3)) tNil3))) tNil3)) tNil3)))
def rd_law_shuffled : TS3 := (tSeq3 (tPar3 3 4 (tCons3 (tLstRgM3 (tRg13 (tVar3 1))) (tCons3 (tLstM3 tNil3) tNil3))) (tSeq3 (tFor3 (tRgI1 (tCons3 (tVar3 1) tNil3)) (gName3 2) rb_law_shuffled_0) (tRet3 (tCB3 gTuple (tCons3 (tVar3 4) tNil3)))))
theorem eraseIdx_map' {α β : Type} (f : α → β) : ∀ (l : List α) (i : Nat), (l.map f).eraseIdx i = (l.eraseIdx i).map f
  | [], _ => by simp
  | _ :: _, 0 => rfl
  | x :: l, i + 1 => by
    show f x :: (l.map f).eraseIdx i = f x :: (l.eraseIdx i).map f
    rw [eraseIdx_map' f l i]
theorem perm_erase {α : Type} : ∀ {l : List α} {i : Nat} (h : i < l.length), (l[i] :: l.eraseIdx i).Perm l
  | x :: l, 0, _ => .refl _
  | x :: l, i + 1, h => ((List.Perm.swap _ _ _).trans (List.Perm.cons x (perm_erase (l := l) (i := i) (by simpa using h))))
theorem pm_of_perm {n : Nat} {a : List Nat} (h : a.Perm (List.range n)) : PmP n a := ⟨by rw [h.length_eq, List.length_range], h.symm.nodup List.nodup_range, fun x hx => List.mem_range.mp (h.mem_iff.mp hx)⟩
theorem rg_wn {n : Nat} : (rgD 0 (n : Int)).map W.d = wn (List.range n) := by rw [rgD_ti, mw_ti]
theorem sem_law_shuffled : ∀ ws S Q E, sp_law_shuffled ws S Q E → rd_law_shuffled (DQ Q) (start3 5 ws E) S := fun ws S Q E ⟨dl, d1, n, e, hn, hD, hQ⟩ => by
  subst e
  refine ⟨_, rfl, _, rfl, RgOk.of_le (by decide) (by omega) (by decide) (by omega), fun l hl => ⟨by decide, fun r hr => ⟨_, _, rfl, ?_⟩⟩⟩
  rw [rg_wn] at hr ⊢
  have hlr : r ≠ l := by rintro rfl; rw [put_same] at hr; cases hr
  have hr1 : S r = none := by rw [← hr, put_ne hlr]
  obtain ⟨l1, l2⟩ := hD.free hl
  obtain ⟨r1, r2⟩ := hD.free hr1
  refine ⟨_, rfl, n, rfl, ⟨by omega, by omega⟩, ?_⟩
  rw [show ((n : Nat) : Int).toNat = n by omega]
  refine forGo_inv (fun i τ S' => (∃ w2, τ.sl = [some (.r dl), some (.int n), w2, some (.r l), some (.r r)]) ∧ Deal S' dl d1 ∧ Kp [dl, d1] S S' ∧ ∃ ls rs : List Nat, S' l = some (.lst (wn ls)) ∧ S' r = some (.lst (wn rs)) ∧ rs.length = i ∧ (rs ++ ls).Perm (List.range n)) ?_ ?_ ?_
  · exact ⟨⟨_, rfl⟩, (hD.other l1 l2).other r1 r2, (Kp.refl.wr hl).wr hr1, List.range n, [], by rw [put_ne hlr.symm, put_same], put_same, rfl, .refl _⟩
  · rintro i w ⟨sl, ex⟩ S2 hw ⟨⟨w5, e⟩, hD2, k2, ls, rs, e1, e2, l4, pm⟩
    subst e
    obtain ⟨hi, rfl⟩ := rgW_at hw
    have hls : i + ls.length = n := by
      have := pm.length_eq
      rw [List.length_append, List.length_range] at this
      omega
    refine ⟨_, rfl, isLst_r e2, _, rfl, isLst_r e1, _, rfl, _, rfl, _, _, rfl, lenW_r e1, law_any_lt hD2 (by rw [List.length_map]; omega) (by rw [List.length_map]; omega) fun j S3 j0 j1 u3 hD3 => ?_⟩
    have e1' : S3 l = some (.lst (wn ls)) := by rw [u3 l (by simp [l1, l2])]; exact e1
    have e2' : S3 r = some (.lst (wn rs)) := by rw [u3 r (by simp [r1, r2])]; exact e2
    rw [List.length_map] at j1
    have hj : j.toNat < ls.length := by omega
    refine ⟨l, _, j.toNat, .int (ls[j.toNat] : Nat), rfl, by rw [show ((j.toNat : Nat) : Int) = j by omega], e1', by rw [List.getElem?_map, List.getElem?_eq_getElem hj]; rfl, by omega, r, wn rs, _, rfl, rfl, by rw [put_ne hlr]; exact e2', ?_, ⟨_, rfl⟩, (hD3.other l1 l2).other r1 r2, ((k2.trans u3.kp).wr hl).wr hr1, ls.eraseIdx j.toNat, rs ++ [ls[j.toNat]], ?_, ?_, ?_, ?_⟩
    · rw [List.length_map, l4]; exact Nat.lt_of_le_of_lt (show i ≤ 1000 by omega) (by decide)
    · rw [put_ne hlr.symm, put_same, wn, eraseIdx_map']
    · rw [put_same, wn, wn, List.map_append]; rfl
    · rw [List.length_append, List.length_singleton, l4]
    · rw [List.append_assoc]
      exact (List.Perm.append_left rs (perm_erase hj)).trans pm
  · rintro ⟨sl, ex⟩ S2 ⟨⟨w5, e⟩, hD2, k2, ls, rs, e1, e2, l4, pm⟩
    subst e
    rw [rgW_len] at l4
    have hls : ls = [] := by
      have := pm.length_eq
      rw [List.length_append, List.length_range] at this
      exact List.eq_nil_of_length_eq_zero (by omega)
    subst hls
    rw [List.append_nil] at pm
    exact ⟨_, rfl, _, _, rfl, itemsW_r (ds := (ci rs).map PyData.int) (by rw [mw_ti]; exact e2), two dl d1 S S2, two_sub k2, hQ rs _ (pm_of_perm pm) two_upto (two_deal hD2)⟩

/-! closures -/
def sq_law_made : Sp3 := fun ws S Q _ => ∃ (n : Nat) (as : List (List Nat)), ws = [.lst (as.map ti), .int n] ∧ 1 ≤ n ∧ n ≤ 100 ∧ as.length ≤ 3 ∧ (∀ a ∈ as, PmP n a) ∧ ∀ gs : List (List Nat), gs ≠ [] → gs.length ≤ 1000 → (∀ a ∈ gs, PmP n a) → Q (.lst (gs.map ti)) S
def sp_law_made : Sp3 := fun ws S Q E => Bx (sq_law_made ws S Q E)
theorem len_law_made : ∀ ws S Q E, sp_law_made ws S Q E → ws.length = 2 := fun ws S Q E ⟨n, a, e, _⟩ => by rw [e]; rfl
def rb_law_made_0 : TS3 := (tSeq3 (tSet3 5 (tCall3 sp_law_join (tCons3 (tOp3 gIx (tVar3 2) (tVar3 3)) (tCons3 (tVar3 4) tNil3)))) (tIf3 (tB3 (tOp3 (gIn true) (tVar3 5) (tVar3 2))) (tDrop3 (tBM3 gAppend (tVar3 2) (tCons3 (tVar3 5) tNil3))) tNext3))
def rb_law_made_1 : TS3 := (tSeq3 (tIf3 (tB3 (tOp3 gEq (tVar3 3) (tCB3 gLen (tCons3 (tVar3 2) tNil3)))) tBreak3 tNext3) (tFor3 (tSeqI3 (tVar3 0)) (gName3 4) rb_law_made_0))
def rd_law_made : TS3 := (tSeq3 (tSet3 2 (tLstM3 (tCons3 (tTupRg3 (tRg13 (tVar3 1))) tNil3))) (tSeq3 (tFor3 (tRgI1 (tCons3 (tC3 (.int 130)) tNil3)) (gName3 3) rb_law_made_1) (tRet3 (tCB3 gSorted (tCons3 (tVar3 2) tNil3)))))
theorem alike_tis {a b : List Nat} : PySem.W.alike (ti a) (ti b) = true := by
  have e : PySem.W.alike (ti a) (ti b) = PySem.W.alikeAll ((ci a).map PyData.int) ((ci b).map PyData.int) := by unfold ti; rw [PySem.W.alike]
  rw [e]; exact PySem.W.alike_ints _ _
theorem depth_ti {a : List Nat} : (ti a).depth = 1 := by
  show PyData.depthAll ((ci a).map PyData.int) + 1 = 1
  rw [depthAll_flat]
theorem gs_of {P : List Nat → Prop} : ∀ {ds : List PyData}, (∀ d ∈ ds, ∃ a, P a ∧ d = ti a) → ∃ gs : List (List Nat), ds = gs.map ti ∧ ∀ a ∈ gs, P a
  | [], _ => ⟨[], rfl, fun a h => by cases h⟩
  | d :: ds, h => by
    obtain ⟨a, ha, e⟩ := h d List.mem_cons_self
    obtain ⟨gs, e2, hg⟩ := gs_of fun x hx => h x (List.mem_cons_of_mem _ hx)
    refine ⟨a :: gs, by rw [e, e2]; rfl, fun b hb => ?_⟩
    rcases List.mem_cons.mp hb with q | q
    · rw [q]; exact ha
    · exact hg b q
theorem sorted_tis {n : Nat} {u : W} {S : Sto} {Q : K3} {gs : List (List Nat)} (hv : viewW S u = some (.list (gs.map ti))) (hn : 1 ≤ n) (h0 : gs ≠ []) (hl : gs.length ≤ 1000) (hg : ∀ a ∈ gs, PmP n a)
    (q : ∀ gs : List (List Nat), gs ≠ [] → gs.length ≤ 1000 → (∀ a ∈ gs, PmP n a) → Q (.lst (gs.map ti)) S) : gSorted [u] S Q := by
  refine ⟨u, _, rfl, hv, ?_, .inl fun d hd => ?_, ?_, fun d hd => ?_, ?_⟩
  · intro d hd d' hd'
    obtain ⟨a, _, rfl⟩ := List.mem_map.mp hd
    obtain ⟨b, _, rfl⟩ := List.mem_map.mp hd'
    exact alike_tis
  · obtain ⟨a, ha, rfl⟩ := List.mem_map.mp hd
    have h1 := (hg a ha).1
    cases a with
    | nil => simp at h1; omega
    | cons x a => exact ⟨_, _, rfl⟩
  · rw [List.length_map, sizeLine_eq]; omega
  · obtain ⟨a, ha, rfl⟩ := List.mem_map.mp hd
    rw [depth_ti]; omega
  · have pm := List.mergeSort_perm (gs.map ti) (PySem.W.dataLe false id)
    obtain ⟨hs, e, hh⟩ := gs_of (P := PmP n) (ds := (gs.map ti).mergeSort (PySem.W.dataLe false id)) fun d hd => by
      obtain ⟨a, ha, rfl⟩ := List.mem_map.mp (pm.mem_iff.mp hd)
      exact ⟨a, hg a ha, rfl⟩
    have hlen := pm.length_eq
    rw [e, List.length_map, List.length_map] at hlen
    rw [e]
    refine q hs (fun z => ?_) (by omega) hh
    subst z
    exact h0 (List.eq_nil_of_length_eq_zero (by simpa using hlen.symm))
theorem any_ti {gs : List (List Nat)} {a : List Nat} : True := trivial
theorem sem_law_made : ∀ ws S Q E, sp_law_made ws S Q E → rd_law_made (DQ Q) (start3 6 ws E) S := fun ws S Q E ⟨n, as, e, hn1, hn, hl, ha, hQ⟩ => by
  subst e
  refine ⟨_, rfl, n, rfl, RgOk.of_le (by decide) (by omega) (by decide) (by omega), (show 1 ≤ 1000 by decide), fun p hp => ?_⟩
  refine ⟨130, rfl, ⟨by decide, by decide⟩, ?_⟩
  have ep : put S p (.lst [W.tup (rgD 0 (n : Int))]) p = some (.lst (([List.range n].map ti).map W.d)) := by
    rw [put_same, rgD_ti]; rfl
  have K1 : Kp [] S (put S p (.lst [W.tup (rgD 0 (n : Int))])) := Kp.refl.new hp
  refine forGo_inv (fun i τ S' => (∃ w3 w4 w5, τ.sl = [some (.lst (as.map ti)), some (.int n), some (.r p), w3, w4, w5]) ∧ Kp [] S S' ∧ ∃ gs : List (List Nat), S' p = some (.lst ((gs.map ti).map W.d)) ∧ gs ≠ [] ∧ i ≤ gs.length ∧ gs.length ≤ 1 + 3 * i ∧ ∀ a ∈ gs, PmP n a) ⟨⟨_, _, _, rfl⟩, K1, [List.range n], ep, by simp, Nat.zero_le _, Nat.le_refl _, fun a h => by cases List.mem_singleton.mp h; exact hm_ok⟩ ?_ ?_
  · rintro i w ⟨sl, ex⟩ S1 hw ⟨⟨w3, w4, w5, e⟩, k1, gs, eg, hg0, hig, hgl, hg⟩
    subst e
    obtain ⟨hi, rfl⟩ := rgW_at hw
    have hi : i < 130 := hi
    rw [Int.zero_add]
    have fin : ∀ (gs : List (List Nat)) S', Kp [] S S' → S' p = some (.lst ((gs.map ti).map W.d)) → gs ≠ [] → gs.length ≤ 1000 → (∀ a ∈ gs, PmP n a) → gSorted [.r p] S' fun w S'' => ∃ S2, Sub S2 S'' ∧ Q w S2 := fun gs S' k eg h0 hl hg =>
      sorted_tis (view_lst eg) hn1 h0 hl hg fun gs a b c => ⟨S, k.sub, hQ gs a b c⟩
    refine ⟨_, rfl, _, rfl, _, _, rfl, lenW_r eg, .inr ⟨_, _, rfl, rfl, rfl, rfl, _, rfl, fun c => ?_, fun c => ?_⟩⟩
    · exact ⟨_, rfl, fin gs S1 k1 eg hg0 (by omega) hg⟩
    · rw [eqv_int, List.length_map, List.length_map] at c
      have hlt : i < gs.length := by have := of_decide_eq_false c; omega
      refine ⟨_, rfl, _, .inl rfl, ?_⟩
      rw [List.map_map]
      refine forGo_inv (fun j τ S' => (∃ w4 w5, τ.sl = [some (.lst (as.map ti)), some (.int n), some (.r p), some (.int i), w4, w5]) ∧ Kp [] S S' ∧ ∃ gs : List (List Nat), S' p = some (.lst ((gs.map ti).map W.d)) ∧ gs ≠ [] ∧ i < gs.length ∧ gs.length ≤ 1 + 3 * i + j ∧ ∀ a ∈ gs, PmP n a) ⟨⟨_, _, rfl⟩, k1, gs, eg, hg0, hlt, by omega, hg⟩ ?_ ?_
      · rintro j w ⟨sl, ex⟩ S2 hw ⟨⟨w4, w5, e⟩, k2, gs, eg, hg0, hlt, hgl, hg⟩
        subst e
        obtain ⟨b, hb, rfl⟩ := get_map hw
        have hbm := ha b (List.mem_of_getElem? hb)
        have hja : j < as.length := (List.getElem?_eq_some_iff.mp hb).1
        have hgi := hg gs[i] (List.getElem_mem hlt)
        have ei : ixW S2 (i : Int) (.r p) = some (.d (ti gs[i])) := by
          rw [ixW_r eg]
          exact H3.atI_nat (by rw [List.getElem?_map, List.getElem?_map, List.getElem?_eq_getElem hlt]; rfl)
        refine ⟨_, rfl, _, rfl, _, _, rfl, ei, _, rfl, join_P hgi hbm (by omega) ?_⟩
        refine ⟨_, rfl, _, rfl, _, _, rfl, itemsW_r eg, shaped_ti _, canLayAll_map _ lay_ti _, _, rfl, fun c => ?_, fun c => ?_⟩
        · refine ⟨_, rfl, isLst_r eg, _, rfl, p, _, _, rfl, rfl, eg, ?_, ⟨_, _, rfl⟩, k2.wr hp, gs ++ [jn gs[i] b], ?_, by simp, ?_, ?_, ?_⟩
          · rw [List.length_map, List.length_map, sizeLine_eq]; omega
          · rw [put_same, List.map_append, List.map_append]; rfl
          · rw [List.length_append]; omega
          · simp only [List.length_append, List.length_singleton]; omega
          · intro a h
            cases List.mem_append.mp h with
            | inl h => exact hg a h
            | inr h => cases List.mem_singleton.mp h; exact jn_ok hgi hbm
        · exact ⟨⟨_, _, rfl⟩, k2, gs, eg, hg0, hlt, by omega, hg⟩
      · rintro ⟨sl, ex⟩ S2 ⟨⟨w4, w5, e⟩, k2, gs, eg, hg0, hlt, hgl, hg⟩
        subst e
        rw [List.length_map] at hgl
        exact ⟨⟨_, _, _, rfl⟩, k2, gs, eg, hg0, by omega, by omega, hg⟩
  · rintro ⟨sl, ex⟩ S1 ⟨⟨w3, w4, w5, e⟩, k1, gs, eg, hg0, hig, hgl, hg⟩
    subst e
    have hgl : gs.length ≤ 1 + 3 * 130 := by rw [rgW_len] at hgl; exact hgl
    exact ⟨_, rfl, sorted_tis (view_lst eg) hn1 hg0 (by omega) hg fun gs a b c => ⟨S, k1.sub, hQ gs a b c⟩⟩
/-! turnings to draw of -/
def sq_law_turnings : Sp3 := fun ws S Q _ => ∃ (dl d1 : Addr), ws = [.r dl] ∧ Deal S dl d1 ∧ ∀ (n : Nat) (as : List (List Nat)) S', 1 ≤ n → n ≤ 8 → as ≠ [] → as.length ≤ 3 → (∀ a ∈ as, PmP n a) → Upto [dl, d1] S S' → Deal S' dl d1 → Q (.lst (as.map ti)) S'
def sp_law_turnings : Sp3 := fun ws S Q E => Bx (sq_law_turnings ws S Q E)
theorem len_law_turnings : ∀ ws S Q E, sp_law_turnings ws S Q E → ws.length = 1 := fun ws S Q E ⟨n, a, e, _⟩ => by rw [e]; rfl
def rd_law_turnings : TS3 := (tSeq3 (tSet3 1 (tLstD3 (tCons3 (tLstD3 (tCons3 (tTup3 (tCons3 (tC3 (.int 1)) (tCons3 (tC3 (.int 2)) (tCons3 (tC3 (.int 3)) (tCons3 (tC3 (.int 4)) (tCons3 (tC3 (.int 5)) (tCons3 (tC3 (.int 6)) (tCons3 (tC3 (.int 7)) (tCons3 (tC3 (.int 0)) tNil3))))))))) (tCons3 (tTup3 (tCons3 (tC3 (.int 0)) (tCons3 (tC3 (.int 7)) (tCons3 (tC3 (.int 6)) (tCons3 (tC3 (.int 5)) (tCons3 (tC3 (.int 4)) (tCons3 (tC3 (.int 3)) (tCons3 (tC3 (.int 2)) (tCons3 (tC3 (.int 1)) tNil3))))))))) tNil3))) (tCons3 (tLstD3 (tCons3 (tTup3 (tCons3 (tC3 (.int 1)) (tCons3 (tC3 (.int 2)) (tCons3 (tC3 (.int 3)) (tCons3 (tC3 (.int 0)) (tCons3 (tC3 (.int 7)) (tCons3 (tC3 (.int 4)) (tCons3 (tC3 (.int 5)) (tCons3 (tC3 (.int 6)) tNil3))))))))) (tCons3 (tTup3 (tCons3 (tC3 (.int 4)) (tCons3 (tC3 (.int 5)) (tCons3 (tC3 (.int 6)) (tCons3 (tC3 (.int 7)) (tCons3 (tC3 (.int 2)) (tCons3 (tC3 (.int 3)) (tCons3 (tC3 (.int 0)) (tCons3 (tC3 (.int 1)) tNil3))))))))) tNil3))) (tCons3 (tLstD3 (tCons3 (tTup3 (tCons3 (tC3 (.int 1)) (tCons3 (tC3 (.int 2)) (tCons3 (tC3 (.int 3)) (tCons3 (tC3 (.int 4)) (tCons3 (tC3 (.int 0)) tNil3)))))) (tCons3 (tTup3 (tCons3 (tC3 (.int 0)) (tCons3 (tC3 (.int 4)) (tCons3 (tC3 (.int 3)) (tCons3 (tC3 (.int 2)) (tCons3 (tC3 (.int 1)) tNil3)))))) tNil3))) (tCons3 (tLstD3 (tCons3 (tTup3 (tCons3 (tC3 (.int 1)) (tCons3 (tC3 (.int 2)) (tCons3 (tC3 (.int 3)) (tCons3 (tC3 (.int 4)) (tCons3 (tC3 (.int 0)) tNil3)))))) (tCons3 (tTup3 (tCons3 (tC3 (.int 0)) (tCons3 (tC3 (.int 2)) (tCons3 (tC3 (.int 4)) (tCons3 (tC3 (.int 1)) (tCons3 (tC3 (.int 3)) tNil3)))))) tNil3))) (tCons3 (tLstD3 (tCons3 (tTup3 (tCons3 (tC3 (.int 1)) (tCons3 (tC3 (.int 2)) (tCons3 (tC3 (.int 3)) (tCons3 (tC3 (.int 4)) (tCons3 (tC3 (.int 5)) (tCons3 (tC3 (.int 0)) tNil3))))))) (tCons3 (tTup3 (tCons3 (tC3 (.int 0)) (tCons3 (tC3 (.int 5)) (tCons3 (tC3 (.int 4)) (tCons3 (tC3 (.int 3)) (tCons3 (tC3 (.int 2)) (tCons3 (tC3 (.int 1)) tNil3))))))) tNil3))) (tCons3 (tLstD3 (tCons3 (tTup3 (tCons3 (tC3 (.int 1)) (tCons3 (tC3 (.int 2)) (tCons3 (tC3 (.int 3)) (tCons3 (tC3 (.int 4)) (tCons3 (tC3 (.int 5)) (tCons3 (tC3 (.int 6)) (tCons3 (tC3 (.int 0)) tNil3)))))))) (tCons3 (tTup3 (tCons3 (tC3 (.int 0)) (tCons3 (tC3 (.int 2)) (tCons3 (tC3 (.int 4)) (tCons3 (tC3 (.int 6)) (tCons3 (tC3 (.int 1)) (tCons3 (tC3 (.int 3)) (tCons3 (tC3 (.int 5)) tNil3)))))))) tNil3))) (tCons3 (tLstD3 (tCons3 (tTup3 (tCons3 (tC3 (.int 1)) (tCons3 (tC3 (.int 2)) (tCons3 (tC3 (.int 0)) (tCons3 (tC3 (.int 3)) (tCons3 (tC3 (.int 4)) tNil3)))))) (tCons3 (tTup3 (tCons3 (tC3 (.int 1)) (tCons3 (tC3 (.int 0)) (tCons3 (tC3 (.int 2)) (tCons3 (tC3 (.int 3)) (tCons3 (tC3 (.int 4)) tNil3)))))) (tCons3 (tTup3 (tCons3 (tC3 (.int 0)) (tCons3 (tC3 (.int 1)) (tCons3 (tC3 (.int 2)) (tCons3 (tC3 (.int 4)) (tCons3 (tC3 (.int 3)) tNil3)))))) tNil3)))) (tCons3 (tLstD3 (tCons3 (tTup3 (tCons3 (tC3 (.int 1)) (tCons3 (tC3 (.int 2)) (tCons3 (tC3 (.int 3)) (tCons3 (tC3 (.int 0)) (tCons3 (tC3 (.int 4)) (tCons3 (tC3 (.int 5)) tNil3))))))) (tCons3 (tTup3 (tCons3 (tC3 (.int 0)) (tCons3 (tC3 (.int 3)) (tCons3 (tC3 (.int 2)) (tCons3 (tC3 (.int 1)) (tCons3 (tC3 (.int 4)) (tCons3 (tC3 (.int 5)) tNil3))))))) (tCons3 (tTup3 (tCons3 (tC3 (.int 0)) (tCons3 (tC3 (.int 1)) (tCons3 (tC3 (.int 2)) (tCons3 (tC3 (.int 3)) (tCons3 (tC3 (.int 5)) (tCons3 (tC3 (.int 4)) tNil3))))))) tNil3)))) tNil3)))))))))) (tSeq3 (tIf3 (tB3 (tOp3 gEq (tCall3 sp_law_any (tCons3 (tVar3 0) (tCons3 (tC3 (.int 2)) tNil3))) (tC3 (.int 0)))) (tSeq3 (tSet3 4 (tCall3 sp_law_of (tCons3 (tVar3 0) (tCons3 (tLstD3 (tCons3 (tC3 (.int 1)) (tCons3 (tC3 (.int 2)) (tCons3 (tC3 (.int 3)) (tCons3 (tC3 (.int 3)) (tCons3 (tC3 (.int 4)) (tCons3 (tC3 (.int 4)) (tCons3 (tC3 (.int 4)) tNil3)))))))) tNil3)))) (tRet3 (tLcD3 (tRgI1 (tCons3 (tOp3 gAdd (tC3 (.int 1)) (tCall3 sp_law_any (tCons3 (tVar3 0) (tCons3 (tC3 (.int 3)) tNil3)))) tNil3)) (gName3 6) tYes3 (tCall3 sp_law_shuffled (tCons3 (tVar3 0) (tCons3 (tVar3 4) tNil3))) [6]))) tNext3) (tSeq3 (tSet3 2 (tCall3 sp_law_of (tCons3 (tVar3 0) (tCons3 (tVar3 1) tNil3)))) (tSeq3 (tSet3 3 (tCall3 sp_law_shuffled (tCons3 (tVar3 0) (tCons3 (tCB3 gLen (tCons3 (tOp3 gIx (tVar3 2) (tC3 (.int 0))) tNil3)) tNil3)))) (tSeq3 (tSet3 2 (tLcM3 (tSeqI3 (tVar3 2)) (gName3 5) tYes3 (tCall3 sp_law_join (tCons3 (tCall3 sp_law_join (tCons3 (tCall3 sp_law_back (tCons3 (tVar3 3) tNil3)) (tCons3 (tVar3 5) tNil3))) (tCons3 (tVar3 3) tNil3))) [5])) (tSeq3 (tIf3 (tB3 (tOp3 gEq (tCall3 sp_law_any (tCons3 (tVar3 0) (tCons3 (tC3 (.int 3)) tNil3))) (tC3 (.int 0)))) (tAsg3 (tCall3 sp_law_join (tCons3 (tOp3 gIx (tVar3 2) (tC3 (.int 1))) (tCons3 (tOp3 gIx (tVar3 2) (tC3 (.int 0))) tNil3))) (gSub3 (tVar3 2) (tC3 (.int 0)) gSetL)) tNext3) (tFrz3 2 (tRet3 (tIfE3 (tB3 (tOp3 gEq (tCall3 sp_law_any (tCons3 (tVar3 0) (tCons3 (tC3 (.int 2)) tNil3))) (tC3 (.int 0)))) (tRev3 (tVar3 2)) (tVar3 2))))))))))
theorem lcGo_drawn {β : Type} {i m : Nat} {te : TE3} {τ0 : S3} {S : Sto} {Q : List W → Sto → Prop} {dl d1 : Addr} {f : β → W} {P : β → Prop} (me : ∀ τ S (A B : K3), (∀ w S, A w S → B w S) → te τ S A → te τ S B) (hD : Deal S dl d1)
    (hs : ∀ S' (w : W) (A : K3), Deal S' dl d1 → (∀ b S2, P b → Upto [dl, d1] S' S2 → Deal S2 dl d1 → A (f b) S2) → te (τ0.set i (some w)) S' A)
    (hd : ∀ (bs : List β) S', bs.length = m → (∀ b ∈ bs, P b) → Upto [dl, d1] S S' → Deal S' dl d1 → Q (bs.map f) S') : lcGo (gName3 i) tYes3 te τ0 (rgW 0 m) [] S Q := by
  refine lcGo_inv (fun k acc S' => Deal S' dl d1 ∧ Upto [dl, d1] S S' ∧ ∃ bs : List β, acc = bs.map f ∧ bs.length = k ∧ ∀ b ∈ bs, P b) ⟨hD, Upto.refl, [], rfl, rfl, fun n hn => by cases hn⟩ ?_ (fun w τ S A B h q => h _ _ q) (fun τ S A B h q => h _ _ q) me ?_
  · rintro k w acc S3 hw ⟨hD3, u3, bs, rfl, l3, b3⟩
    refine ⟨fun _ => hs S3 w _ hD3 fun b S4 hb u4 hD4 => ⟨hD4, u3.trans u4, bs ++ [b], by rw [List.map_append]; rfl, by rw [List.length_append, l3]; rfl, fun x hx => ?_⟩, fun h => (nomatch h)⟩
    rcases List.mem_append.mp hx with h | h
    · exact b3 x h
    · cases List.mem_singleton.mp h; exact hb
  · rintro acc S3 ⟨hD3, u3, bs, rfl, l3, b3⟩
    rw [rgW_len] at l3
    exact hd bs S3 l3 b3 u3 hD3
theorem mono_shuffled {ws : List W} {S : Sto} {A B : K3} {E E' : X3} (m : ∀ w S, A w S → B w S) : sp_law_shuffled ws S A E → sp_law_shuffled ws S B E' := fun ⟨dl, d1, n, e, h1, h2, q⟩ => ⟨dl, d1, n, e, h1, h2, fun a S' x y z => m _ _ (q a S' x y z)⟩
theorem mono_law_of {ws : List W} {S : Sto} {A B : K3} {E E' : X3} (m : ∀ w S, A w S → B w S) : sp_law_of ws S A E → sp_law_of ws S B E' := fun ⟨dl, d1, w, n, e, h1, h2, h3, h4, q⟩ => ⟨dl, d1, w, n, e, h1, h2, h3, h4, fun i S' x y z u => let ⟨v, e, h⟩ := q i S' x y z u; ⟨v, e, m _ _ h⟩⟩
theorem sem_law_turnings : ∀ ws S Q E, sp_law_turnings ws S Q E → rd_law_turnings (DQ Q) (start3 7 ws E) S := fun ws S Q E ⟨dl, d1, e, hD, hQ⟩ => by
  subst e
  refine ⟨[.int 1, .int 2, .int 3, .int 4, .int 5, .int 6, .int 7, .int 0], rfl, (by decide), [.int 0, .int 7, .int 6, .int 5, .int 4, .int 3, .int 2, .int 1], rfl, (by decide), [.tuple [.int 1, .int 2, .int 3, .int 4, .int 5, .int 6, .int 7, .int 0], .tuple [.int 0, .int 7, .int 6, .int 5, .int 4, .int 3, .int 2, .int 1]], rfl, (by decide), [.int 1, .int 2, .int 3, .int 0, .int 7, .int 4, .int 5, .int 6], rfl, (by decide), [.int 4, .int 5, .int 6, .int 7, .int 2, .int 3, .int 0, .int 1], rfl, (by decide), [.tuple [.int 1, .int 2, .int 3, .int 0, .int 7, .int 4, .int 5, .int 6], .tuple [.int 4, .int 5, .int 6, .int 7, .int 2, .int 3, .int 0, .int 1]], rfl, (by decide), [.int 1, .int 2, .int 3, .int 4, .int 0], rfl, (by decide), [.int 0, .int 4, .int 3, .int 2, .int 1], rfl, (by decide), [.tuple [.int 1, .int 2, .int 3, .int 4, .int 0], .tuple [.int 0, .int 4, .int 3, .int 2, .int 1]], rfl, (by decide), [.int 1, .int 2, .int 3, .int 4, .int 0], rfl, (by decide), [.int 0, .int 2, .int 4, .int 1, .int 3], rfl, (by decide), [.tuple [.int 1, .int 2, .int 3, .int 4, .int 0], .tuple [.int 0, .int 2, .int 4, .int 1, .int 3]], rfl, (by decide), [.int 1, .int 2, .int 3, .int 4, .int 5, .int 0], rfl, (by decide), [.int 0, .int 5, .int 4, .int 3, .int 2, .int 1], rfl, (by decide), [.tuple [.int 1, .int 2, .int 3, .int 4, .int 5, .int 0], .tuple [.int 0, .int 5, .int 4, .int 3, .int 2, .int 1]], rfl, (by decide), [.int 1, .int 2, .int 3, .int 4, .int 5, .int 6, .int 0], rfl, (by decide), [.int 0, .int 2, .int 4, .int 6, .int 1, .int 3, .int 5], rfl, (by decide), [.tuple [.int 1, .int 2, .int 3, .int 4, .int 5, .int 6, .int 0], .tuple [.int 0, .int 2, .int 4, .int 6, .int 1, .int 3, .int 5]], rfl, (by decide), [.int 1, .int 2, .int 0, .int 3, .int 4], rfl, (by decide), [.int 1, .int 0, .int 2, .int 3, .int 4], rfl, (by decide), [.int 0, .int 1, .int 2, .int 4, .int 3], rfl, (by decide), [.tuple [.int 1, .int 2, .int 0, .int 3, .int 4], .tuple [.int 1, .int 0, .int 2, .int 3, .int 4], .tuple [.int 0, .int 1, .int 2, .int 4, .int 3]], rfl, (by decide), [.int 1, .int 2, .int 3, .int 0, .int 4, .int 5], rfl, (by decide), [.int 0, .int 3, .int 2, .int 1, .int 4, .int 5], rfl, (by decide), [.int 0, .int 1, .int 2, .int 3, .int 5, .int 4], rfl, (by decide), [.tuple [.int 1, .int 2, .int 3, .int 0, .int 4, .int 5], .tuple [.int 0, .int 3, .int 2, .int 1, .int 4, .int 5], .tuple [.int 0, .int 1, .int 2, .int 3, .int 5, .int 4]], rfl, (by decide), [.list [.tuple [.int 1, .int 2, .int 3, .int 4, .int 5, .int 6, .int 7, .int 0], .tuple [.int 0, .int 7, .int 6, .int 5, .int 4, .int 3, .int 2, .int 1]], .list [.tuple [.int 1, .int 2, .int 3, .int 0, .int 7, .int 4, .int 5, .int 6], .tuple [.int 4, .int 5, .int 6, .int 7, .int 2, .int 3, .int 0, .int 1]], .list [.tuple [.int 1, .int 2, .int 3, .int 4, .int 0], .tuple [.int 0, .int 4, .int 3, .int 2, .int 1]], .list [.tuple [.int 1, .int 2, .int 3, .int 4, .int 0], .tuple [.int 0, .int 2, .int 4, .int 1, .int 3]], .list [.tuple [.int 1, .int 2, .int 3, .int 4, .int 5, .int 0], .tuple [.int 0, .int 5, .int 4, .int 3, .int 2, .int 1]], .list [.tuple [.int 1, .int 2, .int 3, .int 4, .int 5, .int 6, .int 0], .tuple [.int 0, .int 2, .int 4, .int 6, .int 1, .int 3, .int 5]], .list [.tuple [.int 1, .int 2, .int 0, .int 3, .int 4], .tuple [.int 1, .int 0, .int 2, .int 3, .int 4], .tuple [.int 0, .int 1, .int 2, .int 4, .int 3]], .list [.tuple [.int 1, .int 2, .int 3, .int 0, .int 4, .int 5], .tuple [.int 0, .int 3, .int 2, .int 1, .int 4, .int 5], .tuple [.int 0, .int 1, .int 2, .int 3, .int 5, .int 4]]], rfl, (by decide), ?_⟩
  refine ⟨_, rfl, law_any_lt hD (by decide) (by decide) fun r0 S1 _ _ u1 hD1 => .inr ⟨_, _, rfl, rfl, rfl, rfl, _, rfl, fun c1 => ?_, fun c1 => ?_⟩⟩
  · refine ⟨_, rfl, [.int 1, .int 2, .int 3, .int 3, .int 4, .int 4, .int 4], rfl, (show 7 ≤ 1000 by decide), law_of_list hD1 (by simp) (show 7 < 2 ^ 60 by decide) fun d hd S2 u2 hD2 => ?_⟩
    obtain ⟨n, rfl, n1, n2⟩ : ∃ n : Nat, d = .int n ∧ 1 ≤ n ∧ n ≤ 8 := by
      revert d
      exact forall_mem_cons' ⟨1, rfl, by decide, by decide⟩ (forall_mem_cons' ⟨2, rfl, by decide, by decide⟩ (forall_mem_cons' ⟨3, rfl, by decide, by decide⟩ (forall_mem_cons' ⟨3, rfl, by decide, by decide⟩ (forall_mem_cons' ⟨4, rfl, by decide, by decide⟩ (forall_mem_cons' ⟨4, rfl, by decide, by decide⟩ (forall_mem_cons' ⟨4, rfl, by decide, by decide⟩ forall_mem_nil))))))
    refine ⟨_, rfl, law_any_lt hD2 (by decide) (by decide) fun r S3 r0 r1 u3 hD3 => ⟨_, _, rfl, rfl, _, rfl, ⟨by omega, by omega⟩, by rw [rgW_len]; omega, ?_⟩⟩
    have r1 : r < 3 := r1
    refine lcGo_drawn (f := fun a => W.d (ti a)) (P := PmP n) (dl := dl) (d1 := d1) (fun τ S A B h ⟨w1, e1, w2, e2, q⟩ => ⟨w1, e1, w2, e2, mono_shuffled h q⟩) hD3 (fun S' w A hD' k => ⟨_, rfl, _, rfl, ⟨dl, d1, n, rfl, by omega, hD', k⟩⟩) ?_
    intro as S4 hl hp u4 hD4
    exact ⟨as.map ti, by rw [List.map_map]; rfl, _, Sub.refl _, hQ n as S4 n1 n2 (fun z => by subst z; simp at hl; omega) (by omega) hp (u1.trans (u2.trans (u3.trans u4))) hD4⟩
  · refine ⟨_, rfl, _, rfl, law_of_list hD1 (by simp) (show 8 < 2 ^ 60 by decide) fun d hd S2 u2 hD2 => ?_⟩
    obtain ⟨n, as, rfl, n1, n2, l2, l3, ha⟩ : ∃ (n : Nat) (as : List (List Nat)), d = .list (as.map ti) ∧ 1 ≤ n ∧ n ≤ 8 ∧ 2 ≤ as.length ∧ as.length ≤ 3 ∧ ∀ a ∈ as, PmP n a := by
      revert d
      exact (forall_mem_cons' ⟨8, [[1, 2, 3, 4, 5, 6, 7, 0], [0, 7, 6, 5, 4, 3, 2, 1]], rfl, by decide, by decide, by decide, by decide, by decide⟩ (forall_mem_cons' ⟨8, [[1, 2, 3, 0, 7, 4, 5, 6], [4, 5, 6, 7, 2, 3, 0, 1]], rfl, by decide, by decide, by decide, by decide, by decide⟩ (forall_mem_cons' ⟨5, [[1, 2, 3, 4, 0], [0, 4, 3, 2, 1]], rfl, by decide, by decide, by decide, by decide, by decide⟩ (forall_mem_cons' ⟨5, [[1, 2, 3, 4, 0], [0, 2, 4, 1, 3]], rfl, by decide, by decide, by decide, by decide, by decide⟩ (forall_mem_cons' ⟨6, [[1, 2, 3, 4, 5, 0], [0, 5, 4, 3, 2, 1]], rfl, by decide, by decide, by decide, by decide, by decide⟩ (forall_mem_cons' ⟨7, [[1, 2, 3, 4, 5, 6, 0], [0, 2, 4, 6, 1, 3, 5]], rfl, by decide, by decide, by decide, by decide, by decide⟩ (forall_mem_cons' ⟨5, [[1, 2, 0, 3, 4], [1, 0, 2, 3, 4], [0, 1, 2, 4, 3]], rfl, by decide, by decide, by decide, by decide, by decide⟩ (forall_mem_cons' ⟨6, [[1, 2, 3, 0, 4, 5], [0, 3, 2, 1, 4, 5], [0, 1, 2, 3, 5, 4]], rfl, by decide, by decide, by decide, by decide, by decide⟩ forall_mem_nil))))))))
    obtain ⟨a0, a1, at', rfl⟩ : ∃ a0 a1 t, as = a0 :: a1 :: t := by
      match as, l2 with
      | a0 :: a1 :: t, _ => exact ⟨a0, a1, t, rfl⟩
    have h0 := ha a0 List.mem_cons_self
    refine ⟨_, rfl, _, rfl, _, _, rfl, ix_head (.inl rfl), _, _, rfl, len_ti, ⟨dl, d1, n, by rw [h0.1], by omega, hD2, fun by' S3 hb u3 hD3 => ?_⟩⟩
    refine ⟨_, rfl, _, .inl rfl, by rw [List.length_map, List.length_map]; omega, ?_⟩
    rw [List.map_map]
    refine lcGo_mapG _ (fun a => W.d (ti (jn (jn (iv by') a) by'))) (fun a h A k => ?_) fun p hp => ?_
    · have hA := ha a h
      exact ⟨_, rfl, ⟨n, by', rfl, hb, by omega, _, rfl, join_P (iv_ok hb) hA (by omega) ⟨_, rfl, join_P (jn_ok (iv_ok hb) hA) hb (by omega) k⟩⟩⟩
    rw [List.nil_append]
    have ep : put S3 p (.lst ((a0 :: a1 :: at').map fun a => W.d (ti (jn (jn (iv by') a) by')))) p = some (.lst ((((a0 :: a1 :: at').map fun a => jn (jn (iv by') a) by').map ti).map W.d)) := by
      rw [put_same, List.map_map, List.map_map]; rfl
    have hbs : ∀ b ∈ (a0 :: a1 :: at').map fun a => jn (jn (iv by') a) by', PmP n b := fun b hb2 => by
      obtain ⟨a, h, rfl⟩ := List.mem_map.mp hb2
      exact jn_ok (jn_ok (iv_ok hb) (ha a h)) hb
    have hbl : ((a0 :: a1 :: at').map fun a => jn (jn (iv by') a) by').length ≤ 3 := by rw [List.length_map]; exact l3
    obtain ⟨p1, p2⟩ := hD3.free hp
    have hDp : Deal (put S3 p (.lst ((a0 :: a1 :: at').map fun a => W.d (ti (jn (jn (iv by') a) by'))))) dl d1 := hD3.other p1 p2
    have u123 := u1.trans (u2.trans u3)
    have hpS : S p = none := by rw [← u123 p (by simp [p1, p2])]; exact hp
    have kp : Kp [dl, d1] S (put S3 p (.lst ((a0 :: a1 :: at').map fun a => W.d (ti (jn (jn (iv by') a) by'))))) := u123.kp.wr hpS
    have hb2 : 2 ≤ ((a0 :: a1 :: at').map fun a => jn (jn (iv by') a) by').length := by rw [List.length_map]; exact l2
    generalize put S3 p (.lst ((a0 :: a1 :: at').map fun a => W.d (ti (jn (jn (iv by') a) by')))) = S4 at ep hDp kp ⊢
    generalize (a0 :: a1 :: at').map (fun a => jn (jn (iv by') a) by') = bs at ep hbs hbl hb2
    obtain ⟨b0, b1, t, rfl⟩ : ∃ b0 b1 t, bs = b0 :: b1 :: t := by
      match bs, hb2 with
      | b0 :: b1 :: t, _ => exact ⟨b0, b1, t, rfl⟩
    have fin : ∀ (cs : List (List Nat)) (S' : Sto) (x1 x3 x4 x5 x6 : Option W) (ex : XS), S' p = some (.lst ((cs.map ti).map W.d)) → cs ≠ [] → cs.length ≤ 3 → (∀ c ∈ cs, PmP n c) → Kp [dl, d1] S S' → Deal S' dl d1 →
        tFrz3 2 (tRet3 (tIfE3 (tB3 (tOp3 gEq (tCall3 sp_law_any (tCons3 (tVar3 0) (tCons3 (tC3 (.int 2)) tNil3))) (tC3 (.int 0)))) (tRev3 (tVar3 2)) (tVar3 2))) (DQ Q) ⟨[some (.r dl), x1, some (.r p), x3, x4, x5, x6], ex⟩ S' := fun cs S' x1 x3 x4 x5 x6 ex e h0 hl hc k hD' => by
      refine ⟨p, _, rfl, e, _, rfl, law_any_lt (hD'.drp p1 p2) (by decide) (by decide) fun r S6 _ _ u6 hD6 => .inr ⟨_, _, rfl, rfl, rfl, rfl, _, rfl, fun c => ?_, fun c => ?_⟩⟩
      · refine ⟨_, rfl, _, rfl, two dl d1 S S6, two_sub ((k.drp hpS).trans u6.kp), ?_⟩
        rw [← List.map_reverse]
        exact hQ n cs.reverse _ n1 n2 (by simpa using h0) (by rw [List.length_reverse]; exact hl) (fun c hc' => hc c (List.mem_reverse.mp hc')) two_upto (two_deal hD6)
      · exact ⟨_, rfl, two dl d1 S S6, two_sub ((k.drp hpS).trans u6.kp), hQ n cs _ n1 n2 h0 hl hc two_upto (two_deal hD6)⟩
    refine ⟨_, rfl, law_any_lt hDp (by decide) (by decide) fun r S5 _ _ u5 hD5 => .inr ⟨_, _, rfl, rfl, rfl, rfl, _, rfl, fun c => ?_, fun c => ?_⟩⟩
    · have e5 : S5 p = some (.lst (((b0 :: b1 :: t).map ti).map W.d)) := by rw [u5 p (by simp [p1, p2])]; exact ep
      have i0 : ixW S5 0 (.r p) = some (.d (ti b0)) := by rw [ixW_r e5]; exact H3.atI_nat (i := 0) rfl
      have i1 : ixW S5 1 (.r p) = some (.d (ti b1)) := by rw [ixW_r e5]; exact H3.atI_nat (i := 1) rfl
      have q0 := hbs b0 (by simp)
      have q1 := hbs b1 (by simp)
      refine ⟨_, rfl, _, _, rfl, i1, _, rfl, _, _, rfl, i0, join_P q1 q0 (by omega) ⟨_, rfl, p, _, _, 0, rfl, rfl, e5, ?_, ?_⟩⟩
      · unfold ixN
        rw [if_pos (by decide), if_pos (by simp only [List.length_map, List.length_cons]; omega)]; rfl
      · refine fin (jn b1 b0 :: b1 :: t) _ _ _ _ _ _ _ (by rw [put_same]; rfl) (by simp) hbl (fun c hc => ?_) ((kp.trans u5.kp).wr hpS) (hD5.other p1 p2)
        rcases List.mem_cons.mp hc with h | h
        · rw [h]; exact jn_ok q1 q0
        · exact hbs c (List.mem_cons_of_mem _ h)
    · exact fin (b0 :: b1 :: t) _ _ _ _ _ _ _ (by rw [u5 p (by simp [p1, p2])]; exact ep) (by simp) hbl hbs (kp.trans u5.kp) hD5
/-! all joined, folds -/
def sq_law_all : Sp3 := fun ws S Q _ => ∃ (n : Nat) (as : List (List Nat)), ws = [.lst (as.map ti), .int n] ∧ n ≤ 1000 ∧ (∀ a ∈ as, PmP n a) ∧ Q (.d (ti (as.foldl jn (List.range n)))) S
def sp_law_all : Sp3 := fun ws S Q E => Bx (sq_law_all ws S Q E)
theorem len_law_all : ∀ ws S Q E, sp_law_all ws S Q E → ws.length = 2 := fun ws S Q E ⟨n, a, e, _⟩ => by rw [e]; rfl
def rb_law_all_0 : TS3 := (tSet3 2 (tCall3 sp_law_join (tCons3 (tVar3 2) (tCons3 (tVar3 3) tNil3))))
def rd_law_all : TS3 := (tSeq3 (tSet3 2 (tTupRg3 (tRg13 (tVar3 1)))) (tSeq3 (tFor3 (tSeqI3 (tVar3 0)) (gName3 3) rb_law_all_0) (tRet3 (tVar3 2))))
theorem sem_law_all : ∀ ws S Q E, sp_law_all ws S Q E → rd_law_all (DQ Q) (start3 4 ws E) S := fun ws S Q E ⟨n, as, e, hn, ha, q⟩ => by
  subst e
  refine ⟨_, rfl, n, rfl, RgOk.of_le (by decide) (by omega) (by decide) (by omega), ?_⟩
  rw [rgD_ti]
  refine ⟨_, rfl, as.map ti, .inl rfl, ?_⟩
  refine forGo_inv (fun i τ S' => S' = S ∧ ∃ w4, τ.sl = [some (.lst (as.map ti)), some (.int n), some (.d (ti ((as.take i).foldl jn (List.range n)))), w4]) ⟨rfl, _, rfl⟩ ?_ ?_
  · rintro i x ⟨sl, ex⟩ S' hx ⟨rfl, w4, e⟩
    subst e
    rw [List.map_map] at hx
    obtain ⟨a, h1, rfl⟩ := get_map hx
    have hm := List.mem_of_getElem? h1
    refine ⟨_, rfl, _, rfl, join_P (jn_all_ok hm_ok fun b hb => ha b (List.mem_of_mem_take hb)) (ha a hm) hn ⟨rfl, some (.d (ti a)), ?_⟩⟩
    rw [fold_take jn _ h1]; rfl
  · rintro ⟨sl, ex⟩ S' ⟨rfl, w4, e⟩
    subst e
    rw [List.length_map, List.length_map, List.take_length]
    exact ⟨_, rfl, _, Sub.refl _, q⟩
def sq_law_fold : Sp3 := fun ws S Q _ => ∃ n a as, ws = [.lst ((a :: as).map ti)] ∧ n ≤ 1000 ∧ (∀ b ∈ a :: as, PmP n b) ∧ Q (.d (ti (fd (a :: as)))) S
def sp_law_fold : Sp3 := fun ws S Q E => Bx (sq_law_fold ws S Q E)
theorem len_law_fold : ∀ ws S Q E, sp_law_fold ws S Q E → ws.length = 1 := fun ws S Q E ⟨n, a, as, e, _⟩ => by rw [e]; rfl
def rb_law_fold_0 : TS3 := (tSet3 1 (tCall3 sp_law_all (tCons3 (tLstD3 (tCons3 (tVar3 1) (tCons3 (tVar3 2) (tCons3 (tCall3 sp_law_back (tCons3 (tVar3 1) tNil3)) (tCons3 (tCall3 sp_law_back (tCons3 (tVar3 2) tNil3)) tNil3))))) (tCons3 (tCB3 gLen (tCons3 (tVar3 2) tNil3)) tNil3))))
def rd_law_fold : TS3 := (tSeq3 (tSet3 1 (tOp3 gIx (tVar3 0) (tC3 (.int 0)))) (tSeq3 (tFor3 (tSeqI3 (tSl3 gSlL (tVar3 0) (tPart3 (tC3 (.int 1))) tNoP3)) (gName3 2) rb_law_fold_0) (tRet3 (tVar3 1))))
theorem cm_four {n : Nat} {a b : List Nat} (ha : PmP n a) (hb : PmP n b) : [a, b, iv a, iv b].foldl jn (List.range n) = cm a b := by
  show jn (jn (jn (jn (List.range n) a) b) (iv a)) (iv b) = jn (jn a b) (jn (iv a) (iv b))
  rw [hm_jn ha.1, jn_assoc (a := jn a b)]
  intro x hx
  rw [(iv_ok ha).1]
  exact (jn_ok ha hb).2.2 x hx
theorem four_ok {n : Nat} {a b : List Nat} (ha : PmP n a) (hb : PmP n b) : ∀ x ∈ [a, b, iv a, iv b], PmP n x := forall_mem_cons' ha (forall_mem_cons' hb (forall_mem_cons' (iv_ok ha) (forall_mem_cons' (iv_ok hb) forall_mem_nil)))
theorem sem_law_fold : ∀ ws S Q E, sp_law_fold ws S Q E → rd_law_fold (DQ Q) (start3 3 ws E) S := fun ws S Q E ⟨n, a, as, e, hn, ha, q⟩ => by
  subst e
  have h0 := ha a List.mem_cons_self
  have h1 : ∀ b ∈ as, PmP n b := fun b hb => ha b (List.mem_cons_of_mem _ hb)
  refine ⟨_, rfl, 0, _, rfl, ix_head (.inl rfl), _, rfl, 1, rfl, _, rfl, as.map ti, .inl ?_, ?_⟩
  · show W.lst (cutG (ti a :: as.map ti) (some 1) none) = _
    rw [cutG_tail]
  refine forGo_inv (fun i τ S' => S' = S ∧ ∃ w2, τ.sl = [some (.lst ((a :: as).map ti)), some (.d (ti ((as.take i).foldl cm a))), w2]) ⟨rfl, _, rfl⟩ ?_ ?_
  · rintro i x ⟨sl, ex⟩ S' hx ⟨rfl, w2, e⟩
    subst e
    rw [List.map_map] at hx
    obtain ⟨b, hb, rfl⟩ := get_map hx
    have hm := h1 b (List.mem_of_getElem? hb)
    have hf := cm_all_ok h0 (as := as.take i) (fun c hc => h1 c (List.mem_of_mem_take hc))
    refine ⟨_, rfl, _, rfl, _, rfl, ⟨n, _, rfl, hf, hn, _, rfl, ⟨n, b, rfl, hm, hn, ?_⟩⟩⟩
    refine ⟨[(as.take i).foldl cm a, b, iv ((as.take i).foldl cm a), iv b].map ti, rfl, (show 4 ≤ 1000 by decide), _, rfl, _, _, rfl, len_ti, ⟨n, _, by rw [hm.1], hn, four_ok hf hm, ?_⟩⟩
    rw [cm_four hf hm, fold_take cm _ hb]
    exact ⟨rfl, some (.d (ti b)), rfl⟩
  · rintro ⟨sl, ex⟩ S' ⟨rfl, w2, e⟩
    subst e
    rw [List.length_map, List.length_map, List.take_length]
    exact ⟨_, rfl, _, Sub.refl _, q⟩
/-! rows -/
def sq_law_row : Sp3 := fun ws S Q _ => ∃ (dl d1 : Addr) (n : Nat) (gs : List (List Nat)), ws = [.r dl, .lst (gs.map ti)] ∧ n ≤ 100 ∧ gs ≠ [] ∧ gs.length ≤ 1000 ∧ (∀ a ∈ gs, PmP n a) ∧ Deal S dl d1 ∧ ∀ r S', r ≠ [] → r.length ≤ 8 → (∀ a ∈ r, PmP n a) → Upto [dl, d1] S S' → Deal S' dl d1 → Q (.lst (r.map ti)) S'
def sp_law_row : Sp3 := fun ws S Q E => Bx (sq_law_row ws S Q E)
theorem len_law_row : ∀ ws S Q E, sp_law_row ws S Q E → ws.length = 2 := fun ws S Q E ⟨n, a, as, b, e, _⟩ => by rw [e]; rfl
def rd_law_row : TS3 := (tSeq3 (tSet3 2 (tLcM3 (tRgI1 (tCons3 (tOp3 gAdd (tC3 (.int 1)) (tCall3 sp_law_any (tCons3 (tVar3 0) (tCons3 (tCall3 sp_law_of (tCons3 (tVar3 0) (tCons3 (tLstD3 (tCons3 (tC3 (.int 5)) (tCons3 (tC3 (.int 5)) (tCons3 (tC3 (.int 8)) tNil3)))) tNil3))) tNil3)))) tNil3)) (gName3 3) tYes3 (tCall3 sp_law_of (tCons3 (tVar3 0) (tCons3 (tVar3 1) tNil3))) [3])) (tSeq3 (tIf3 (tB3 (tOp3 gEq (tCall3 sp_law_any (tCons3 (tVar3 0) (tCons3 (tC3 (.int 3)) tNil3))) (tC3 (.int 0)))) (tAsg3 (tTupRg3 (tRg13 (tCB3 gLen (tCons3 (tOp3 gIx (tVar3 2) (tC3 (.int 0))) tNil3)))) (gSub3 (tVar3 2) (tCall3 sp_law_any (tCons3 (tVar3 0) (tCons3 (tCB3 gLen (tCons3 (tVar3 2) tNil3)) tNil3))) gSetL)) tNext3) (tSeq3 (tIf3 (tB3 (tOp3 gEq (tCall3 sp_law_any (tCons3 (tVar3 0) (tCons3 (tC3 (.int 3)) tNil3))) (tC3 (.int 0)))) (tSet3 2 (tOp3 gCatM (tSl3 gSlM (tVar3 2) tNoP3 (tPart3 (tC3 (.int 7)))) (tLstM3 (tCons3 (tOp3 gIx (tVar3 2) (tC3 (.int 0))) tNil3)))) tNext3) (tFrz3 2 (tRet3 (tVar3 2))))))
theorem law_of_tis {dl d1 : Addr} {n : Nat} {gs : List (List Nat)} {S : Sto} {Q : K3} {E : X3} (hD : Deal S dl d1) (h0 : gs ≠ []) (hl : gs.length ≤ 1000) (hg : ∀ a ∈ gs, PmP n a) (q : ∀ a S', PmP n a → Upto [dl, d1] S S' → Deal S' dl d1 → Q (.d (ti a)) S') : sp_law_of [.r dl, .lst (gs.map ti)] S Q E :=
  law_of_list hD (by simpa using h0) (by rw [List.length_map]; exact Nat.lt_of_le_of_lt hl (by decide)) fun d hd S' u hD' => by
    obtain ⟨a, ha, rfl⟩ := List.mem_map.mp hd
    exact q a S' (hg a ha) u hD'
theorem sem_law_row : ∀ ws S Q E, sp_law_row ws S Q E → rd_law_row (DQ Q) (start3 4 ws E) S := fun ws S Q E ⟨dl, d1, n, gs, e, hn, hg0, hgl, hg, hD, hQ⟩ => by
  subst e
  refine ⟨_, rfl, _, rfl, [.int 5, .int 5, .int 8], rfl, (show 3 ≤ 1000 by decide), law_of_list hD (by simp) (show 3 < 2 ^ 60 by decide) fun d hd S1 u1 hD1 => ?_⟩
  obtain ⟨b, rfl, b1, b2⟩ : ∃ b : Int, d = .int b ∧ 1 ≤ b ∧ b ≤ 8 := by
    revert d
    exact forall_mem_cons' ⟨5, rfl, by decide, by decide⟩ (forall_mem_cons' ⟨5, rfl, by decide, by decide⟩ (forall_mem_cons' ⟨8, rfl, by decide, by decide⟩ forall_mem_nil))
  refine law_any_lt hD1 (by omega) (by omega) fun r S2 r0 r1 u2 hD2 => ⟨_, _, rfl, rfl, _, rfl, ⟨by omega, by omega⟩, by rw [rgW_len]; omega, ?_⟩
  refine lcGo_drawn (f := fun a => W.d (ti a)) (P := PmP n) (dl := dl) (d1 := d1) (fun τ S A B h ⟨w1, e1, w2, e2, q⟩ => ⟨w1, e1, w2, e2, mono_law_of h q⟩) hD2 (fun S' w A hD' k => ⟨_, rfl, _, rfl, law_of_tis hD' hg0 hgl hg k⟩) ?_
  intro rs S3 hl hp u3 hD3 p hp3
  obtain ⟨p1, p2⟩ := hD3.free hp3
  have u123 := u1.trans (u2.trans u3)
  have hpS : S p = none := by rw [← u123 p (by simp [p1, p2])]; exact hp3
  have ep : put S3 p (.lst (rs.map fun a => W.d (ti a))) p = some (.lst ((rs.map ti).map W.d)) := by
    rw [put_same, List.map_map]; rfl
  have kp : Kp [dl, d1] S (put S3 p (.lst (rs.map fun a => W.d (ti a)))) := u123.kp.wr hpS
  have hDp : Deal (put S3 p (.lst (rs.map fun a => W.d (ti a)))) dl d1 := hD3.other p1 p2
  generalize put S3 p (.lst (rs.map fun a => W.d (ti a))) = S4 at ep kp hDp ⊢
  have hrs0 : rs ≠ [] := fun z => by subst z; simp at hl; omega
  have hrs8 : rs.length ≤ 8 := by omega
  -- the second half
  have half : ∀ (rs : List (List Nat)) (S' : Sto) (w3 : Option W) (ex : XS), rs ≠ [] → rs.length ≤ 8 → (∀ a ∈ rs, PmP n a) → S' p = some (.lst ((rs.map ti).map W.d)) → Kp [dl, d1] S S' → Deal S' dl d1 →
      tSeq3 (tIf3 (tB3 (tOp3 gEq (tCall3 sp_law_any (tCons3 (tVar3 0) (tCons3 (tC3 (.int 3)) tNil3))) (tC3 (.int 0)))) (tSet3 2 (tOp3 gCatM (tSl3 gSlM (tVar3 2) tNoP3 (tPart3 (tC3 (.int 7)))) (tLstM3 (tCons3 (tOp3 gIx (tVar3 2) (tC3 (.int 0))) tNil3)))) tNext3) (tFrz3 2 (tRet3 (tVar3 2)))
        (DQ Q) ⟨[some (.r dl), some (.lst (gs.map ti)), some (.r p), w3], ex⟩ S' := fun rs S' w3 ex h0 h8 hp e k hD' => by
    refine ⟨_, rfl, law_any_lt hD' (by decide) (by decide) fun r S5 _ _ u5 hD5 => .inr ⟨_, _, rfl, rfl, rfl, rfl, _, rfl, fun c => ?_, fun c => ?_⟩⟩
    · have e5 : S5 p = some (.lst ((rs.map ti).map W.d)) := by rw [u5 p (by simp [p1, p2])]; exact e
      obtain ⟨x, t, rfl⟩ : ∃ x t, rs = x :: t := by
        match rs, h0 with
        | x :: t, _ => exact ⟨x, t, rfl⟩
      refine ⟨_, rfl, 7, rfl, _, view_lst e5, fun q1 h1 => ?_⟩
      have n1 : q1 ≠ p := by rintro rfl; rw [e5] at h1; cases h1
      have e6 : put S5 q1 (.lst ((cutG ((x :: t).map ti) none (some 7)).map W.d)) p = some (.lst (((x :: t).map ti).map W.d)) := by rw [put_ne n1.symm]; exact e5
      refine ⟨_, rfl, 0, _, rfl, by rw [ixW_r e6]; exact H3.atI_nat (i := 0) rfl, (show 1 ≤ 1000 by decide), fun q2 h2 => ?_⟩
      have n2 : q2 ≠ q1 := by rintro rfl; rw [put_same] at h2; cases h2
      refine ⟨q1, q2, _, _, rfl, rfl, by rw [put_ne n2.symm, put_same], put_same, ?_, fun q3 h3 => ?_⟩
      · have := cutG_none_len ((x :: t).map ti) (some 7)
        rw [List.length_map, List.length_cons] at *
        rw [sizeLine_eq]
        show _ + 1 ≤ _
        have h8' : t.length + 1 ≤ 8 := h8
        omega
      have k5 := k.trans u5.kp
      have f1 : S q1 = none := k5.none h1 (by obtain ⟨a, b⟩ := hD5.free h1; simp [a, b])
      have h2' : S5 q2 = none := by rw [put_ne n2] at h2; exact h2
      have f2 : S q2 = none := k5.none h2' (by obtain ⟨a, b⟩ := hD5.free h2'; simp [a, b])
      have n3 : q3 ≠ q2 := by rintro rfl; rw [put_same] at h3; cases h3
      have n31 : q3 ≠ q1 := by rintro rfl; rw [put_ne n2.symm, put_same] at h3; cases h3
      have h3' : S5 q3 = none := by rw [put_ne n3, put_ne n31] at h3; exact h3
      have f3 : S q3 = none := k5.none h3' (by obtain ⟨a, b⟩ := hD5.free h3'; simp [a, b])
      have ec : (cutG ((x :: t).map ti) none (some 7)).map W.d ++ [W.d (ti x)] = ((cutG (x :: t) none (some 7) ++ [x]).map ti).map W.d := by
        rw [cutG_map, List.map_append, List.map_append]; rfl
      obtain ⟨a1, a2⟩ := hD5.free h1
      obtain ⟨a3, a4⟩ := hD5.free h2'
      obtain ⟨a5, a6⟩ := hD5.free h3'
      have cl := cutG_none_len (x :: t) (some 7)
      have cl7 : (cutG (x :: t) none (some 7)).length ≤ 7 := by
        unfold cutG
        rw [List.length_take]
        have : HT.sIx (x :: t).length (x :: t).length (some 7) - HT.sIx (x :: t).length 0 none ≤ 7 := by
          show (if (7 : Int) < 0 then ((7 : Int) + ((x :: t).length : Int)).toNat else min (7 : Int).toNat (x :: t).length) - 0 ≤ 7
          rw [if_neg (by decide)]
          have : (7 : Int).toNat = 7 := rfl
          omega
        omega
      refine ⟨q3, ((cutG (x :: t) none (some 7) ++ [x]).map ti), rfl, by rw [put_same, ec], _, rfl, two dl d1 S _, two_sub ((((k5.wr f1).wr f2).wr f3).drp f3), hQ _ _ (by simp) ?_ ?_ two_upto (two_deal ((((hD5.other a1 a2).other a3 a4).other a5 a6).drp a5 a6))⟩
      · simp only [List.length_append, List.length_singleton]; omega
      · intro a h
        cases List.mem_append.mp h with
        | inl h =>
          refine hp a ?_
          unfold cutG at h
          exact List.mem_of_mem_drop (List.mem_of_mem_take h)
        | inr h => cases List.mem_singleton.mp h; exact hp _ List.mem_cons_self
    · have e5 : S5 p = some (.lst ((rs.map ti).map W.d)) := by rw [u5 p (by simp [p1, p2])]; exact e
      exact ⟨p, rs.map ti, rfl, e5, _, rfl, two dl d1 S _, two_sub ((k.trans u5.kp).drp hpS), hQ rs _ h0 h8 hp two_upto (two_deal (hD5.drp p1 p2))⟩
  refine ⟨_, rfl, law_any_lt hDp (by decide) (by decide) fun r S5 _ _ u5 hD5 => .inr ⟨_, _, rfl, rfl, rfl, rfl, _, rfl, fun c => ?_, fun c => ?_⟩⟩
  · have e5 : S5 p = some (.lst ((rs.map ti).map W.d)) := by rw [u5 p (by simp [p1, p2])]; exact ep
    obtain ⟨x, t, rfl⟩ : ∃ x t, rs = x :: t := by
      match rs, hrs0 with
      | x :: t, _ => exact ⟨x, t, rfl⟩
    have hx := hp x List.mem_cons_self
    refine ⟨_, rfl, 0, _, rfl, by rw [ixW_r e5]; exact H3.atI_nat (i := 0) rfl, _, _, rfl, len_ti, _, rfl, RgOk.of_le (by decide) (by have := hx.1; omega) (by decide) (by omega), ?_⟩
    rw [hx.1, rgD_ti]
    refine ⟨_, rfl, _, rfl, _, rfl, _, _, rfl, lenW_r e5, law_any_lt hD5 (by rw [List.length_map, List.length_map, List.length_cons]; omega) (by rw [List.length_map, List.length_map]; omega) fun y S6 y0 y1 u6 hD6 => ?_⟩
    have e6 : S6 p = some (.lst (((x :: t).map ti).map W.d)) := by rw [u6 p (by simp [p1, p2])]; exact e5
    refine ⟨p, _, y, y.toNat, rfl, rfl, e6, ?_, ?_⟩
    · unfold ixN
      rw [if_pos y0, if_pos y1]
    · refine half ((x :: t).set y.toNat (List.range n)) _ _ _ (by cases h : y.toNat <;> simp) (by rw [List.length_set]; exact hrs8) ?_ (by rw [put_same, List.map_set, List.map_set]; rfl) ((kp.trans (u5.kp.trans u6.kp)).wr hpS) (hD6.other p1 p2)
      intro a ha
      rcases List.mem_or_eq_of_mem_set ha with h | h
      · exact hp a h
      · rw [h]; exact hm_ok
  · exact half rs S5 _ _ hrs0 hrs8 hp (by rw [u5 p (by simp [p1, p2])]; exact ep) (kp.trans u5.kp) hD5

/-! the checks -/
def sq_law_pair_right : Sp3 := fun ws S Q _ => ∃ (n : Nat) (a b : Pm n), ws = [.d (ti a.1), .d (ti b.1), .d (ti (List.range n))] ∧ n ≤ 100 ∧ Q (.bl true) S
def sp_law_pair_right : Sp3 := fun ws S Q E => Bx (sq_law_pair_right ws S Q E)
def sq_law_parts_right : Sp3 := fun ws S Q _ => ∃ (n : Nat) (a b c : Pm n), ws = [.d (ti a.1), .d (ti b.1), .d (ti c.1)] ∧ n ≤ 100 ∧ Q (.bl true) S
def sp_law_parts_right : Sp3 := fun ws S Q E => Bx (sq_law_parts_right ws S Q E)
theorem len_law_pair_right : ∀ ws S Q E, sp_law_pair_right ws S Q E → ws.length = 3 := fun ws S Q E ⟨n, a, b, e, _⟩ => by rw [e]; rfl
theorem len_law_parts_right : ∀ ws S Q E, sp_law_parts_right ws S Q E → ws.length = 3 := fun ws S Q E ⟨n, a, b, c, e, _⟩ => by rw [e]; rfl
def rd_law_pair_right : TS3 := (tSeq3 (tPar3 4 5 (tCons3 (tCall3 sp_commutator (tCons3 (tVar3 0) (tCons3 (tVar3 1) tNil3))) (tCons3 (tCall3 sp_law_all (tCons3 (tLstD3 (tCons3 (tVar3 0) (tCons3 (tVar3 1) (tCons3 (tCall3 sp_law_back (tCons3 (tVar3 0) tNil3)) (tCons3 (tCall3 sp_law_back (tCons3 (tVar3 1) tNil3)) tNil3))))) (tCons3 (tCB3 gLen (tCons3 (tVar3 0) tNil3)) tNil3))) tNil3))) (tSeq3 (tIf3 (tOr3 (tB3 (tOp3 gNe (tCB3 gRepr (tCons3 (tVar3 4) tNil3)) (tCB3 gRepr (tCons3 (tVar3 5) tNil3)))) (tB3 (tOp3 gNe (tCB3 gRepr (tCons3 (tCall3 sp_turned_back (tCons3 (tVar3 4) tNil3)) tNil3)) (tCB3 gRepr (tCons3 (tCallK3 sp_commutator gw_commutator_0 2 (tCons3 (tVar3 0) (tCons3 (tVar3 1) tNil3))) tNil3))))) (tRet3 (tC3 (.bl false))) tNext3) (tSeq3 (tIf3 (tB3 (tOp3 gNe (tOp3 gEq (tVar3 4) (tVar3 2)) (tOp3 gEq (tCall3 sp_law_join (tCons3 (tVar3 0) (tCons3 (tVar3 1) tNil3))) (tCall3 sp_law_join (tCons3 (tVar3 1) (tCons3 (tVar3 0) tNil3)))))) (tRet3 (tC3 (.bl false))) tNext3) (tSeq3 (tSet3 3 (tCallK3 sp_conjugate gw_conjugate_0 2 (tCons3 (tVar3 1) (tCons3 (tVar3 0) tNil3)))) (tSeq3 (tIf3 (tOr3 (tB3 (tOp3 gNe (tCB3 gRepr (tCons3 (tVar3 3) tNil3)) (tCB3 gRepr (tCons3 (tCall3 sp_law_all (tCons3 (tLstD3 (tCons3 (tCall3 sp_law_back (tCons3 (tVar3 1) tNil3)) (tCons3 (tVar3 0) (tCons3 (tVar3 1) tNil3)))) (tCons3 (tCB3 gLen (tCons3 (tVar3 0) tNil3)) tNil3))) tNil3)))) (tB3 (tOp3 gNe (tCall3 sp_joined (tCons3 (tVar3 1) (tCons3 (tVar3 3) tNil3))) (tCall3 sp_joined (tCons3 (tVar3 0) (tCons3 (tVar3 1) tNil3)))))) (tRet3 (tC3 (.bl false))) tNext3) (tRet3 (tAndV3 (tOp3 gEq (tCall3 sp_commutator (tCons3 (tVar3 0) (tCons3 (tVar3 0) tNil3))) (tVar3 2)) (tAndV3 (tOp3 gEq (tCall3 sp_commutator (tCons3 (tVar3 0) (tCons3 (tVar3 2) tNil3))) (tVar3 2)) (tOp3 gEq (tCall3 sp_commutator (tCons3 (tVar3 2) (tCons3 (tVar3 0) tNil3))) (tVar3 2))))))))))
def rd_law_parts_right : TS3 := (tSeq3 (tSet3 3 (tCall3 sp_commutator (tCons3 (tCall3 sp_joined (tCons3 (tVar3 0) (tCons3 (tVar3 1) tNil3))) (tCons3 (tVar3 2) tNil3)))) (tSeq3 (tIf3 (tB3 (tOp3 gNe (tVar3 3) (tCall3 sp_joined (tCons3 (tCall3 sp_conjugate (tCons3 (tCall3 sp_commutator (tCons3 (tVar3 1) (tCons3 (tVar3 2) tNil3))) (tCons3 (tCall3 sp_turned_back (tCons3 (tVar3 0) tNil3)) tNil3))) (tCons3 (tCall3 sp_commutator (tCons3 (tVar3 0) (tCons3 (tVar3 2) tNil3))) tNil3))))) (tRet3 (tC3 (.bl false))) tNext3) (tSeq3 (tSet3 4 (tCall3 sp_commutator (tCons3 (tVar3 2) (tCons3 (tCall3 sp_joined (tCons3 (tVar3 0) (tCons3 (tVar3 1) tNil3))) tNil3)))) (tRet3 (tOp3 gEq (tVar3 4) (tCall3 sp_joined (tCons3 (tCall3 sp_commutator (tCons3 (tVar3 2) (tCons3 (tVar3 0) tNil3))) (tCons3 (tCall3 sp_conjugate (tCons3 (tCall3 sp_commutator (tCons3 (tVar3 2) (tCons3 (tVar3 1) tNil3))) (tCons3 (tCall3 sp_turned_back (tCons3 (tVar3 0) tNil3)) tNil3))) tNil3))))))))
section
variable {n : Nat} {S : Sto} {Q : K3} {E : X3} (hn : n ≤ 100)
include hn
theorem cm_Pm {a b : Pm n} (q : Q (.d (ti (cmP a b).1)) S) : sp_commutator [.d (ti a.1), .d (ti b.1)] S Q E := ⟨n, _, _, rfl, a.2, b.2, by omega, q⟩
theorem cj_Pm {a b : Pm n} (q : Q (.d (ti (cjP a b).1)) S) : sp_conjugate [.d (ti a.1), .d (ti b.1)] S Q E := ⟨n, _, _, rfl, a.2, b.2, by omega, q⟩
theorem tb_Pm {a : Pm n} (q : Q (.d (ti (a⁻¹).1)) S) : sp_turned_back [.d (ti a.1)] S Q E := ⟨n, _, rfl, a.2, by omega, q⟩
theorem lb_Pm {a : Pm n} (q : Q (.d (ti (a⁻¹).1)) S) : sp_law_back [.d (ti a.1)] S Q E := ⟨n, _, rfl, a.2, by omega, q⟩
theorem lj_Pm {a b : Pm n} (q : Q (.d (ti (a * b).1)) S) : sp_law_join [.d (ti a.1), .d (ti b.1)] S Q E := join_P a.2 b.2 (by omega) q
theorem rp_Pm {a : Pm n} : (ti a.1).showable = true ∧ (ti a.1).hasDict = false ∧ (ti a.1).depth ≤ 64 ∧ (ti a.1).shown.length ≤ sizeLine :=
  have f := fine_ti a.2 hn
  ⟨f.sho, PyData.hasDict_of_canLay _ f.lay, Nat.le_trans f.dep (by decide), f.len⟩
end
theorem ne_sh {n : Nat} {a b : Pm n} {p : Prop} (h : a = b) (hc : (!decide ((ti a.1).shown = (ti b.1).shown)) = true) : p := by subst h; simp at hc
theorem eq_ti {n : Nat} {a b : Pm n} : PyData.eqv (ti a.1) (ti b.1) = decide (a.1 = b.1) := eqv_ti
theorem ne_ti {n : Nat} {a b : Pm n} {p : Prop} (h : a = b) (hc : (!PyData.eqv (ti a.1) (ti b.1)) = true) : p := by subst h; rw [eqv_ti] at hc; simp at hc
theorem same_ti {n : Nat} {a b : Pm n} (h : a = b) : PyData.eqv (ti a.1) (ti b.1) = true := by subst h; rw [eqv_ti]; simp
theorem val_iff {n : Nat} {a b : Pm n} : a.1 = b.1 ↔ a = b := ⟨fun h => Subtype.ext h, fun h => by rw [h]⟩
theorem sem_law_pair_right : ∀ ws S Q E, sp_law_pair_right ws S Q E → rd_law_pair_right (DQ Q) (start3 6 ws E) S := fun ws S Q E ⟨n, a, b, e, hn, q⟩ => by
  subst e
  have four : ∀ (x y z u : Pm n), (1 * x * y * z * u : Pm n).1 = [x.1, y.1, z.1, u.1].foldl jn (List.range n) := fun _ _ _ _ => rfl
  have three : ∀ (x y z : Pm n), (1 * x * y * z : Pm n).1 = [x.1, y.1, z.1].foldl jn (List.range n) := fun _ _ _ => rfl
  have e1 : cmP a b = 1 * a * b * a⁻¹ * b⁻¹ := by simp only [cmP, pm_one_mul, pm_assoc]
  have e2 : cjP a b = 1 * b⁻¹ * a * b := by simp only [cjP, pm_one_mul, pm_assoc]
  refine ⟨_, rfl, _, rfl, cm_Pm hn ⟨_, rfl, _, rfl, _, rfl, lb_Pm hn ⟨_, rfl, lb_Pm hn ⟨[a.1, b.1, (a⁻¹).1, (b⁻¹).1].map ti, rfl, (show 4 ≤ 1000 by decide), _, rfl, _, _, rfl, len_ti, ⟨n, _, by rw [a.2.1], by omega, forall_mem_cons' a.2 (forall_mem_cons' b.2 (forall_mem_cons' (a⁻¹).2 (forall_mem_cons' (b⁻¹).2 forall_mem_nil))), ?_⟩⟩⟩⟩⟩
  rw [← four, ← e1]
  obtain ⟨r1, r2, r3, r4⟩ := rp_Pm hn (a := cmP a b)
  refine ⟨_, _, rfl, ?_⟩
  refine ⟨_, rfl, _, _, rfl, rfl, r1, r2, r3, r4, _, rfl, _, _, rfl, rfl, r1, r2, r3, r4, .inl ⟨_, _, rfl, rfl, _, rfl, fun c => ne_sh rfl c, fun _ => ?_⟩⟩
  obtain ⟨s1, s2, s3, s4⟩ := rp_Pm hn (a := (cmP a b)⁻¹)
  obtain ⟨t1, t2, t3, t4⟩ := rp_Pm hn (a := cmP b a)
  refine ⟨_, rfl, tb_Pm hn ⟨_, _, rfl, rfl, s1, s2, s3, s4, _, rfl, _, rfl, rfl, cm_Pm hn ⟨_, _, rfl, rfl, t1, t2, t3, t4, .inl ⟨_, _, rfl, rfl, _, rfl, fun c => ne_sh (cm_inv a b) c, fun _ => ?_⟩⟩⟩⟩
  refine ⟨_, rfl, _, rfl, .inr ⟨_, _, rfl, rfl, shaped_ti _, shaped_ti _, _, rfl, _, rfl, lj_Pm hn ⟨_, rfl, _, rfl, lj_Pm hn (.inr ⟨_, _, rfl, rfl, shaped_ti _, shaped_ti _, .inr ⟨_, _, rfl, rfl, rfl, rfl, _, rfl, fun c => ?_, fun _ => ?_⟩⟩)⟩⟩⟩
  · exfalso
    have h : PyData.eqv (ti (cmP a b).1) (ti (List.range n)) = PyData.eqv (ti (a * b).1) (ti (b * a).1) := by
      rw [eqv_ti, eqv_ti]
      exact decide_eq_decide.mpr ((val_iff (a := cmP a b) (b := 1)).trans ((cm_one_iff a b).trans val_iff.symm))
    rw [h] at c
    revert c
    cases PyData.eqv (ti (a * b).1) (ti (b * a).1) <;> (intro c; exact absurd c (by decide))
  refine ⟨_, rfl, _, rfl, rfl, cj_Pm hn ?_⟩
  obtain ⟨r1, r2, r3, r4⟩ := rp_Pm hn (a := cjP a b)
  refine ⟨_, rfl, _, _, rfl, rfl, r1, r2, r3, r4, _, rfl, lb_Pm hn ⟨_, rfl, _, rfl, [(b⁻¹).1, a.1, b.1].map ti, rfl, (show 3 ≤ 1000 by decide), _, rfl, _, _, rfl, len_ti, ⟨n, _, by rw [a.2.1], by omega, forall_mem_cons' (b⁻¹).2 (forall_mem_cons' a.2 (forall_mem_cons' b.2 forall_mem_nil)), ?_⟩⟩⟩
  rw [← three, ← e2]
  refine ⟨_, _, rfl, rfl, r1, r2, r3, r4, .inl ⟨_, _, rfl, rfl, _, rfl, fun c => ne_sh rfl c, fun _ => ?_⟩⟩
  refine ⟨_, rfl, _, rfl, join_Pm (by omega) ⟨_, rfl, _, rfl, join_Pm (by omega) (.inr ⟨_, _, rfl, rfl, shaped_ti _, shaped_ti _, _, rfl, fun c => ne_ti (cj_mul a b) c, fun _ => ?_⟩)⟩⟩
  refine ⟨_, rfl, _, rfl, cm_Pm hn ⟨_, rfl, .inr ⟨_, _, rfl, rfl, shaped_ti _, shaped_ti _, _, rfl, fun _ => ?_, fun c => ?_⟩⟩⟩
  · refine ⟨_, rfl, _, rfl, cm_Pm (b := 1) hn ⟨_, rfl, .inr ⟨_, _, rfl, rfl, shaped_ti _, shaped_ti _, _, rfl, fun _ => ?_, fun c => ?_⟩⟩⟩
    · refine ⟨_, rfl, _, rfl, cm_Pm (a := 1) hn ⟨_, rfl, .inr ⟨_, _, rfl, rfl, shaped_ti _, shaped_ti _, _, Sub.refl _, ?_⟩⟩⟩
      rw [show PyData.eqv (ti (cmP 1 a).1) (ti (List.range n)) = true from same_ti (b := 1) (one_cm a)]
      exact q
    · rw [show PyData.eqv (ti (cmP a 1).1) (ti (List.range n)) = true from same_ti (b := 1) (cm_one a)] at c
      cases c
  · rw [show PyData.eqv (ti (cmP a a).1) (ti (List.range n)) = true from same_ti (b := 1) (cm_self a)] at c
    cases c
theorem sem_law_parts_right : ∀ ws S Q E, sp_law_parts_right ws S Q E → rd_law_parts_right (DQ Q) (start3 5 ws E) S := fun ws S Q E ⟨n, a, b, m, e, hn, q⟩ => by
  subst e
  refine ⟨_, rfl, _, rfl, join_Pm (by omega) ⟨_, rfl, cm_Pm hn ?_⟩⟩
  refine ⟨_, rfl, _, rfl, _, rfl, cm_Pm hn ⟨_, rfl, tb_Pm hn (cj_Pm hn ⟨_, rfl, _, rfl, cm_Pm hn (join_Pm (by omega) (.inr ⟨_, _, rfl, rfl, shaped_ti _, shaped_ti _, _, rfl, fun c => ne_ti (parts_l a b m) c, fun _ => ?_⟩))⟩)⟩⟩
  refine ⟨_, rfl, _, rfl, _, rfl, join_Pm (by omega) (cm_Pm hn ?_)⟩
  refine ⟨_, rfl, _, rfl, _, rfl, cm_Pm hn ⟨_, rfl, _, rfl, cm_Pm hn ⟨_, rfl, tb_Pm hn (cj_Pm hn (join_Pm (by omega) (.inr ⟨_, _, rfl, rfl, shaped_ti _, shaped_ti _, _, Sub.refl _, ?_⟩)))⟩⟩⟩
  rw [same_ti (parts_r a b m)]
  exact q

/-! the law -/
def sq_law : Sp3 := fun ws S Q _ => ∃ ns : List Int, ws = [.lst (ns.map PyData.int)] ∧ ns.length ≤ 63 ∧ (∀ a, S a = none) ∧ ∀ S', Q (.bl true) S'
def sp_law : Sp3 := fun ws S Q E => Bx (sq_law ws S Q E)
theorem len_law : ∀ ws S Q E, sp_law ws S Q E → ws.length = 1 := fun ws S Q E ⟨d, e, _⟩ => by rw [e]; rfl
theorem law_start (ns : List Int) (h : ns.length ≤ 63) : sp_law [.lst (ns.map PyData.int)] (fun _ => none) (fun w _ => w = .bl true) X0 := ⟨ns, rfl, h, fun _ => rfl, fun _ => rfl⟩
def rb_law_0 : TS3 := (tSeq3 (tSet3 10 (tCall3 sp_fold (tCons3 (tCB3 gTuple (tCons3 (tVar3 6) tNil3)) tNil3))) (tSeq3 (tIf3 (tOr3 (tB3 (tOp3 gNe (tCB3 gRepr (tCons3 (tVar3 10) tNil3)) (tCB3 gRepr (tCons3 (tCall3 sp_law_fold (tCons3 (tVar3 6) tNil3)) tNil3)))) (tB3 (tOp3 gNe (tCB3 gRepr (tCons3 (tCallK3 sp_fold gw_fold_0 1 (tCons3 (tVar3 6) tNil3)) tNil3)) (tCB3 gRepr (tCons3 (tVar3 10) tNil3))))) (tRet3 (tC3 (.bl false))) tNext3) (tSeq3 (tIf3 (tAnd3 (tB3 (tOp3 gGt (tCB3 gLen (tCons3 (tVar3 6) tNil3)) (tC3 (.int 1)))) (tAnd3 (tB3 (tOp3 (gIn false) (tVar3 3) (tVar3 6))) (tB3 (tOp3 gNe (tVar3 10) (tVar3 3))))) (tRet3 (tC3 (.bl false))) tNext3) (tIf3 (tAnd3 (tB3 (tOp3 gEq (tCB3 gLen (tCons3 (tVar3 6) tNil3)) (tC3 (.int 1)))) (tB3 (tOp3 gNe (tVar3 10) (tOp3 gIx (tVar3 6) (tC3 (.int 0)))))) (tRet3 (tC3 (.bl false))) tNext3))))
def rb_law_1 : TS3 := (tSeq3 (tPar33 11 12 13 (tCons3 (tCall3 sp_law_of (tCons3 (tVar3 1) (tCons3 (tVar3 9) tNil3))) (tCons3 (tCall3 sp_law_of (tCons3 (tVar3 1) (tCons3 (tVar3 9) tNil3))) (tCons3 (tCall3 sp_law_of (tCons3 (tVar3 1) (tCons3 (tVar3 9) tNil3))) tNil3)))) (tSeq3 (tIf3 (tOr3 (tNot3 (tB3 (tCall3 sp_law_pair_right (tCons3 (tVar3 11) (tCons3 (tVar3 12) (tCons3 (tVar3 3) tNil3)))))) (tNot3 (tB3 (tCall3 sp_law_parts_right (tCons3 (tVar3 11) (tCons3 (tVar3 12) (tCons3 (tVar3 13) tNil3))))))) (tRet3 (tC3 (.bl false))) tNext3) (tIf3 (tB3 (tOp3 gNe (tCall3 sp_conjugate (tCons3 (tCall3 sp_power (tCons3 (tVar3 11) (tCons3 (tC3 (.int 2)) tNil3))) (tCons3 (tVar3 12) tNil3))) (tCall3 sp_power (tCons3 (tCall3 sp_conjugate (tCons3 (tVar3 11) (tCons3 (tVar3 12) tNil3))) (tCons3 (tC3 (.int 2)) tNil3))))) (tRet3 (tC3 (.bl false))) tNext3)))
def rt_law_2 : TS3 := (tSeq3 (tSet3 3 (tCall3 sp_still (tCons3 (tVar3 8) tNil3))) (tSeq3 (tFor3 (tRgI1 (tCons3 (tC3 (.int 8)) tNil3)) (gName3 4) rb_law_1) (tSeq3 (tSet3 5 (tLcD3 (tRgI1 (tCons3 (tCall3 sp_law_any (tCons3 (tVar3 1) (tCons3 (tC3 (.int 5)) tNil3))) tNil3)) (gName3 4) tYes3 (tCall3 sp_law_row (tCons3 (tVar3 1) (tCons3 (tVar3 9) tNil3))) [4])) (tSeq3 (tFor3 (tSeqI3 (tVar3 5)) (gName3 6) rb_law_0) (tSeq3 (tSet3 7 (tCall3 sp_law_all (tCons3 (tLcD3 (tSeqI3 (tVar3 5)) (gName3 6) tYes3 (tCall3 sp_law_fold (tCons3 (tVar3 6) tNil3)) [6]) (tCons3 (tVar3 8) tNil3)))) (tRet3 (tAndV3 (tOp3 gEq (tCB3 gRepr (tCons3 (tCall3 sp_folds_joined (tCons3 (tVar3 8) (tCons3 (tCB3 gTuple (tCons3 (tLcD3 (tSeqI3 (tVar3 5)) (gName3 6) tYes3 (tCB3 gTuple (tCons3 (tVar3 6) tNil3)) [6]) tNil3)) tNil3))) tNil3)) (tCB3 gRepr (tCons3 (tVar3 7) tNil3))) (tOp3 gEq (tCB3 gRepr (tCons3 (tCallK3 sp_folds_joined gw_folds_joined_0 2 (tCons3 (tVar3 5) (tCons3 (tVar3 8) tNil3))) tNil3)) (tCB3 gRepr (tCons3 (tVar3 7) tNil3))))))))))
def rd_law : TS3 := (tSeq3 (tSet3 1 (tCall3 sp_law_source (tCons3 (tVar3 0) tNil3))) (tSeq3 (tSet3 2 (tCall3 sp_law_turnings (tCons3 (tVar3 1) tNil3))) (tSeq3 (tUnp3 (tCons3 (tCB3 gLen (tCons3 (tOp3 gIx (tVar3 2) (tC3 (.int 0))) tNil3)) (tCons3 (tLstD3 tNil3) tNil3)) (gCons3 (gName3 8) (gCons3 (gName3 9) gNil3))) (tSeq3 (tIf3 (tB3 (tOp3 gEq (tCall3 sp_law_any (tCons3 (tVar3 1) (tCons3 (tC3 (.int 2)) tNil3))) (tC3 (.int 0)))) (tSet3 9 (tCall3 sp_law_made (tCons3 (tVar3 2) (tCons3 (tVar3 8) tNil3)))) (tSeq3 (tSet3 8 (tCall3 sp_law_of (tCons3 (tVar3 1) (tCons3 (tLstD3 (tCons3 (tVar3 8) (tCons3 (tVar3 8) (tCons3 (tOp3 gAdd (tC3 (.int 9)) (tCall3 sp_law_any (tCons3 (tVar3 1) (tCons3 (tC3 (.int 4)) tNil3)))) tNil3)))) tNil3)))) (tSet3 9 (tLcD3 (tRgI1 (tCons3 (tC3 (.int 7)) tNil3)) (gName3 4) tYes3 (tCall3 sp_law_shuffled (tCons3 (tVar3 1) (tCons3 (tVar3 8) tNil3))) [4])))) rt_law_2))))
/-- lists of turnings -/
theorem pms_of {n : Nat} : ∀ {as : List (List Nat)}, (∀ a ∈ as, PmP n a) → ∃ bs : List (Pm n), as = bs.map (·.1)
  | [], _ => ⟨[], rfl⟩
  | a :: as, h => by
    obtain ⟨bs, e⟩ := pms_of fun b hb => h b (List.mem_cons_of_mem _ hb)
    subst e
    exact ⟨⟨a, h a List.mem_cons_self⟩ :: bs, rfl⟩
theorem fd_Pm {n : Nat} : ∀ (as : List (Pm n)) (a : Pm n), (as.map (·.1)).foldl cm a.1 = (foldP a as).1
  | [], _ => rfl
  | b :: as, a => fd_Pm as (cmP a b)
theorem lay_rows (rows : List (List (List Nat))) : ∀ r ∈ rows, ∀ d ∈ r.map ti, d.canLay0 = true := fun r _ d hd => by
  obtain ⟨a, _, rfl⟩ := List.mem_map.mp hd
  exact lay_ti a
theorem any_home {n : Nat} {r : List (List Nat)} (h : ((r.map ti).any fun z => PyData.eqv z (ti (List.range n))) = true) : List.range n ∈ r := by
  obtain ⟨d, hd, e⟩ := List.any_eq_true.mp h
  obtain ⟨a, ha, rfl⟩ := List.mem_map.mp hd
  rw [eqv_ti] at e
  rw [← of_decide_eq_true e]; exact ha
theorem row_right {n : Nat} {r : List (List Nat)} (h0 : r ≠ []) (h : ∀ a ∈ r, PmP n a) (hl : 1 < r.length) (hm : List.range n ∈ r) : fd r = List.range n := by
  obtain ⟨bs, rfl⟩ := pms_of h
  cases bs with
  | nil => exact absurd rfl h0
  | cons b bs =>
    show (bs.map (·.1)).foldl cm b.1 = (1 : Pm n).1
    rw [fd_Pm, fold_home bs b]
    · intro z; subst z; simp at hl
    · obtain ⟨c, hc, e⟩ := List.mem_map.mp hm
      rw [← show c = (1 : Pm n) from Subtype.ext e]; exact hc
theorem mono_law_row {ws : List W} {S : Sto} {A B : K3} {E E' : X3} (m : ∀ w S, A w S → B w S) : sp_law_row ws S A E → sp_law_row ws S B E' := fun ⟨dl, d1, n, gs, e, h1, h2, h3, h4, h5, q⟩ => ⟨dl, d1, n, gs, e, h1, h2, h3, h4, h5, fun r S' a b c d e => m _ _ (q r S' a b c d e)⟩
theorem rest_law {dl d1 : Addr} {n : Nat} {gs : List (List Nat)} {S : Sto} {Q : K3} {w0 w2 w3 w4 w5 w6 w7 w10 w11 w12 w13 : Option W} {ex : XS} (hn1 : 1 ≤ n) (hn : n ≤ 100) (h0 : gs ≠ []) (hl : gs.length ≤ 1000) (hg : ∀ a ∈ gs, PmP n a) (hD : Deal S dl d1) (q : ∀ S', Q (.bl true) S') :
    rt_law_2 (DQ Q) ⟨[w0, some (.r dl), w2, w3, w4, w5, w6, w7, some (.int n), some (.lst (gs.map ti)), w10, w11, w12, w13], ex⟩ S := by
  refine ⟨_, rfl, still_ti (by omega) ?_⟩
  refine ⟨8, rfl, ⟨by decide, by decide⟩, ?_⟩
  refine forGo_inv (fun _ τ S' => Deal S' dl d1 ∧ ∃ w0 w2 w4 w5 w6 w7 w10 w11 w12 w13, τ.sl = [w0, some (.r dl), w2, some (.d (ti (List.range n))), w4, w5, w6, w7, some (.int n), some (.lst (gs.map ti)), w10, w11, w12, w13]) ⟨hD, _, _, _, _, _, _, _, _, _, _, rfl⟩ ?_ ?_
  · rintro i w ⟨sl, ex⟩ S2 hw ⟨hD2, w0, w2, w4, w5, w6, w7, w10, w11, w12, w13, e⟩
    subst e
    refine ⟨_, rfl, _, rfl, law_of_tis hD2 h0 hl hg fun a S3 ha u3 hD3 => ⟨_, rfl, _, rfl, law_of_tis hD3 h0 hl hg fun b S4 hb u4 hD4 => ⟨_, rfl, _, rfl, law_of_tis hD4 h0 hl hg fun c S5 hc u5 hD5 => ⟨_, _, _, rfl, ?_⟩⟩⟩⟩
    refine ⟨_, rfl, _, rfl, _, rfl, ⟨n, ⟨a, ha⟩, ⟨b, hb⟩, rfl, hn, ?_⟩⟩
    refine ⟨true, rfl, fun h => (nomatch h), fun _ => ⟨_, rfl, _, rfl, _, rfl, ⟨n, ⟨a, ha⟩, ⟨b, hb⟩, ⟨c, hc⟩, rfl, hn, true, rfl, fun h => (nomatch h), fun _ => ?_⟩⟩⟩
    refine ⟨_, rfl, ⟨n, ⟨a, ha⟩, 2, rfl, by omega, ?_⟩⟩
    refine ⟨_, rfl, cj_Pm (a := pw ⟨a, ha⟩ 2) (b := ⟨b, hb⟩) hn ?_⟩
    refine ⟨_, rfl, _, rfl, cj_Pm (a := ⟨a, ha⟩) (b := ⟨b, hb⟩) hn ⟨n, cjP ⟨a, ha⟩ ⟨b, hb⟩, 2, rfl, by omega, .inr ⟨_, _, rfl, rfl, shaped_ti _, shaped_ti _, _, rfl, fun c => ne_ti (cj_pw _ _) c, fun _ => ⟨hD5, _, _, _, _, _, _, _, _, _, _, rfl⟩⟩⟩⟩
  · rintro ⟨sl, ex⟩ S2 ⟨hD2, w0, w2, w4, w5, w6, w7, w10, w11, w12, w13, e⟩
    subst e
    refine ⟨_, rfl, law_any_lt hD2 (by decide) (by decide) fun r S3 r0 r1 u3 hD3 => ⟨_, rfl, ⟨by omega, by omega⟩, by rw [rgW_len]; omega, ?_⟩⟩
    have r1 : r < 5 := r1
    refine lcGo_drawn (f := fun r : List (List Nat) => W.lst (r.map ti)) (P := fun r => r ≠ [] ∧ r.length ≤ 8 ∧ ∀ a ∈ r, PmP n a) (dl := dl) (d1 := d1) (fun τ S A B h ⟨w1, e1, w2, e2, q⟩ => ⟨w1, e1, w2, e2, mono_law_row h q⟩) hD3 (fun S' w A hD' k => ⟨_, rfl, _, rfl, ⟨dl, d1, n, gs, rfl, hn, h0, hl, hg, hD', fun r S' a b c d e => k r S' ⟨a, b, c⟩ d e⟩⟩) ?_
    intro rows S4 hrl hr u4 hD4
    refine ⟨rows.map fun r => .list (r.map ti), by rw [List.map_map]; rfl, ?_⟩
    refine ⟨_, rfl, _, .inl rfl, ?_⟩
    rw [List.map_map]
    refine forGo_inv (fun _ τ S' => ∃ w0 w2 w4 w6 w7 w10 w11 w12 w13, τ.sl = [w0, some (.r dl), w2, some (.d (ti (List.range n))), w4, some (.lst (rows.map fun r => .list (r.map ti))), w6, w7, some (.int n), some (.lst (gs.map ti)), w10, w11, w12, w13]) ⟨_, _, _, _, _, _, _, _, _, rfl⟩ ?_ ?_
    · rintro i w ⟨sl, ex⟩ S5 hw ⟨w0, w2, w4, w6, w7, w10, w11, w12, w13, e⟩
      subst e
      obtain ⟨r, hri, rfl⟩ := get_map hw
      obtain ⟨p0, p8, pp⟩ := hr r (List.mem_of_getElem? hri)
      have hfd := fd_ok p0 pp
      have f := fine_ti hfd hn
      have f2 : (ti (fd r)).hasDict = false := PyData.hasDict_of_canLay _ f.lay
      have f3 : (ti (fd r)).depth ≤ 64 := Nat.le_trans f.dep (by decide)
      have f4 := f.len
      obtain ⟨a, as, rfl⟩ : ∃ a as, r = a :: as := by
        cases r with
        | nil => exact absurd rfl p0
        | cons a as => exact ⟨a, as, rfl⟩
      refine ⟨_, rfl, _, (a :: as).map ti, rfl, rfl, ⟨n, _, a, as, rfl, .inr rfl, by omega, pp, ?_⟩⟩
      refine ⟨_, rfl, _, _, rfl, rfl, f.sho, f2, f3, f4, _, rfl, ⟨n, a, as, rfl, by omega, pp, _, _, rfl, rfl, f.sho, f2, f3, f4, .inl ⟨_, _, rfl, rfl, _, rfl, fun c => by simp at c, fun _ => ?_⟩⟩⟩
      refine ⟨_, rfl, rfl, ⟨n, _, a, as, rfl, .inl rfl, by omega, pp, _, _, rfl, rfl, f.sho, f2, f3, f4, _, rfl, _, _, rfl, rfl, f.sho, f2, f3, f4, .inl ⟨_, _, rfl, rfl, _, rfl, fun c => by simp at c, fun _ => ?_⟩⟩⟩
      have lenr : lenW S5 (.lst ((a :: as).map ti)) = some (a :: as).length := by
        show some (((a :: as).map ti).map W.d).length = _
        rw [List.length_map, List.length_map]
      have tail : ∀ (S5 : Sto), lenW S5 (.lst ((a :: as).map ti)) = some (a :: as).length → tIf3 (tAnd3 (tB3 (tOp3 gEq (tCB3 gLen (tCons3 (tVar3 6) tNil3)) (tC3 (.int 1)))) (tB3 (tOp3 gNe (tVar3 10) (tOp3 gIx (tVar3 6) (tC3 (.int 0)))))) (tRet3 (tC3 (.bl false))) tNext3
          { nx := fun τ S' => ∃ w0 w2 w4 w6 w7 w10 w11 w12 w13, τ.sl = [w0, some (.r dl), w2, some (.d (ti (List.range n))), w4, some (.lst (rows.map fun r => .list (r.map ti))), w6, w7, some (.int n), some (.lst (gs.map ti)), w10, w11, w12, w13], rt := (DQ Q).rt }
          ⟨[w0, some (.r dl), w2, some (.d (ti (List.range n))), w4, some (.lst (rows.map fun r => .list (r.map ti))), some (.lst ((a :: as).map ti)), w7, some (.int n), some (.lst (gs.map ti)), some (.d (ti (fd (a :: as)))), w11, w12, w13], ex⟩ S5 := fun S5 lenr => by
        refine ⟨_, rfl, _, _, rfl, lenr, .inr ⟨_, _, rfl, rfl, rfl, rfl, _, rfl, fun c => ?_, fun c => ⟨fun z => (nomatch z), fun _ => ⟨_, _, _, _, _, _, _, _, _, rfl⟩⟩⟩⟩
        rw [eqv_int] at c
        have hl1 : as = [] := by
          have := of_decide_eq_true c
          rw [List.length_cons] at this
          exact List.eq_nil_of_length_eq_zero (by omega)
        subst hl1
        refine ⟨_, rfl, _, rfl, 0, _, rfl, ix_head (.inl rfl), .inr ⟨_, _, rfl, rfl, shaped_ti _, shaped_ti _, _, rfl, fun c => ?_, fun _ => ⟨_, _, _, _, _, _, _, _, _, rfl⟩⟩⟩
        rw [eqv_ti] at c
        simp [fd] at c
      refine ⟨_, rfl, _, _, rfl, lenr, _, _, rfl, rfl, _, rfl, fun c => ?_, fun c => ⟨fun z => (nomatch z), fun _ => tail S5 lenr⟩⟩
      refine ⟨_, rfl, _, rfl, _, _, rfl, rfl, shaped_ti _, canLayAll_map _ lay_ti _, _, rfl, fun c2 => ?_, fun c2 => ⟨fun z => (nomatch z), fun _ => tail S5 lenr⟩⟩
      refine ⟨_, rfl, _, rfl, .inr ⟨_, _, rfl, rfl, shaped_ti _, shaped_ti _, _, rfl, fun c3 => ?_, fun _ => tail S5 lenr⟩⟩
      have hlen : 1 < (a :: as).length := by
        have : (1 : Int) < ((a :: as).length : Nat) := by simpa using c
        omega
      rw [row_right p0 pp hlen (any_home c2), eqv_ti] at c3
      simp at c3
    · rintro ⟨sl, ex⟩ S5 ⟨w0, w2, w4, w6, w7, w10, w11, w12, w13, e⟩
      subst e
      have hfo : ∀ a ∈ rows.map fd, PmP n a := fun a ha => by
        obtain ⟨r, h, rfl⟩ := List.mem_map.mp ha
        exact fd_ok (hr r h).1 (hr r h).2.2
      have hz : rows.length ≤ 5 := by omega
      refine ⟨_, rfl, _, .inl rfl, by rw [List.length_map, List.length_map]; omega, ?_⟩
      rw [List.map_map]
      refine lcGo_mapG _ (fun r => W.d (ti (fd r))) (fun r h A k => ?_) ?_
      · obtain ⟨p0, p8, pp⟩ := hr r h
        cases r with
        | nil => exact absurd rfl p0
        | cons a as => exact ⟨_, rfl, ⟨n, a, as, rfl, by omega, pp, k⟩⟩
      refine ⟨(rows.map fd).map ti, by rw [List.nil_append, List.map_map, List.map_map]; rfl, _, rfl, ⟨n, rows.map fd, rfl, by omega, hfo, ?_⟩⟩
      have f := fine_ti (jn_all_ok hm_ok hfo) hn
      have f2 : (ti ((rows.map fd).foldl jn (List.range n))).hasDict = false := PyData.hasDict_of_canLay _ f.lay
      have f3 : (ti ((rows.map fd).foldl jn (List.range n))).depth ≤ 64 := Nat.le_trans f.dep (by decide)
      have f4 := f.len
      refine ⟨_, rfl, _, rfl, _, .inl rfl, by rw [List.length_map, List.length_map]; omega, ?_⟩
      rw [List.map_map]
      refine lcGo_mapG _ (fun r => W.tup (r.map ti)) (fun r h A k => ⟨_, rfl, _, r.map ti, rfl, rfl, k⟩) ?_
      refine ⟨rows.map fun r => .tuple (r.map ti), by rw [List.nil_append, List.map_map]; rfl, _, _, rfl, rfl, ⟨n, _, rows, .tuple, rfl, .inl rfl, .inr rfl, by omega, by omega, fun r h => ⟨(hr r h).1, (hr r h).2.2⟩, ?_⟩⟩
      refine ⟨_, _, rfl, rfl, f.sho, f2, f3, f4, _, rfl, _, _, rfl, rfl, f.sho, f2, f3, f4, .inl ⟨_, _, rfl, rfl, _, rfl, fun _ => ?_, fun c => by simp at c⟩⟩
      refine ⟨_, rfl, _, rfl, rfl, ⟨n, _, rows, .list, rfl, .inr rfl, .inl rfl, by omega, by omega, fun r h => ⟨(hr r h).1, (hr r h).2.2⟩, _, _, rfl, rfl, f.sho, f2, f3, f4, _, rfl, _, _, rfl, rfl, f.sho, f2, f3, f4, .inl ⟨_, _, rfl, rfl, _, Sub.refl _, ?_⟩⟩⟩
      rw [decide_eq_true rfl]
      exact q _
theorem sem_law : ∀ ws S Q E, sp_law ws S Q E → rd_law (DQ Q) (start3 14 ws E) S := fun ws S Q E ⟨ns, e, hl, hS, q⟩ => by
  subst e
  refine ⟨_, rfl, ⟨ns, rfl, hl, fun dl d1 S1 _ _ u1 hD1 => ?_⟩⟩
  refine ⟨_, rfl, ⟨dl, d1, rfl, hD1, fun n as S2 n1 n8 h0 hl3 ha u2 hD2 => ?_⟩⟩
  obtain ⟨a0, at', rfl⟩ : ∃ a t, as = a :: t := by
    match as, h0 with
    | a :: t, _ => exact ⟨a, t, rfl⟩
  have ha0 := ha a0 List.mem_cons_self
  refine ⟨_, rfl, 0, _, rfl, ix_head (.inl rfl), _, _, rfl, len_ti, [], rfl, by decide, (show 2 ≤ 1000 by decide), _, _, rfl, _, _, rfl, rfl, ?_⟩
  rw [ha0.1]
  refine ⟨_, rfl, law_any_lt hD2 (by decide) (by decide) fun r S3 _ _ u3 hD3 => .inr ⟨_, _, rfl, rfl, rfl, rfl, _, rfl, fun c => ?_, fun c => ?_⟩⟩
  · exact ⟨_, rfl, _, rfl, ⟨n, a0 :: at', rfl, n1, by omega, hl3, ha, fun gs g0 gl gp => rest_law n1 (by omega) g0 gl gp hD3 q⟩⟩
  · refine ⟨_, rfl, _, rfl, _, rfl, _, rfl, law_any_lt hD3 (by decide) (by decide) fun r S4 r0 r1 u4 hD4 => ⟨_, _, rfl, rfl, [.int n, .int n, .int (9 + r)], rfl, (show 3 ≤ 1000 by decide), law_of_list hD4 (by simp) (show 3 < 2 ^ 60 by decide) fun d hd S5 u5 hD5 => ?_⟩⟩
    have r1 : r < 4 := r1
    obtain ⟨m, rfl, m1, m2⟩ : ∃ m : Nat, d = .int m ∧ 1 ≤ m ∧ m ≤ 12 := by
      revert d
      exact forall_mem_cons' ⟨n, rfl, n1, by omega⟩ (forall_mem_cons' ⟨n, rfl, n1, by omega⟩ (forall_mem_cons' ⟨(9 + r).toNat, by rw [show (((9 + r).toNat : Nat) : Int) = 9 + r by omega], by omega, by omega⟩ forall_mem_nil))
    refine ⟨7, rfl, ⟨by decide, by decide⟩, by decide, ?_⟩
    refine lcGo_drawn (f := fun a => W.d (ti a)) (P := PmP m) (dl := dl) (d1 := d1) (fun τ S A B h ⟨w1, e1, w2, e2, q⟩ => ⟨w1, e1, w2, e2, mono_shuffled h q⟩) hD5 (fun S' w A hD' k => ⟨_, rfl, _, rfl, ⟨dl, d1, m, rfl, by omega, hD', k⟩⟩) ?_
    intro gs S6 gl gp u6 hD6
    have gl7 : gs.length = 7 := gl
    have g0 : gs ≠ [] := fun z => by subst z; exact absurd gl7 (by decide)
    exact ⟨gs.map ti, by rw [List.map_map]; rfl, rest_law m1 (by omega) g0 (by omega) gp hD6 q⟩

end Lk10

namespace Lk10
open PySem PySem.Spec L2 H3
open PyProof.Rows hiding St
theorem ok_law_join {P : Program} {w : World} {K : PySem.W.Frag} {mg : Str → Option Value} {base : Heap} (T : Txt K mg)  : FnG P w K mg base (L2.CX P w) 1 T.f_law_join T.d_law_join P_law_join (LSp K sp_law_join) := by
  refine fn3 T.F_law_join sc_law_join rd_law_join len_law_join sem_law_join ?_
  intro X cdv A outer s H E hX gd hr tk hp
  have sc := sc_law_join
  subst hX
  exact (pss3_one (ps3_ret (pe3_Ty call_tuple_ofN l_tuple rfl T.z_tuple (by decide +kernel) (pa3_cons (pe3_lcD [("state", 2)] rfl sc.nd (pi3_seq (pv3 0)) (blkOk_by (N := N_law_join) (sc := defScope s_law_join) (by decide +kernel)) lgl_name wp_name (fun _ _ _ _ _ => (pg_name (i := 2) sc.nd rfl (Or.inl rfl))) (fun _ _ _ _ _ => pts3_nil) (fun _ _ _ _ _ => (pe3_ix (pv3 1) (pv3 2)))) pa3_nil))))
theorem ok_law_all {P : Program} {w : World} {K : PySem.W.Frag} {mg : Str → Option Value} {base : Heap} (T : Txt K mg) (G_law_join : FnG P w K mg base (L2.CX P w) 1 T.f_law_join T.d_law_join P_law_join (LSp K sp_law_join)) : FnG P w K mg base (L2.CX P w) 2 T.f_law_all T.d_law_all P_law_all (LSp K sp_law_all) := by
  refine fn3 T.F_law_all sc_law_all rd_law_all len_law_all sem_law_all ?_
  intro X cdv A outer s H E hX gd hr tk hp
  have sc := sc_law_all
  subst hX
  exact (pss3_cons (ps3_set 2 sc.nd rfl (pe3_tupRg rfl rfl T.z_tuple (prg3_1 rfl T.z_range (pv3 1)))) (pss3_cons (ps3_for hp rfl (pi3_seq (pv3 0)) (pg3_name 3 sc.nd) (pss3_one (ps3_set 2 sc.nd rfl (pe3_call G_law_join gd (hr.mono (by decide)) tk rfl T.m_law_join T.F_law_join.kp (b_law_join T.F_law_join) (pa3_cons (pv3 2) (pa3_cons (pv3 3) pa3_nil)))))) (pss3_one (ps3_ret (pv3 2)))))
theorem ok_law_any {P : Program} {w : World} {K : PySem.W.Frag} {mg : Str → Option Value} {base : Heap} (T : Txt K mg)  : FnG P w K mg base (L2.CX P w) 1 T.f_law_any T.d_law_any P_law_any (LSp K sp_law_any) := by
  refine fn3 T.F_law_any sc_law_any rd_law_any len_law_any sem_law_any ?_
  intro X cdv A outer s H E hX gd hr tk hp
  have sc := sc_law_any
  subst hX
  exact (pss3_cons (ps3_while hp (PW.pt (pw3_and (pt3_cmp (op_neX (un64 hr)) l_ne (pe3_ix (pv3 0) pi3) (pe3_lstD pa3_nil) (nomark _)) (pw3_and1 (pt3_cmp (op_eqX (un64 hr)) l_eq (pe3_ix (pe3_ix (pv3 0) pi3) (pe3_neg pi3)) pi3 (nomark _))))) (pss3_one (ps3_expr (pe3_bm0 PySem.F.slot_list_pop PySem.F.type_list_pop mt_pop l_pop (pe3_ix (pv3 0) pi3))))) (pss3_cons (ps3_if (pt3_cmp (op_neX (un64 hr)) l_ne (pe3_ix (pv3 0) pi3) (pe3_lstD pa3_nil) (nomark _)) (pss3_cons (ps3_set 2 sc.nd rfl (pe3_Ty call_int1 l_int rfl T.z_int (by decide +kernel) (pa3_cons (pe3_bm0 PySem.F.slot_list_pop PySem.F.type_list_pop mt_pop l_pop (pe3_ix (pv3 0) pi3)) pa3_nil))) (pss3_cons (ps3_expr (pe3_bm PySem.F.slot_list_append PySem.F.type_list_append mt_append l_append (pe3_ix (pv3 0) pi3) (pa3_cons (pe3_op op_fdivW l_div (pv3 2) (pv3 1)) pa3_nil))) (pss3_one (ps3_ret (pe3_op op_mod l_mod (pv3 2) (pv3 1)))))) pss3_nil) (pss3_cons (ps3_asg (pe3_op op_mod l_mod (pe3_Ty call_int1 l_int rfl T.z_int (by decide +kernel) (pa3_cons (pe3_op op_add l_add (pe3_op op_mul l_mul (pe3_ix (pv3 0) pi3) pi3) pi3) pa3_nil)) pi3) (pg3_sub (pv3 0) pi3)) (pss3_one (ps3_ret (pe3_op op_mod l_mod (pe3_Ty call_int1 l_int rfl T.z_int (by decide +kernel) (pa3_cons (pe3_op op_fdivW l_div (pe3_ix (pv3 0) pi3) pi3) pa3_nil)) (pv3 1)))))))
theorem ok_law_back {P : Program} {w : World} {K : PySem.W.Frag} {mg : Str → Option Value} {base : Heap} (T : Txt K mg)  : FnG P w K mg base (L2.CX P w) 1 T.f_law_back T.d_law_back P_law_back (LSp K sp_law_back) := by
  refine fn3 T.F_law_back sc_law_back rd_law_back len_law_back sem_law_back ?_
  intro X cdv A outer s H E hX gd hr tk hp
  have sc := sc_law_back
  subst hX
  exact (pss3_cons (ps3_set 1 sc.nd rfl (pe3_op op_rep l_repM (pe3_lstM (pa3_cons pi3 pa3_nil)) (pe3_B call_len3 l_len rfl T.z_len (by decide +kernel) (pa3_cons (pv3 0) pa3_nil)))) (pss3_cons (ps3_for hp rfl (pi3_range1 rfl T.z_range (pa3_cons (pe3_B call_len3 l_len rfl T.z_len (by decide +kernel) (pa3_cons (pv3 0) pa3_nil)) pa3_nil)) (pg3_name 2 sc.nd) (pss3_one (ps3_asg (pv3 2) (pg3_sub (pv3 1) (pe3_ix (pv3 0) (pv3 2)))))) (pss3_one (ps3_ret (pe3_Ty call_tuple_ofN l_tuple rfl T.z_tuple (by decide +kernel) (pa3_cons (pv3 1) pa3_nil))))))
theorem ok_law_fold {P : Program} {w : World} {K : PySem.W.Frag} {mg : Str → Option Value} {base : Heap} (T : Txt K mg) (G_law_all : FnG P w K mg base (L2.CX P w) 2 T.f_law_all T.d_law_all P_law_all (LSp K sp_law_all)) (G_law_back : FnG P w K mg base (L2.CX P w) 1 T.f_law_back T.d_law_back P_law_back (LSp K sp_law_back)) : FnG P w K mg base (L2.CX P w) 3 T.f_law_fold T.d_law_fold P_law_fold (LSp K sp_law_fold) := by
  refine fn3 T.F_law_fold sc_law_fold rd_law_fold len_law_fold sem_law_fold ?_
  intro X cdv A outer s H E hX gd hr tk hp
  have sc := sc_law_fold
  subst hX
  exact (pss3_cons (ps3_set 1 sc.nd rfl (pe3_ix (pv3 0) pi3)) (pss3_cons (ps3_for hp rfl (pi3_seq (pe3_slice sl_list l_slL (pv3 0) (po3_some pi3) po3_none)) (pg3_name 2 sc.nd) (pss3_one (ps3_set 1 sc.nd rfl (pe3_call G_law_all gd (hr.mono (by decide)) tk rfl T.m_law_all T.F_law_all.kp (b_law_all T.F_law_all) (pa3_cons (pe3_lstD (pa3_cons (pv3 1) (pa3_cons (pv3 2) (pa3_cons (pe3_call G_law_back gd (hr.mono (by decide)) tk rfl T.m_law_back T.F_law_back.kp (b_law_back T.F_law_back) (pa3_cons (pv3 1) pa3_nil)) (pa3_cons (pe3_call G_law_back gd (hr.mono (by decide)) tk rfl T.m_law_back T.F_law_back.kp (b_law_back T.F_law_back) (pa3_cons (pv3 2) pa3_nil)) pa3_nil))))) (pa3_cons (pe3_B call_len3 l_len rfl T.z_len (by decide +kernel) (pa3_cons (pv3 2) pa3_nil)) pa3_nil)))))) (pss3_one (ps3_ret (pv3 1)))))
theorem ok_law_made {P : Program} {w : World} {K : PySem.W.Frag} {mg : Str → Option Value} {base : Heap} (T : Txt K mg) (G_law_join : FnG P w K mg base (L2.CX P w) 1 T.f_law_join T.d_law_join P_law_join (LSp K sp_law_join)) : FnG P w K mg base (L2.CX P w) 2 T.f_law_made T.d_law_made P_law_made (LSp K sp_law_made) := by
  refine fn3 T.F_law_made sc_law_made rd_law_made len_law_made sem_law_made ?_
  intro X cdv A outer s H E hX gd hr tk hp
  have sc := sc_law_made
  subst hX
  exact (pss3_cons (ps3_set 2 sc.nd rfl (pe3_lstM (pa3_cons (pe3_tupRg rfl rfl T.z_tuple (prg3_1 rfl T.z_range (pv3 1))) pa3_nil))) (pss3_cons (ps3_for hp rfl (pi3_range1 rfl T.z_range (pa3_cons pi3 pa3_nil)) (pg3_name 3 sc.nd) (pss3_cons (ps3_if (pt3_cmp (op_eqX (un64 hr)) l_eq (pv3 3) (pe3_B call_len3 l_len rfl T.z_len (by decide +kernel) (pa3_cons (pv3 2) pa3_nil)) (nomark _)) (pss3_one ps3_break) pss3_nil) (pss3_one (ps3_for hp rfl (pi3_seq (pv3 0)) (pg3_name 4 sc.nd) (pss3_cons (ps3_set 5 sc.nd rfl (pe3_call G_law_join gd (hr.mono (by decide)) tk rfl T.m_law_join T.F_law_join.kp (b_law_join T.F_law_join) (pa3_cons (pe3_ix (pv3 2) (pv3 3)) (pa3_cons (pv3 4) pa3_nil)))) (pss3_one (ps3_if (pt3_cmp (op_notInV (un70 hr)) l_in (pv3 5) (pv3 2) (by rfl)) (pss3_one (ps3_expr (pe3_bm PySem.F.slot_list_append PySem.F.type_list_append mt_append l_append (pv3 2) (pa3_cons (pv3 5) pa3_nil)))) pss3_nil))))))) (pss3_one (ps3_ret (pe3_B (cr_sortD (un70 hr)) l_sorted rfl T.z_sorted (by decide +kernel) (pa3_cons (pv3 2) pa3_nil))))))
theorem ok_law_of {P : Program} {w : World} {K : PySem.W.Frag} {mg : Str → Option Value} {base : Heap} (T : Txt K mg) (G_law_any : FnG P w K mg base (L2.CX P w) 1 T.f_law_any T.d_law_any P_law_any (LSp K sp_law_any)) : FnG P w K mg base (L2.CX P w) 2 T.f_law_of T.d_law_of P_law_of (LSp K sp_law_of) := by
  refine fn3 T.F_law_of sc_law_of rd_law_of len_law_of sem_law_of ?_
  intro X cdv A outer s H E hX gd hr tk hp
  have sc := sc_law_of
  subst hX
  exact (pss3_one (ps3_ret (pe3_ix (pv3 1) (pe3_call G_law_any gd (hr.mono (by decide)) tk rfl T.m_law_any T.F_law_any.kp (b_law_any T.F_law_any) (pa3_cons (pv3 0) (pa3_cons (pe3_B call_len3 l_len rfl T.z_len (by decide +kernel) (pa3_cons (pv3 1) pa3_nil)) pa3_nil))))))
theorem ok_joined {P : Program} {w : World} {K : PySem.W.Frag} {mg : Str → Option Value} {base : Heap} (T : Txt K mg)  : FnG P w K mg base (L2.CX P w) 1 T.f_joined T.d_joined P_joined (LSp K sp_joined) := by
  refine fn3 T.F_joined sc_joined rd_joined len_joined sem_joined ?_
  intro X cdv A outer s H E hX gd hr tk hp
  have sc := sc_joined
  subst hX
  exact (pss3_one (ps3_ret (pe3_Ty call_tuple_ofN l_tuple rfl T.z_tuple (by decide +kernel) (pa3_cons (pe3_lcD [("state", 2)] rfl sc.nd (pi3_seq (pv3 0)) (blkOk_by (N := N_joined) (sc := defScope s_joined) (by decide +kernel)) lgl_name wp_name (fun _ _ _ _ _ => (pg_name (i := 2) sc.nd rfl (Or.inl rfl))) (fun _ _ _ _ _ => pts3_nil) (fun _ _ _ _ _ => (pe3_ix (pv3 1) (pv3 2)))) pa3_nil))))
theorem ok_is_turning {P : Program} {w : World} {K : PySem.W.Frag} {mg : Str → Option Value} {base : Heap} (T : Txt K mg)  : FnG P w K mg base (L2.CX P w) 1 T.f_is_turning T.d_is_turning P_is_turning (LSp K sp_is_turning) := by
  refine fn3 T.F_is_turning sc_is_turning rd_is_turning len_is_turning sem_is_turning ?_
  intro X cdv A outer s H E hX gd hr tk hp
  have sc := sc_is_turning
  subst hX
  exact (pss3_one (ps3_ret (pe3_cmp (op_eqX (un64 hr)) l_eq (pe3_lenSet rfl rfl T.z_len rfl T.z_set (pv3 0)) (pe3_B call_len3 l_len rfl T.z_len (by decide +kernel) (pa3_cons (pv3 0) pa3_nil)) (nomark _))))
theorem ok_need_turning {P : Program} {w : World} {K : PySem.W.Frag} {mg : Str → Option Value} {base : Heap} (T : Txt K mg) (G_is_turning : FnG P w K mg base (L2.CX P w) 1 T.f_is_turning T.d_is_turning P_is_turning (LSp K sp_is_turning)) : FnG P w K mg base (L2.CX P w) 2 T.f_need_turning T.d_need_turning P_need_turning (LSp K sp_need_turning) := by
  refine fn3 T.F_need_turning sc_need_turning rd_need_turning len_need_turning sem_need_turning ?_
  intro X cdv A outer s H E hX gd hr tk hp
  have sc := sc_need_turning
  subst hX
  exact (pss3_one (ps3_if (pt3_not (pt3_val (pe3_call G_is_turning gd (hr.mono (by decide)) tk rfl T.m_is_turning T.F_is_turning.kp (b_is_turning T.F_is_turning) (pa3_cons (pv3 0) pa3_nil)))) (pss3_one ps3_never) pss3_nil))
theorem ok_turned_back {P : Program} {w : World} {K : PySem.W.Frag} {mg : Str → Option Value} {base : Heap} (T : Txt K mg) (G_need_turning : FnG P w K mg base (L2.CX P w) 2 T.f_need_turning T.d_need_turning P_need_turning (LSp K sp_need_turning)) : FnG P w K mg base (L2.CX P w) 3 T.f_turned_back T.d_turned_back P_turned_back (LSp K sp_turned_back) := by
  refine fn3 T.F_turned_back sc_turned_back rd_turned_back len_turned_back sem_turned_back ?_
  intro X cdv A outer s H E hX gd hr tk hp
  have sc := sc_turned_back
  subst hX
  exact (pss3_cons (ps3_expr (pe3_call G_need_turning gd (hr.mono (by decide)) tk rfl T.m_need_turning T.F_need_turning.kp (b_need_turning T.F_need_turning) (pa3_cons (pv3 0) pa3_nil))) (pss3_one (ps3_ret (pe3_Ty call_tuple_ofN l_tuple rfl T.z_tuple (by decide +kernel) (pa3_cons (pe3_lcD [("state", 1)] rfl sc.nd (pi3_range1 rfl T.z_range (pa3_cons (pe3_B call_len3 l_len rfl T.z_len (by decide +kernel) (pa3_cons (pv3 0) pa3_nil)) pa3_nil)) (blkOk_by (N := N_turned_back) (sc := defScope s_turned_back) (by decide +kernel)) lgl_name wp_name (fun _ _ _ _ _ => (pg_name (i := 1) sc.nd rfl (Or.inl rfl))) (fun _ _ _ _ _ => pts3_nil) (fun _ _ _ _ _ => (pe3_tm PySem.F.slot_tuple_index PySem.F.type_tuple_index mt_tupIndexI l_tix (pv3 0) (pa3_cons (pv3 1) pa3_nil)))) pa3_nil)))))
theorem ok_commutator {P : Program} {w : World} {K : PySem.W.Frag} {mg : Str → Option Value} {base : Heap} (T : Txt K mg) (G_joined : FnG P w K mg base (L2.CX P w) 1 T.f_joined T.d_joined P_joined (LSp K sp_joined)) (G_turned_back : FnG P w K mg base (L2.CX P w) 3 T.f_turned_back T.d_turned_back P_turned_back (LSp K sp_turned_back)) : FnG P w K mg base (L2.CX P w) 4 T.f_commutator T.d_commutator P_commutator (LSp K sp_commutator) := by
  refine fn3 T.F_commutator sc_commutator rd_commutator len_commutator sem_commutator ?_
  intro X cdv A outer s H E hX gd hr tk hp
  have sc := sc_commutator
  subst hX
  exact (pss3_one (ps3_ret (pe3_call G_joined gd (hr.mono (by decide)) tk rfl T.m_joined T.F_joined.kp (b_joined T.F_joined) (pa3_cons (pe3_call G_joined gd (hr.mono (by decide)) tk rfl T.m_joined T.F_joined.kp (b_joined T.F_joined) (pa3_cons (pv3 0) (pa3_cons (pv3 1) pa3_nil))) (pa3_cons (pe3_call G_joined gd (hr.mono (by decide)) tk rfl T.m_joined T.F_joined.kp (b_joined T.F_joined) (pa3_cons (pe3_call G_turned_back gd (hr.mono (by decide)) tk rfl T.m_turned_back T.F_turned_back.kp (b_turned_back T.F_turned_back) (pa3_cons (pv3 0) pa3_nil)) (pa3_cons (pe3_call G_turned_back gd (hr.mono (by decide)) tk rfl T.m_turned_back T.F_turned_back.kp (b_turned_back T.F_turned_back) (pa3_cons (pv3 1) pa3_nil)) pa3_nil))) pa3_nil)))))
theorem ok_conjugate {P : Program} {w : World} {K : PySem.W.Frag} {mg : Str → Option Value} {base : Heap} (T : Txt K mg) (G_joined : FnG P w K mg base (L2.CX P w) 1 T.f_joined T.d_joined P_joined (LSp K sp_joined)) (G_turned_back : FnG P w K mg base (L2.CX P w) 3 T.f_turned_back T.d_turned_back P_turned_back (LSp K sp_turned_back)) : FnG P w K mg base (L2.CX P w) 4 T.f_conjugate T.d_conjugate P_conjugate (LSp K sp_conjugate) := by
  refine fn3 T.F_conjugate sc_conjugate rd_conjugate len_conjugate sem_conjugate ?_
  intro X cdv A outer s H E hX gd hr tk hp
  have sc := sc_conjugate
  subst hX
  exact (pss3_one (ps3_ret (pe3_call G_joined gd (hr.mono (by decide)) tk rfl T.m_joined T.F_joined.kp (b_joined T.F_joined) (pa3_cons (pe3_call G_joined gd (hr.mono (by decide)) tk rfl T.m_joined T.F_joined.kp (b_joined T.F_joined) (pa3_cons (pe3_call G_turned_back gd (hr.mono (by decide)) tk rfl T.m_turned_back T.F_turned_back.kp (b_turned_back T.F_turned_back) (pa3_cons (pv3 1) pa3_nil)) (pa3_cons (pv3 0) pa3_nil))) (pa3_cons (pv3 1) pa3_nil)))))
theorem ok_law_pair_right {P : Program} {w : World} {K : PySem.W.Frag} {mg : Str → Option Value} {base : Heap} (T : Txt K mg) (G_law_join : FnG P w K mg base (L2.CX P w) 1 T.f_law_join T.d_law_join P_law_join (LSp K sp_law_join)) (G_law_all : FnG P w K mg base (L2.CX P w) 2 T.f_law_all T.d_law_all P_law_all (LSp K sp_law_all)) (G_law_back : FnG P w K mg base (L2.CX P w) 1 T.f_law_back T.d_law_back P_law_back (LSp K sp_law_back)) (G_joined : FnG P w K mg base (L2.CX P w) 1 T.f_joined T.d_joined P_joined (LSp K sp_joined)) (G_turned_back : FnG P w K mg base (L2.CX P w) 3 T.f_turned_back T.d_turned_back P_turned_back (LSp K sp_turned_back)) (G_commutator : FnG P w K mg base (L2.CX P w) 4 T.f_commutator T.d_commutator P_commutator (LSp K sp_commutator)) (G_conjugate : FnG P w K mg base (L2.CX P w) 4 T.f_conjugate T.d_conjugate P_conjugate (LSp K sp_conjugate)) : FnG P w K mg base (L2.CX P w) 5 T.f_law_pair_right T.d_law_pair_right P_law_pair_right (LSp K sp_law_pair_right) := by
  refine fn3 T.F_law_pair_right sc_law_pair_right rd_law_pair_right len_law_pair_right sem_law_pair_right ?_
  intro X cdv A outer s H E hX gd hr tk hp
  have sc := sc_law_pair_right
  subst hX
  exact (pss3_cons (ps3_par 4 5 rfl sc.nd (pa3_cons (pe3_call G_commutator gd (hr.mono (by decide)) tk rfl T.m_commutator T.F_commutator.kp (b_commutator T.F_commutator) (pa3_cons (pv3 0) (pa3_cons (pv3 1) pa3_nil))) (pa3_cons (pe3_call G_law_all gd (hr.mono (by decide)) tk rfl T.m_law_all T.F_law_all.kp (b_law_all T.F_law_all) (pa3_cons (pe3_lstD (pa3_cons (pv3 0) (pa3_cons (pv3 1) (pa3_cons (pe3_call G_law_back gd (hr.mono (by decide)) tk rfl T.m_law_back T.F_law_back.kp (b_law_back T.F_law_back) (pa3_cons (pv3 0) pa3_nil)) (pa3_cons (pe3_call G_law_back gd (hr.mono (by decide)) tk rfl T.m_law_back T.F_law_back.kp (b_law_back T.F_law_back) (pa3_cons (pv3 1) pa3_nil)) pa3_nil))))) (pa3_cons (pe3_B call_len3 l_len rfl T.z_len (by decide +kernel) (pa3_cons (pv3 0) pa3_nil)) pa3_nil))) pa3_nil))) (pss3_cons (ps3_if (PW.pt (pw3_or (pt3_cmp (op_neX (un64 hr)) l_ne (pe3_B (call_repr3 gd (un70 hr)) l_repr rfl T.z_repr (by decide +kernel) (pa3_cons (pv3 4) pa3_nil)) (pe3_B (call_repr3 gd (un70 hr)) l_repr rfl T.z_repr (by decide +kernel) (pa3_cons (pv3 5) pa3_nil)) (nomark _)) (pw3_or1 (pt3_cmp (op_neX (un64 hr)) l_ne (pe3_B (call_repr3 gd (un70 hr)) l_repr rfl T.z_repr (by decide +kernel) (pa3_cons (pe3_call G_turned_back gd (hr.mono (by decide)) tk rfl T.m_turned_back T.F_turned_back.kp (b_turned_back T.F_turned_back) (pa3_cons (pv3 4) pa3_nil)) pa3_nil)) (pe3_B (call_repr3 gd (un70 hr)) l_repr rfl T.z_repr (by decide +kernel) (pa3_cons (pe3_callK (x := "commutator") G_commutator gd (hr.mono (by decide)) tk rfl T.m_commutator T.F_commutator.kp (kb_commutator_0 T.F_commutator) (kw_commutator_0 _) (pk3_cons (pv3 0) (pk3_cons (pv3 1) pk3_nil))) pa3_nil)) (nomark _))))) (pss3_one (ps3_ret pb3)) pss3_nil) (pss3_cons (ps3_if (pt3_cmp (op_neX (un64 hr)) l_ne (pe3_cmp (op_eqX (un64 hr)) l_eq (pv3 4) (pv3 2) (nomark _)) (pe3_cmp (op_eqX (un64 hr)) l_eq (pe3_call G_law_join gd (hr.mono (by decide)) tk rfl T.m_law_join T.F_law_join.kp (b_law_join T.F_law_join) (pa3_cons (pv3 0) (pa3_cons (pv3 1) pa3_nil))) (pe3_call G_law_join gd (hr.mono (by decide)) tk rfl T.m_law_join T.F_law_join.kp (b_law_join T.F_law_join) (pa3_cons (pv3 1) (pa3_cons (pv3 0) pa3_nil))) (nomark _)) (nomark _)) (pss3_one (ps3_ret pb3)) pss3_nil) (pss3_cons (ps3_set 3 sc.nd rfl (pe3_callK (x := "conjugate") G_conjugate gd (hr.mono (by decide)) tk rfl T.m_conjugate T.F_conjugate.kp (kb_conjugate_0 T.F_conjugate) (kw_conjugate_0 _) (pk3_cons (pv3 1) (pk3_cons (pv3 0) pk3_nil)))) (pss3_cons (ps3_if (PW.pt (pw3_or (pt3_cmp (op_neX (un64 hr)) l_ne (pe3_B (call_repr3 gd (un70 hr)) l_repr rfl T.z_repr (by decide +kernel) (pa3_cons (pv3 3) pa3_nil)) (pe3_B (call_repr3 gd (un70 hr)) l_repr rfl T.z_repr (by decide +kernel) (pa3_cons (pe3_call G_law_all gd (hr.mono (by decide)) tk rfl T.m_law_all T.F_law_all.kp (b_law_all T.F_law_all) (pa3_cons (pe3_lstD (pa3_cons (pe3_call G_law_back gd (hr.mono (by decide)) tk rfl T.m_law_back T.F_law_back.kp (b_law_back T.F_law_back) (pa3_cons (pv3 1) pa3_nil)) (pa3_cons (pv3 0) (pa3_cons (pv3 1) pa3_nil)))) (pa3_cons (pe3_B call_len3 l_len rfl T.z_len (by decide +kernel) (pa3_cons (pv3 0) pa3_nil)) pa3_nil))) pa3_nil)) (nomark _)) (pw3_or1 (pt3_cmp (op_neX (un64 hr)) l_ne (pe3_call G_joined gd (hr.mono (by decide)) tk rfl T.m_joined T.F_joined.kp (b_joined T.F_joined) (pa3_cons (pv3 1) (pa3_cons (pv3 3) pa3_nil))) (pe3_call G_joined gd (hr.mono (by decide)) tk rfl T.m_joined T.F_joined.kp (b_joined T.F_joined) (pa3_cons (pv3 0) (pa3_cons (pv3 1) pa3_nil))) (nomark _))))) (pss3_one (ps3_ret pb3)) pss3_nil) (pss3_one (ps3_ret (pe3_and (pe3_cmp (op_eqX (un64 hr)) l_eq (pe3_call G_commutator gd (hr.mono (by decide)) tk rfl T.m_commutator T.F_commutator.kp (b_commutator T.F_commutator) (pa3_cons (pv3 0) (pa3_cons (pv3 0) pa3_nil))) (pv3 2) (nomark _)) (pe3_and (pe3_cmp (op_eqX (un64 hr)) l_eq (pe3_call G_commutator gd (hr.mono (by decide)) tk rfl T.m_commutator T.F_commutator.kp (b_commutator T.F_commutator) (pa3_cons (pv3 0) (pa3_cons (pv3 2) pa3_nil))) (pv3 2) (nomark _)) (pe3_one (pe3_cmp (op_eqX (un64 hr)) l_eq (pe3_call G_commutator gd (hr.mono (by decide)) tk rfl T.m_commutator T.F_commutator.kp (b_commutator T.F_commutator) (pa3_cons (pv3 2) (pa3_cons (pv3 0) pa3_nil))) (pv3 2) (nomark _))))))))))))
theorem ok_law_parts_right {P : Program} {w : World} {K : PySem.W.Frag} {mg : Str → Option Value} {base : Heap} (T : Txt K mg) (G_joined : FnG P w K mg base (L2.CX P w) 1 T.f_joined T.d_joined P_joined (LSp K sp_joined)) (G_turned_back : FnG P w K mg base (L2.CX P w) 3 T.f_turned_back T.d_turned_back P_turned_back (LSp K sp_turned_back)) (G_commutator : FnG P w K mg base (L2.CX P w) 4 T.f_commutator T.d_commutator P_commutator (LSp K sp_commutator)) (G_conjugate : FnG P w K mg base (L2.CX P w) 4 T.f_conjugate T.d_conjugate P_conjugate (LSp K sp_conjugate)) : FnG P w K mg base (L2.CX P w) 5 T.f_law_parts_right T.d_law_parts_right P_law_parts_right (LSp K sp_law_parts_right) := by
  refine fn3 T.F_law_parts_right sc_law_parts_right rd_law_parts_right len_law_parts_right sem_law_parts_right ?_
  intro X cdv A outer s H E hX gd hr tk hp
  have sc := sc_law_parts_right
  subst hX
  exact (pss3_cons (ps3_set 3 sc.nd rfl (pe3_call G_commutator gd (hr.mono (by decide)) tk rfl T.m_commutator T.F_commutator.kp (b_commutator T.F_commutator) (pa3_cons (pe3_call G_joined gd (hr.mono (by decide)) tk rfl T.m_joined T.F_joined.kp (b_joined T.F_joined) (pa3_cons (pv3 0) (pa3_cons (pv3 1) pa3_nil))) (pa3_cons (pv3 2) pa3_nil)))) (pss3_cons (ps3_if (pt3_cmp (op_neX (un64 hr)) l_ne (pv3 3) (pe3_call G_joined gd (hr.mono (by decide)) tk rfl T.m_joined T.F_joined.kp (b_joined T.F_joined) (pa3_cons (pe3_call G_conjugate gd (hr.mono (by decide)) tk rfl T.m_conjugate T.F_conjugate.kp (b_conjugate T.F_conjugate) (pa3_cons (pe3_call G_commutator gd (hr.mono (by decide)) tk rfl T.m_commutator T.F_commutator.kp (b_commutator T.F_commutator) (pa3_cons (pv3 1) (pa3_cons (pv3 2) pa3_nil))) (pa3_cons (pe3_call G_turned_back gd (hr.mono (by decide)) tk rfl T.m_turned_back T.F_turned_back.kp (b_turned_back T.F_turned_back) (pa3_cons (pv3 0) pa3_nil)) pa3_nil))) (pa3_cons (pe3_call G_commutator gd (hr.mono (by decide)) tk rfl T.m_commutator T.F_commutator.kp (b_commutator T.F_commutator) (pa3_cons (pv3 0) (pa3_cons (pv3 2) pa3_nil))) pa3_nil))) (nomark _)) (pss3_one (ps3_ret pb3)) pss3_nil) (pss3_cons (ps3_set 4 sc.nd rfl (pe3_call G_commutator gd (hr.mono (by decide)) tk rfl T.m_commutator T.F_commutator.kp (b_commutator T.F_commutator) (pa3_cons (pv3 2) (pa3_cons (pe3_call G_joined gd (hr.mono (by decide)) tk rfl T.m_joined T.F_joined.kp (b_joined T.F_joined) (pa3_cons (pv3 0) (pa3_cons (pv3 1) pa3_nil))) pa3_nil)))) (pss3_one (ps3_ret (pe3_cmp (op_eqX (un64 hr)) l_eq (pv3 4) (pe3_call G_joined gd (hr.mono (by decide)) tk rfl T.m_joined T.F_joined.kp (b_joined T.F_joined) (pa3_cons (pe3_call G_commutator gd (hr.mono (by decide)) tk rfl T.m_commutator T.F_commutator.kp (b_commutator T.F_commutator) (pa3_cons (pv3 2) (pa3_cons (pv3 0) pa3_nil))) (pa3_cons (pe3_call G_conjugate gd (hr.mono (by decide)) tk rfl T.m_conjugate T.F_conjugate.kp (b_conjugate T.F_conjugate) (pa3_cons (pe3_call G_commutator gd (hr.mono (by decide)) tk rfl T.m_commutator T.F_commutator.kp (b_commutator T.F_commutator) (pa3_cons (pv3 2) (pa3_cons (pv3 1) pa3_nil))) (pa3_cons (pe3_call G_turned_back gd (hr.mono (by decide)) tk rfl T.m_turned_back T.F_turned_back.kp (b_turned_back T.F_turned_back) (pa3_cons (pv3 0) pa3_nil)) pa3_nil))) pa3_nil))) (nomark _)))))))
theorem ok_law_row {P : Program} {w : World} {K : PySem.W.Frag} {mg : Str → Option Value} {base : Heap} (T : Txt K mg) (G_law_any : FnG P w K mg base (L2.CX P w) 1 T.f_law_any T.d_law_any P_law_any (LSp K sp_law_any)) (G_law_of : FnG P w K mg base (L2.CX P w) 2 T.f_law_of T.d_law_of P_law_of (LSp K sp_law_of)) : FnG P w K mg base (L2.CX P w) 3 T.f_law_row T.d_law_row P_law_row (LSp K sp_law_row) := by
  refine fn3 T.F_law_row sc_law_row rd_law_row len_law_row sem_law_row ?_
  intro X cdv A outer s H E hX gd hr tk hp
  have sc := sc_law_row
  subst hX
  exact (pss3_cons (ps3_setLcM 2 [("turn", 3)] rfl sc.nd (sw_true rfl rfl rfl (by decide +kernel)) (pi3_range1 rfl T.z_range (pa3_cons (pe3_op op_add l_add pi3 (pe3_call G_law_any gd (hr.mono (by decide)) tk rfl T.m_law_any T.F_law_any.kp (b_law_any T.F_law_any) (pa3_cons (pv3 0) (pa3_cons (pe3_call G_law_of gd (hr.mono (by decide)) tk rfl T.m_law_of T.F_law_of.kp (b_law_of T.F_law_of) (pa3_cons (pv3 0) (pa3_cons (pe3_lstD (pa3_cons pi3 (pa3_cons pi3 (pa3_cons pi3 pa3_nil)))) pa3_nil))) pa3_nil)))) pa3_nil)) (blkOk_by (N := N_law_row) (sc := defScope s_law_row) (by decide +kernel)) lgl_name wp_name (fun _ _ _ _ _ => (pg_name (i := 3) sc.nd rfl (Or.inl rfl))) (fun _ _ _ _ _ => pts3_nil) (fun _ _ _ _ _ => (pe3_call G_law_of gd (hr.mono (by decide)) takes0 rfl T.m_law_of T.F_law_of.kp (b_law_of T.F_law_of) (pa3_cons (pv3 0) (pa3_cons (pv3 1) pa3_nil))))) (pss3_cons (ps3_if (pt3_cmp (op_eqX (un64 hr)) l_eq (pe3_call G_law_any gd (hr.mono (by decide)) tk rfl T.m_law_any T.F_law_any.kp (b_law_any T.F_law_any) (pa3_cons (pv3 0) (pa3_cons pi3 pa3_nil))) pi3 (nomark _)) (pss3_one (ps3_asg (pe3_tupRg rfl rfl T.z_tuple (prg3_1 rfl T.z_range (pe3_B call_len3 l_len rfl T.z_len (by decide +kernel) (pa3_cons (pe3_ix (pv3 2) pi3) pa3_nil)))) (pg3_sub (pv3 2) (pe3_call G_law_any gd (hr.mono (by decide)) tk rfl T.m_law_any T.F_law_any.kp (b_law_any T.F_law_any) (pa3_cons (pv3 0) (pa3_cons (pe3_B call_len3 l_len rfl T.z_len (by decide +kernel) (pa3_cons (pv3 2) pa3_nil)) pa3_nil)))))) pss3_nil) (pss3_cons (ps3_if (pt3_cmp (op_eqX (un64 hr)) l_eq (pe3_call G_law_any gd (hr.mono (by decide)) tk rfl T.m_law_any T.F_law_any.kp (b_law_any T.F_law_any) (pa3_cons (pv3 0) (pa3_cons pi3 pa3_nil))) pi3 (nomark _)) (pss3_one (ps3_set 2 sc.nd rfl (pe3_op op_cat l_catM (pe3_slice sl_list l_slM (pv3 2) po3_none (po3_some pi3)) (pe3_lstM (pa3_cons (pe3_ix (pv3 2) pi3) pa3_nil))))) pss3_nil) (pss3_frz 2 (pss3_one (ps3_ret (pv3 2)))))))
theorem ok_law_shuffled {P : Program} {w : World} {K : PySem.W.Frag} {mg : Str → Option Value} {base : Heap} (T : Txt K mg) (G_law_any : FnG P w K mg base (L2.CX P w) 1 T.f_law_any T.d_law_any P_law_any (LSp K sp_law_any)) : FnG P w K mg base (L2.CX P w) 2 T.f_law_shuffled T.d_law_shuffled P_law_shuffled (LSp K sp_law_shuffled) := by
  refine fn3 T.F_law_shuffled sc_law_shuffled rd_law_shuffled len_law_shuffled sem_law_shuffled ?_
  intro X cdv A outer s H E hX gd hr tk hp
  have sc := sc_law_shuffled
  subst hX
  exact (pss3_cons (ps3_par 3 4 rfl sc.nd (pa3_cons (pe3_lstRgM rfl rfl T.z_list (prg3_1 rfl T.z_range (pv3 1))) (pa3_cons (pe3_lstM pa3_nil) pa3_nil))) (pss3_cons (ps3_for hp rfl (pi3_range1 rfl T.z_range (pa3_cons (pv3 1) pa3_nil)) (pg3_name 2 sc.nd) (pss3_one (ps3_expr (pe3_bm PySem.F.slot_list_append PySem.F.type_list_append mt_append l_append (pv3 4) (pa3_cons (pe3_bm PySem.F.slot_list_pop PySem.F.type_list_pop mt_popAt l_popAt (pv3 3) (pa3_cons (pe3_call G_law_any gd (hr.mono (by decide)) tk rfl T.m_law_any T.F_law_any.kp (b_law_any T.F_law_any) (pa3_cons (pv3 0) (pa3_cons (pe3_B call_len3 l_len rfl T.z_len (by decide +kernel) (pa3_cons (pv3 3) pa3_nil)) pa3_nil))) pa3_nil)) pa3_nil))))) (pss3_one (ps3_ret (pe3_Ty call_tuple_ofN l_tuple rfl T.z_tuple (by decide +kernel) (pa3_cons (pv3 4) pa3_nil))))))
theorem ok_law_source {P : Program} {w : World} {K : PySem.W.Frag} {mg : Str → Option Value} {base : Heap} (T : Txt K mg)  : FnG P w K mg base (L2.CX P w) 1 T.f_law_source T.d_law_source P_law_source (LSp K sp_law_source) := by
  refine fn3 T.F_law_source sc_law_source rd_law_source len_law_source sem_law_source ?_
  intro X cdv A outer s H E hX gd hr tk hp
  have sc := sc_law_source
  subst hX
  exact (pss3_cons (ps3_setLcD 1 [("cell", 3)] rfl sc.nd (sw_true rfl rfl rfl (by decide +kernel)) (pi3_seq (pe3_slice sl_list l_slL (pv3 0) po3_none (po3_some pi3))) (blkOk_by (N := N_law_source) (sc := defScope s_law_source) (by decide +kernel)) lgl_name wp_name (fun _ _ _ _ _ => (pg_name (i := 3) sc.nd rfl (Or.inl rfl))) (fun _ _ _ _ _ => pts3_nil) (fun _ _ _ _ _ => (pe3_B call_abs l_abs rfl T.z_abs (by decide +kernel) (pa3_cons (pe3_Ty call_int1 l_int rfl T.z_int (by decide +kernel) (pa3_cons (pv3 3) pa3_nil)) pa3_nil)))) (pss3_cons (ps3_set 2 sc.nd rfl pi3) (pss3_cons (ps3_for hp rfl (pi3_seq (pv3 1)) (pg3_name 3 sc.nd) (pss3_one (ps3_set 2 sc.nd rfl (pe3_op op_mod l_mod (pe3_Ty call_int1 l_int rfl T.z_int (by decide +kernel) (pa3_cons (pe3_op op_add l_add (pe3_op op_add l_add (pe3_op op_mul l_mul (pv3 2) pi3) (pe3_op op_mod l_mod (pv3 3) pi3)) pi3) pa3_nil)) pi3)))) (pss3_one (ps3_ret (pe3_lstM (pa3_cons (pe3_revM (pe3_lcD [("cell", 3)] rfl sc.nd (pi3_seq (pv3 1)) (blkOk_by (N := N_law_source) (sc := defScope s_law_source) (by decide +kernel)) lgl_name wp_name (fun _ _ _ _ _ => (pg_name (i := 3) sc.nd rfl (Or.inl rfl))) (fun _ _ _ _ _ => (pts3_one (pt3_cmp op_ge l_ge (pv3 3) (pe3_op op_pow l_pow pi3 pi3) (nomark _)))) (fun _ _ _ _ _ => (pv3 3)))) (pa3_cons (pv3 2) pa3_nil))))))))
theorem ok_law_turnings {P : Program} {w : World} {K : PySem.W.Frag} {mg : Str → Option Value} {base : Heap} (T : Txt K mg) (G_law_join : FnG P w K mg base (L2.CX P w) 1 T.f_law_join T.d_law_join P_law_join (LSp K sp_law_join)) (G_law_any : FnG P w K mg base (L2.CX P w) 1 T.f_law_any T.d_law_any P_law_any (LSp K sp_law_any)) (G_law_back : FnG P w K mg base (L2.CX P w) 1 T.f_law_back T.d_law_back P_law_back (LSp K sp_law_back)) (G_law_of : FnG P w K mg base (L2.CX P w) 2 T.f_law_of T.d_law_of P_law_of (LSp K sp_law_of)) (G_law_shuffled : FnG P w K mg base (L2.CX P w) 2 T.f_law_shuffled T.d_law_shuffled P_law_shuffled (LSp K sp_law_shuffled)) : FnG P w K mg base (L2.CX P w) 3 T.f_law_turnings T.d_law_turnings P_law_turnings (LSp K sp_law_turnings) := by
  refine fn3 T.F_law_turnings sc_law_turnings rd_law_turnings len_law_turnings sem_law_turnings ?_
  intro X cdv A outer s H E hX gd hr tk hp
  have sc := sc_law_turnings
  subst hX
  exact (pss3_cons (ps3_set 1 sc.nd rfl (pe3_lstD (pa3_cons (pe3_lstD (pa3_cons (pe3_tup (pa3_cons pi3 (pa3_cons pi3 (pa3_cons pi3 (pa3_cons pi3 (pa3_cons pi3 (pa3_cons pi3 (pa3_cons pi3 (pa3_cons pi3 pa3_nil))))))))) (pa3_cons (pe3_tup (pa3_cons pi3 (pa3_cons pi3 (pa3_cons pi3 (pa3_cons pi3 (pa3_cons pi3 (pa3_cons pi3 (pa3_cons pi3 (pa3_cons pi3 pa3_nil))))))))) pa3_nil))) (pa3_cons (pe3_lstD (pa3_cons (pe3_tup (pa3_cons pi3 (pa3_cons pi3 (pa3_cons pi3 (pa3_cons pi3 (pa3_cons pi3 (pa3_cons pi3 (pa3_cons pi3 (pa3_cons pi3 pa3_nil))))))))) (pa3_cons (pe3_tup (pa3_cons pi3 (pa3_cons pi3 (pa3_cons pi3 (pa3_cons pi3 (pa3_cons pi3 (pa3_cons pi3 (pa3_cons pi3 (pa3_cons pi3 pa3_nil))))))))) pa3_nil))) (pa3_cons (pe3_lstD (pa3_cons (pe3_tup (pa3_cons pi3 (pa3_cons pi3 (pa3_cons pi3 (pa3_cons pi3 (pa3_cons pi3 pa3_nil)))))) (pa3_cons (pe3_tup (pa3_cons pi3 (pa3_cons pi3 (pa3_cons pi3 (pa3_cons pi3 (pa3_cons pi3 pa3_nil)))))) pa3_nil))) (pa3_cons (pe3_lstD (pa3_cons (pe3_tup (pa3_cons pi3 (pa3_cons pi3 (pa3_cons pi3 (pa3_cons pi3 (pa3_cons pi3 pa3_nil)))))) (pa3_cons (pe3_tup (pa3_cons pi3 (pa3_cons pi3 (pa3_cons pi3 (pa3_cons pi3 (pa3_cons pi3 pa3_nil)))))) pa3_nil))) (pa3_cons (pe3_lstD (pa3_cons (pe3_tup (pa3_cons pi3 (pa3_cons pi3 (pa3_cons pi3 (pa3_cons pi3 (pa3_cons pi3 (pa3_cons pi3 pa3_nil))))))) (pa3_cons (pe3_tup (pa3_cons pi3 (pa3_cons pi3 (pa3_cons pi3 (pa3_cons pi3 (pa3_cons pi3 (pa3_cons pi3 pa3_nil))))))) pa3_nil))) (pa3_cons (pe3_lstD (pa3_cons (pe3_tup (pa3_cons pi3 (pa3_cons pi3 (pa3_cons pi3 (pa3_cons pi3 (pa3_cons pi3 (pa3_cons pi3 (pa3_cons pi3 pa3_nil)))))))) (pa3_cons (pe3_tup (pa3_cons pi3 (pa3_cons pi3 (pa3_cons pi3 (pa3_cons pi3 (pa3_cons pi3 (pa3_cons pi3 (pa3_cons pi3 pa3_nil)))))))) pa3_nil))) (pa3_cons (pe3_lstD (pa3_cons (pe3_tup (pa3_cons pi3 (pa3_cons pi3 (pa3_cons pi3 (pa3_cons pi3 (pa3_cons pi3 pa3_nil)))))) (pa3_cons (pe3_tup (pa3_cons pi3 (pa3_cons pi3 (pa3_cons pi3 (pa3_cons pi3 (pa3_cons pi3 pa3_nil)))))) (pa3_cons (pe3_tup (pa3_cons pi3 (pa3_cons pi3 (pa3_cons pi3 (pa3_cons pi3 (pa3_cons pi3 pa3_nil)))))) pa3_nil)))) (pa3_cons (pe3_lstD (pa3_cons (pe3_tup (pa3_cons pi3 (pa3_cons pi3 (pa3_cons pi3 (pa3_cons pi3 (pa3_cons pi3 (pa3_cons pi3 pa3_nil))))))) (pa3_cons (pe3_tup (pa3_cons pi3 (pa3_cons pi3 (pa3_cons pi3 (pa3_cons pi3 (pa3_cons pi3 (pa3_cons pi3 pa3_nil))))))) (pa3_cons (pe3_tup (pa3_cons pi3 (pa3_cons pi3 (pa3_cons pi3 (pa3_cons pi3 (pa3_cons pi3 (pa3_cons pi3 pa3_nil))))))) pa3_nil)))) pa3_nil)))))))))) (pss3_cons (ps3_if (pt3_cmp (op_eqX (un64 hr)) l_eq (pe3_call G_law_any gd (hr.mono (by decide)) tk rfl T.m_law_any T.F_law_any.kp (b_law_any T.F_law_any) (pa3_cons (pv3 0) (pa3_cons pi3 pa3_nil))) pi3 (nomark _)) (pss3_cons (ps3_set 4 sc.nd rfl (pe3_call G_law_of gd (hr.mono (by decide)) tk rfl T.m_law_of T.F_law_of.kp (b_law_of T.F_law_of) (pa3_cons (pv3 0) (pa3_cons (pe3_lstD (pa3_cons pi3 (pa3_cons pi3 (pa3_cons pi3 (pa3_cons pi3 (pa3_cons pi3 (pa3_cons pi3 (pa3_cons pi3 pa3_nil)))))))) pa3_nil)))) (pss3_one (ps3_ret (pe3_lcD [("turn", 6)] rfl sc.nd (pi3_range1 rfl T.z_range (pa3_cons (pe3_op op_add l_add pi3 (pe3_call G_law_any gd (hr.mono (by decide)) tk rfl T.m_law_any T.F_law_any.kp (b_law_any T.F_law_any) (pa3_cons (pv3 0) (pa3_cons pi3 pa3_nil)))) pa3_nil)) (blkOk_by (N := N_law_turnings) (sc := defScope s_law_turnings) (by decide +kernel)) lgl_name wp_name (fun _ _ _ _ _ => (pg_name (i := 6) sc.nd rfl (Or.inl rfl))) (fun _ _ _ _ _ => pts3_nil) (fun _ _ _ _ _ => (pe3_call G_law_shuffled gd (hr.mono (by decide)) takes0 rfl T.m_law_shuffled T.F_law_shuffled.kp (b_law_shuffled T.F_law_shuffled) (pa3_cons (pv3 0) (pa3_cons (pv3 4) pa3_nil)))))))) pss3_nil) (pss3_cons (ps3_set 2 sc.nd rfl (pe3_call G_law_of gd (hr.mono (by decide)) tk rfl T.m_law_of T.F_law_of.kp (b_law_of T.F_law_of) (pa3_cons (pv3 0) (pa3_cons (pv3 1) pa3_nil)))) (pss3_cons (ps3_set 3 sc.nd rfl (pe3_call G_law_shuffled gd (hr.mono (by decide)) tk rfl T.m_law_shuffled T.F_law_shuffled.kp (b_law_shuffled T.F_law_shuffled) (pa3_cons (pv3 0) (pa3_cons (pe3_B call_len3 l_len rfl T.z_len (by decide +kernel) (pa3_cons (pe3_ix (pv3 2) pi3) pa3_nil)) pa3_nil)))) (pss3_cons (ps3_setLcM 2 [("one", 5)] rfl sc.nd (sw_true rfl rfl rfl (by decide +kernel)) (pi3_seq (pv3 2)) (blkOk_by (N := N_law_turnings) (sc := defScope s_law_turnings) (by decide +kernel)) lgl_name wp_name (fun _ _ _ _ _ => (pg_name (i := 5) sc.nd rfl (Or.inl rfl))) (fun _ _ _ _ _ => pts3_nil) (fun _ _ _ _ _ => (pe3_call G_law_join gd (hr.mono (by decide)) takes0 rfl T.m_law_join T.F_law_join.kp (b_law_join T.F_law_join) (pa3_cons (pe3_call G_law_join gd (hr.mono (by decide)) takes0 rfl T.m_law_join T.F_law_join.kp (b_law_join T.F_law_join) (pa3_cons (pe3_call G_law_back gd (hr.mono (by decide)) takes0 rfl T.m_law_back T.F_law_back.kp (b_law_back T.F_law_back) (pa3_cons (pv3 3) pa3_nil)) (pa3_cons (pv3 5) pa3_nil))) (pa3_cons (pv3 3) pa3_nil))))) (pss3_cons (ps3_if (pt3_cmp (op_eqX (un64 hr)) l_eq (pe3_call G_law_any gd (hr.mono (by decide)) tk rfl T.m_law_any T.F_law_any.kp (b_law_any T.F_law_any) (pa3_cons (pv3 0) (pa3_cons pi3 pa3_nil))) pi3 (nomark _)) (pss3_one (ps3_asg (pe3_call G_law_join gd (hr.mono (by decide)) tk rfl T.m_law_join T.F_law_join.kp (b_law_join T.F_law_join) (pa3_cons (pe3_ix (pv3 2) pi3) (pa3_cons (pe3_ix (pv3 2) pi3) pa3_nil))) (pg3_sub (pv3 2) pi3))) pss3_nil) (pss3_frz 2 (pss3_one (ps3_ret (pe3_if (pt3_cmp (op_eqX (un64 hr)) l_eq (pe3_call G_law_any gd (hr.mono (by decide)) tk rfl T.m_law_any T.F_law_any.kp (b_law_any T.F_law_any) (pa3_cons (pv3 0) (pa3_cons pi3 pa3_nil))) pi3 (nomark _)) (pe3_rev (pv3 2)) (pv3 2)))))))))))
theorem ok_fold {P : Program} {w : World} {K : PySem.W.Frag} {mg : Str → Option Value} {base : Heap} (T : Txt K mg) (G_commutator : FnG P w K mg base (L2.CX P w) 4 T.f_commutator T.d_commutator P_commutator (LSp K sp_commutator)) : FnG P w K mg base (L2.CX P w) 5 T.f_fold T.d_fold P_fold (LSp K sp_fold) := by
  refine fn3 T.F_fold sc_fold rd_fold len_fold sem_fold ?_
  intro X cdv A outer s H E hX gd hr tk hp
  have sc := sc_fold
  subst hX
  exact (pss3_cons (ps3_set 1 sc.nd rfl (pe3_ix (pv3 0) pi3)) (pss3_cons (ps3_for hp rfl (pi3_seq (pe3_slice sl_both l_slB (pv3 0) (po3_some pi3) po3_none)) (pg3_name 2 sc.nd) (pss3_one (ps3_set 1 sc.nd rfl (pe3_call G_commutator gd (hr.mono (by decide)) tk rfl T.m_commutator T.F_commutator.kp (b_commutator T.F_commutator) (pa3_cons (pv3 1) (pa3_cons (pv3 2) pa3_nil)))))) (pss3_one (ps3_ret (pv3 1)))))
theorem ok_still {P : Program} {w : World} {K : PySem.W.Frag} {mg : Str → Option Value} {base : Heap} (T : Txt K mg)  : FnG P w K mg base (L2.CX P w) 1 T.f_still T.d_still P_still (LSp K sp_still) := by
  refine fn3 T.F_still sc_still rd_still len_still sem_still ?_
  intro X cdv A outer s H E hX gd hr tk hp
  have sc := sc_still
  subst hX
  exact (pss3_one (ps3_ret (pe3_tupRg rfl rfl T.z_tuple (prg3_1 rfl T.z_range (pv3 0)))))
theorem ok_joined_all {P : Program} {w : World} {K : PySem.W.Frag} {mg : Str → Option Value} {base : Heap} (T : Txt K mg) (G_joined : FnG P w K mg base (L2.CX P w) 1 T.f_joined T.d_joined P_joined (LSp K sp_joined)) (G_still : FnG P w K mg base (L2.CX P w) 1 T.f_still T.d_still P_still (LSp K sp_still)) : FnG P w K mg base (L2.CX P w) 2 T.f_joined_all T.d_joined_all P_joined_all (LSp K sp_joined_all) := by
  refine fn3 T.F_joined_all sc_joined_all rd_joined_all len_joined_all sem_joined_all ?_
  intro X cdv A outer s H E hX gd hr tk hp
  have sc := sc_joined_all
  subst hX
  exact (pss3_cons (ps3_set 2 sc.nd rfl (pe3_call G_still gd (hr.mono (by decide)) tk rfl T.m_still T.F_still.kp (b_still T.F_still) (pa3_cons (pv3 0) pa3_nil))) (pss3_cons (ps3_for hp rfl (pi3_seq (pv3 1)) (pg3_name 3 sc.nd) (pss3_one (ps3_set 2 sc.nd rfl (pe3_call G_joined gd (hr.mono (by decide)) tk rfl T.m_joined T.F_joined.kp (b_joined T.F_joined) (pa3_cons (pv3 2) (pa3_cons (pv3 3) pa3_nil)))))) (pss3_one (ps3_ret (pv3 2)))))
theorem ok_folds_joined {P : Program} {w : World} {K : PySem.W.Frag} {mg : Str → Option Value} {base : Heap} (T : Txt K mg) (G_fold : FnG P w K mg base (L2.CX P w) 5 T.f_fold T.d_fold P_fold (LSp K sp_fold)) (G_joined_all : FnG P w K mg base (L2.CX P w) 2 T.f_joined_all T.d_joined_all P_joined_all (LSp K sp_joined_all)) : FnG P w K mg base (L2.CX P w) 6 T.f_folds_joined T.d_folds_joined P_folds_joined (LSp K sp_folds_joined) := by
  refine fn3 T.F_folds_joined sc_folds_joined rd_folds_joined len_folds_joined sem_folds_joined ?_
  intro X cdv A outer s H E hX gd hr tk hp
  have sc := sc_folds_joined
  subst hX
  exact (pss3_one (ps3_ret (pe3_call G_joined_all gd (hr.mono (by decide)) tk rfl T.m_joined_all T.F_joined_all.kp (b_joined_all T.F_joined_all) (pa3_cons (pv3 0) (pa3_cons (pe3_lcD [("row", 2)] rfl sc.nd (pi3_seq (pv3 1)) (blkOk_by (N := N_folds_joined) (sc := defScope s_folds_joined) (by decide +kernel)) lgl_name wp_name (fun _ _ _ _ _ => (pg_name (i := 2) sc.nd rfl (Or.inl rfl))) (fun _ _ _ _ _ => pts3_nil) (fun _ _ _ _ _ => (pe3_call G_fold gd (hr.mono (by decide)) takes0 rfl T.m_fold T.F_fold.kp (b_fold T.F_fold) (pa3_cons (pv3 2) pa3_nil)))) pa3_nil)))))
theorem ok_power {P : Program} {w : World} {K : PySem.W.Frag} {mg : Str → Option Value} {base : Heap} (T : Txt K mg) (G_joined : FnG P w K mg base (L2.CX P w) 1 T.f_joined T.d_joined P_joined (LSp K sp_joined)) (G_still : FnG P w K mg base (L2.CX P w) 1 T.f_still T.d_still P_still (LSp K sp_still)) : FnG P w K mg base (L2.CX P w) 2 T.f_power T.d_power P_power (LSp K sp_power) := by
  refine fn3 T.F_power sc_power rd_power len_power sem_power ?_
  intro X cdv A outer s H E hX gd hr tk hp
  have sc := sc_power
  subst hX
  exact (pss3_cons (ps3_par 2 3 rfl sc.nd (pa3_cons (pe3_call G_still gd (hr.mono (by decide)) tk rfl T.m_still T.F_still.kp (b_still T.F_still) (pa3_cons (pe3_B call_len3 l_len rfl T.z_len (by decide +kernel) (pa3_cons (pv3 0) pa3_nil)) pa3_nil)) (pa3_cons (pv3 0) pa3_nil))) (pss3_cons (ps3_while hp (pt3_cmp op_gt l_gt (pv3 1) pi3 (nomark _)) (pss3_cons (ps3_if (pt3_cmp (op_eqX (un64 hr)) l_eq (pe3_op op_mod l_mod (pv3 1) pi3) pi3 (nomark _)) (pss3_one (ps3_set 2 sc.nd rfl (pe3_call G_joined gd (hr.mono (by decide)) tk rfl T.m_joined T.F_joined.kp (b_joined T.F_joined) (pa3_cons (pv3 2) (pa3_cons (pv3 3) pa3_nil))))) pss3_nil) (pss3_one (ps3_par 3 1 rfl sc.nd (pa3_cons (pe3_call G_joined gd (hr.mono (by decide)) tk rfl T.m_joined T.F_joined.kp (b_joined T.F_joined) (pa3_cons (pv3 3) (pa3_cons (pv3 3) pa3_nil))) (pa3_cons (pe3_op op_fdivW l_div (pv3 1) pi3) pa3_nil)))))) (pss3_one (ps3_ret (pv3 2)))))
theorem ok_law {P : Program} {w : World} {K : PySem.W.Frag} {mg : Str → Option Value} {base : Heap} (T : Txt K mg) (G_law_all : FnG P w K mg base (L2.CX P w) 2 T.f_law_all T.d_law_all P_law_all (LSp K sp_law_all)) (G_law_any : FnG P w K mg base (L2.CX P w) 1 T.f_law_any T.d_law_any P_law_any (LSp K sp_law_any)) (G_law_fold : FnG P w K mg base (L2.CX P w) 3 T.f_law_fold T.d_law_fold P_law_fold (LSp K sp_law_fold)) (G_law_made : FnG P w K mg base (L2.CX P w) 2 T.f_law_made T.d_law_made P_law_made (LSp K sp_law_made)) (G_law_of : FnG P w K mg base (L2.CX P w) 2 T.f_law_of T.d_law_of P_law_of (LSp K sp_law_of)) (G_conjugate : FnG P w K mg base (L2.CX P w) 4 T.f_conjugate T.d_conjugate P_conjugate (LSp K sp_conjugate)) (G_law_pair_right : FnG P w K mg base (L2.CX P w) 5 T.f_law_pair_right T.d_law_pair_right P_law_pair_right (LSp K sp_law_pair_right)) (G_law_parts_right : FnG P w K mg base (L2.CX P w) 5 T.f_law_parts_right T.d_law_parts_right P_law_parts_right (LSp K sp_law_parts_right)) (G_law_row : FnG P w K mg base (L2.CX P w) 3 T.f_law_row T.d_law_row P_law_row (LSp K sp_law_row)) (G_law_shuffled : FnG P w K mg base (L2.CX P w) 2 T.f_law_shuffled T.d_law_shuffled P_law_shuffled (LSp K sp_law_shuffled)) (G_law_source : FnG P w K mg base (L2.CX P w) 1 T.f_law_source T.d_law_source P_law_source (LSp K sp_law_source)) (G_law_turnings : FnG P w K mg base (L2.CX P w) 3 T.f_law_turnings T.d_law_turnings P_law_turnings (LSp K sp_law_turnings)) (G_fold : FnG P w K mg base (L2.CX P w) 5 T.f_fold T.d_fold P_fold (LSp K sp_fold)) (G_still : FnG P w K mg base (L2.CX P w) 1 T.f_still T.d_still P_still (LSp K sp_still)) (G_folds_joined : FnG P w K mg base (L2.CX P w) 6 T.f_folds_joined T.d_folds_joined P_folds_joined (LSp K sp_folds_joined)) (G_power : FnG P w K mg base (L2.CX P w) 2 T.f_power T.d_power P_power (LSp K sp_power)) : FnG P w K mg base (L2.CX P w) 7 T.f_law T.d_law P_law (LSp K sp_law) := by
  refine fn3 T.F_law sc_law rd_law len_law sem_law ?_
  intro X cdv A outer s H E hX gd hr tk hp
  have sc := sc_law
  subst hX
  exact (pss3_cons (ps3_set 1 sc.nd rfl (pe3_call G_law_source gd (hr.mono (by decide)) tk rfl T.m_law_source T.F_law_source.kp (b_law_source T.F_law_source) (pa3_cons (pv3 0) pa3_nil))) (pss3_cons (ps3_set 2 sc.nd rfl (pe3_call G_law_turnings gd (hr.mono (by decide)) tk rfl T.m_law_turnings T.F_law_turnings.kp (b_law_turnings T.F_law_turnings) (pa3_cons (pv3 1) pa3_nil))) (pss3_cons (ps3_unp (n := 2) rfl (pa3_cons (pe3_B call_len3 l_len rfl T.z_len (by decide +kernel) (pa3_cons (pe3_ix (pv3 2) pi3) pa3_nil)) (pa3_cons (pe3_lstD pa3_nil) pa3_nil)) (pgs3_cons (pg3_name 8 sc.nd) (pgs3_cons (pg3_name 9 sc.nd) pgs3_nil)) (fun ws τ S Q h => unp_len h)) (pss3_cons (ps3_if (pt3_cmp (op_eqX (un64 hr)) l_eq (pe3_call G_law_any gd (hr.mono (by decide)) tk rfl T.m_law_any T.F_law_any.kp (b_law_any T.F_law_any) (pa3_cons (pv3 1) (pa3_cons pi3 pa3_nil))) pi3 (nomark _)) (pss3_one (ps3_set 9 sc.nd rfl (pe3_call G_law_made gd (hr.mono (by decide)) tk rfl T.m_law_made T.F_law_made.kp (b_law_made T.F_law_made) (pa3_cons (pv3 2) (pa3_cons (pv3 8) pa3_nil))))) (pss3_cons (ps3_set 8 sc.nd rfl (pe3_call G_law_of gd (hr.mono (by decide)) tk rfl T.m_law_of T.F_law_of.kp (b_law_of T.F_law_of) (pa3_cons (pv3 1) (pa3_cons (pe3_lstD (pa3_cons (pv3 8) (pa3_cons (pv3 8) (pa3_cons (pe3_op op_add l_add pi3 (pe3_call G_law_any gd (hr.mono (by decide)) tk rfl T.m_law_any T.F_law_any.kp (b_law_any T.F_law_any) (pa3_cons (pv3 1) (pa3_cons pi3 pa3_nil)))) pa3_nil)))) pa3_nil)))) (pss3_one (ps3_set 9 sc.nd rfl (pe3_lcD [("turn", 4)] rfl sc.nd (pi3_range1 rfl T.z_range (pa3_cons pi3 pa3_nil)) (blkOk_by (N := N_law) (sc := defScope s_law) (by decide +kernel)) lgl_name wp_name (fun _ _ _ _ _ => (pg_name (i := 4) sc.nd rfl (Or.inl rfl))) (fun _ _ _ _ _ => pts3_nil) (fun _ _ _ _ _ => (pe3_call G_law_shuffled gd (hr.mono (by decide)) takes0 rfl T.m_law_shuffled T.F_law_shuffled.kp (b_law_shuffled T.F_law_shuffled) (pa3_cons (pv3 1) (pa3_cons (pv3 8) pa3_nil))))))))) (pss3_cons (ps3_set 3 sc.nd rfl (pe3_call G_still gd (hr.mono (by decide)) tk rfl T.m_still T.F_still.kp (b_still T.F_still) (pa3_cons (pv3 8) pa3_nil))) (pss3_cons (ps3_for hp rfl (pi3_range1 rfl T.z_range (pa3_cons pi3 pa3_nil)) (pg3_name 4 sc.nd) (pss3_cons (ps3_par3 11 12 13 rfl sc.nd (pa3_cons (pe3_call G_law_of gd (hr.mono (by decide)) tk rfl T.m_law_of T.F_law_of.kp (b_law_of T.F_law_of) (pa3_cons (pv3 1) (pa3_cons (pv3 9) pa3_nil))) (pa3_cons (pe3_call G_law_of gd (hr.mono (by decide)) tk rfl T.m_law_of T.F_law_of.kp (b_law_of T.F_law_of) (pa3_cons (pv3 1) (pa3_cons (pv3 9) pa3_nil))) (pa3_cons (pe3_call G_law_of gd (hr.mono (by decide)) tk rfl T.m_law_of T.F_law_of.kp (b_law_of T.F_law_of) (pa3_cons (pv3 1) (pa3_cons (pv3 9) pa3_nil))) pa3_nil)))) (pss3_cons (ps3_if (PW.pt (pw3_or (pt3_not (pt3_val (pe3_call G_law_pair_right gd (hr.mono (by decide)) tk rfl T.m_law_pair_right T.F_law_pair_right.kp (b_law_pair_right T.F_law_pair_right) (pa3_cons (pv3 11) (pa3_cons (pv3 12) (pa3_cons (pv3 3) pa3_nil)))))) (pw3_or1 (pt3_not (pt3_val (pe3_call G_law_parts_right gd (hr.mono (by decide)) tk rfl T.m_law_parts_right T.F_law_parts_right.kp (b_law_parts_right T.F_law_parts_right) (pa3_cons (pv3 11) (pa3_cons (pv3 12) (pa3_cons (pv3 13) pa3_nil))))))))) (pss3_one (ps3_ret pb3)) pss3_nil) (pss3_one (ps3_if (pt3_cmp (op_neX (un64 hr)) l_ne (pe3_call G_conjugate gd (hr.mono (by decide)) tk rfl T.m_conjugate T.F_conjugate.kp (b_conjugate T.F_conjugate) (pa3_cons (pe3_call G_power gd (hr.mono (by decide)) tk rfl T.m_power T.F_power.kp (b_power T.F_power) (pa3_cons (pv3 11) (pa3_cons pi3 pa3_nil))) (pa3_cons (pv3 12) pa3_nil))) (pe3_call G_power gd (hr.mono (by decide)) tk rfl T.m_power T.F_power.kp (b_power T.F_power) (pa3_cons (pe3_call G_conjugate gd (hr.mono (by decide)) tk rfl T.m_conjugate T.F_conjugate.kp (b_conjugate T.F_conjugate) (pa3_cons (pv3 11) (pa3_cons (pv3 12) pa3_nil))) (pa3_cons pi3 pa3_nil))) (nomark _)) (pss3_one (ps3_ret pb3)) pss3_nil))))) (pss3_cons (ps3_setLcD 5 [("turn", 4)] rfl sc.nd (sw_true rfl rfl rfl (by decide +kernel)) (pi3_range1 rfl T.z_range (pa3_cons (pe3_call G_law_any gd (hr.mono (by decide)) tk rfl T.m_law_any T.F_law_any.kp (b_law_any T.F_law_any) (pa3_cons (pv3 1) (pa3_cons pi3 pa3_nil))) pa3_nil)) (blkOk_by (N := N_law) (sc := defScope s_law) (by decide +kernel)) lgl_name wp_name (fun _ _ _ _ _ => (pg_name (i := 4) sc.nd rfl (Or.inl rfl))) (fun _ _ _ _ _ => pts3_nil) (fun _ _ _ _ _ => (pe3_call G_law_row gd (hr.mono (by decide)) takes0 rfl T.m_law_row T.F_law_row.kp (b_law_row T.F_law_row) (pa3_cons (pv3 1) (pa3_cons (pv3 9) pa3_nil))))) (pss3_cons (ps3_for hp rfl (pi3_seq (pv3 5)) (pg3_name 6 sc.nd) (pss3_cons (ps3_set 10 sc.nd rfl (pe3_call G_fold gd (hr.mono (by decide)) tk rfl T.m_fold T.F_fold.kp (b_fold T.F_fold) (pa3_cons (pe3_Ty call_tuple_ofN l_tuple rfl T.z_tuple (by decide +kernel) (pa3_cons (pv3 6) pa3_nil)) pa3_nil))) (pss3_cons (ps3_if (PW.pt (pw3_or (pt3_cmp (op_neX (un64 hr)) l_ne (pe3_B (call_repr3 gd (un70 hr)) l_repr rfl T.z_repr (by decide +kernel) (pa3_cons (pv3 10) pa3_nil)) (pe3_B (call_repr3 gd (un70 hr)) l_repr rfl T.z_repr (by decide +kernel) (pa3_cons (pe3_call G_law_fold gd (hr.mono (by decide)) tk rfl T.m_law_fold T.F_law_fold.kp (b_law_fold T.F_law_fold) (pa3_cons (pv3 6) pa3_nil)) pa3_nil)) (nomark _)) (pw3_or1 (pt3_cmp (op_neX (un64 hr)) l_ne (pe3_B (call_repr3 gd (un70 hr)) l_repr rfl T.z_repr (by decide +kernel) (pa3_cons (pe3_callK (x := "fold") G_fold gd (hr.mono (by decide)) tk rfl T.m_fold T.F_fold.kp (kb_fold_0 T.F_fold) (kw_fold_0 _) (pk3_cons (pv3 6) pk3_nil)) pa3_nil)) (pe3_B (call_repr3 gd (un70 hr)) l_repr rfl T.z_repr (by decide +kernel) (pa3_cons (pv3 10) pa3_nil)) (nomark _))))) (pss3_one (ps3_ret pb3)) pss3_nil) (pss3_cons (ps3_if (PW.pt (pw3_and (pt3_cmp op_gt l_gt (pe3_B call_len3 l_len rfl T.z_len (by decide +kernel) (pa3_cons (pv3 6) pa3_nil)) pi3 (nomark _)) (pw3_and (pt3_cmp (op_inV (un70 hr)) l_in (pv3 3) (pv3 6) (by rfl)) (pw3_and1 (pt3_cmp (op_neX (un64 hr)) l_ne (pv3 10) (pv3 3) (nomark _)))))) (pss3_one (ps3_ret pb3)) pss3_nil) (pss3_one (ps3_if (PW.pt (pw3_and (pt3_cmp (op_eqX (un64 hr)) l_eq (pe3_B call_len3 l_len rfl T.z_len (by decide +kernel) (pa3_cons (pv3 6) pa3_nil)) pi3 (nomark _)) (pw3_and1 (pt3_cmp (op_neX (un64 hr)) l_ne (pv3 10) (pe3_ix (pv3 6) pi3) (nomark _))))) (pss3_one (ps3_ret pb3)) pss3_nil)))))) (pss3_cons (ps3_set 7 sc.nd rfl (pe3_call G_law_all gd (hr.mono (by decide)) tk rfl T.m_law_all T.F_law_all.kp (b_law_all T.F_law_all) (pa3_cons (pe3_lcD [("row", 6)] rfl sc.nd (pi3_seq (pv3 5)) (blkOk_by (N := N_law) (sc := defScope s_law) (by decide +kernel)) lgl_name wp_name (fun _ _ _ _ _ => (pg_name (i := 6) sc.nd rfl (Or.inl rfl))) (fun _ _ _ _ _ => pts3_nil) (fun _ _ _ _ _ => (pe3_call G_law_fold gd (hr.mono (by decide)) takes0 rfl T.m_law_fold T.F_law_fold.kp (b_law_fold T.F_law_fold) (pa3_cons (pv3 6) pa3_nil)))) (pa3_cons (pv3 8) pa3_nil)))) (pss3_one (ps3_ret (pe3_and (pe3_cmp (op_eqX (un64 hr)) l_eq (pe3_B (call_repr3 gd (un70 hr)) l_repr rfl T.z_repr (by decide +kernel) (pa3_cons (pe3_call G_folds_joined gd (hr.mono (by decide)) tk rfl T.m_folds_joined T.F_folds_joined.kp (b_folds_joined T.F_folds_joined) (pa3_cons (pv3 8) (pa3_cons (pe3_Ty call_tuple_ofN l_tuple rfl T.z_tuple (by decide +kernel) (pa3_cons (pe3_lcD [("row", 6)] rfl sc.nd (pi3_seq (pv3 5)) (blkOk_by (N := N_law) (sc := defScope s_law) (by decide +kernel)) lgl_name wp_name (fun _ _ _ _ _ => (pg_name (i := 6) sc.nd rfl (Or.inl rfl))) (fun _ _ _ _ _ => pts3_nil) (fun _ _ _ _ _ => (pe3_Ty call_tuple_ofN l_tuple rfl T.z_tuple (by decide +kernel) (pa3_cons (pv3 6) pa3_nil)))) pa3_nil)) pa3_nil))) pa3_nil)) (pe3_B (call_repr3 gd (un70 hr)) l_repr rfl T.z_repr (by decide +kernel) (pa3_cons (pv3 7) pa3_nil)) (nomark _)) (pe3_one (pe3_cmp (op_eqX (un64 hr)) l_eq (pe3_B (call_repr3 gd (un70 hr)) l_repr rfl T.z_repr (by decide +kernel) (pa3_cons (pe3_callK (x := "folds_joined") G_folds_joined gd (hr.mono (by decide)) tk rfl T.m_folds_joined T.F_folds_joined.kp (kb_folds_joined_0 T.F_folds_joined) (kw_folds_joined_0 _) (pk3_cons (pv3 5) (pk3_cons (pv3 8) pk3_nil))) pa3_nil)) (pe3_B (call_repr3 gd (un70 hr)) l_repr rfl T.z_repr (by decide +kernel) (pa3_cons (pv3 7) pa3_nil)) (nomark _)))))))))))))))
theorem facts {P : Program} {w : World} {K : PySem.W.Frag} {h : Heap} {mg : Str → Option Value} {f : Addr} (X : K.In h) (G : h.Ns mainGlobals mg) (hfa : mg ("law" : Str) = some (.ref f)) (c : He.SaysD fal fnl K) :
    ∃ fd : FuncData, (∀ (s : Shared) (v : Value), BindsTo s fd ⟨[v], []⟩ [("script", v)]) ∧ ∀ base : Heap, K.In base → base.Ns mainGlobals mg → FnG P w K mg base (L2.CX P w) 7 f fd ["script"] (LSp K sp_law) := by
  obtain ⟨d_law_join, F_law_join⟩ := c.def_ 0 (d := dd_law_join) rfl
  obtain ⟨d_law_all, F_law_all⟩ := c.def_ 1 (d := dd_law_all) rfl
  obtain ⟨d_law_any, F_law_any⟩ := c.def_ 2 (d := dd_law_any) rfl
  obtain ⟨d_law_back, F_law_back⟩ := c.def_ 3 (d := dd_law_back) rfl
  obtain ⟨d_law_fold, F_law_fold⟩ := c.def_ 4 (d := dd_law_fold) rfl
  obtain ⟨d_law_made, F_law_made⟩ := c.def_ 5 (d := dd_law_made) rfl
  obtain ⟨d_law_of, F_law_of⟩ := c.def_ 6 (d := dd_law_of) rfl
  obtain ⟨d_joined, F_joined⟩ := c.def_ 7 (d := dd_joined) rfl
  obtain ⟨d_is_turning, F_is_turning⟩ := c.def_ 8 (d := dd_is_turning) rfl
  obtain ⟨d_need_turning, F_need_turning⟩ := c.def_ 9 (d := dd_need_turning) rfl
  obtain ⟨d_turned_back, F_turned_back⟩ := c.def_ 10 (d := dd_turned_back) rfl
  obtain ⟨d_commutator, F_commutator⟩ := c.def_ 11 (d := dd_commutator) rfl
  obtain ⟨d_conjugate, F_conjugate⟩ := c.def_ 12 (d := dd_conjugate) rfl
  obtain ⟨d_law_pair_right, F_law_pair_right⟩ := c.def_ 13 (d := dd_law_pair_right) rfl
  obtain ⟨d_law_parts_right, F_law_parts_right⟩ := c.def_ 14 (d := dd_law_parts_right) rfl
  obtain ⟨d_law_row, F_law_row⟩ := c.def_ 15 (d := dd_law_row) rfl
  obtain ⟨d_law_shuffled, F_law_shuffled⟩ := c.def_ 16 (d := dd_law_shuffled) rfl
  obtain ⟨d_law_source, F_law_source⟩ := c.def_ 17 (d := dd_law_source) rfl
  obtain ⟨d_law_turnings, F_law_turnings⟩ := c.def_ 18 (d := dd_law_turnings) rfl
  obtain ⟨d_fold, F_fold⟩ := c.def_ 19 (d := dd_fold) rfl
  obtain ⟨d_still, F_still⟩ := c.def_ 20 (d := dd_still) rfl
  obtain ⟨d_joined_all, F_joined_all⟩ := c.def_ 21 (d := dd_joined_all) rfl
  obtain ⟨d_folds_joined, F_folds_joined⟩ := c.def_ 22 (d := dd_folds_joined) rfl
  obtain ⟨d_power, F_power⟩ := c.def_ 23 (d := dd_power) rfl
  obtain ⟨d_law, F_law⟩ := c.def_ 24 (d := dd_law) rfl
  let T : Txt K mg := { f_law_join := _, d_law_join := d_law_join, F_law_join := F_law_join, m_law_join := He.glo_ok X G (c.fact 0 (f := .glo "_law_join") rfl), f_law_all := _, d_law_all := d_law_all, F_law_all := F_law_all, m_law_all := He.glo_ok X G (c.fact 1 (f := .glo "_law_all") rfl), f_law_any := _, d_law_any := d_law_any, F_law_any := F_law_any, m_law_any := He.glo_ok X G (c.fact 2 (f := .glo "_law_any") rfl), f_law_back := _, d_law_back := d_law_back, F_law_back := F_law_back, m_law_back := He.glo_ok X G (c.fact 3 (f := .glo "_law_back") rfl), f_law_fold := _, d_law_fold := d_law_fold, F_law_fold := F_law_fold, m_law_fold := He.glo_ok X G (c.fact 4 (f := .glo "_law_fold") rfl), f_law_made := _, d_law_made := d_law_made, F_law_made := F_law_made, m_law_made := He.glo_ok X G (c.fact 5 (f := .glo "_law_made") rfl), f_law_of := _, d_law_of := d_law_of, F_law_of := F_law_of, m_law_of := He.glo_ok X G (c.fact 6 (f := .glo "_law_of") rfl), f_joined := _, d_joined := d_joined, F_joined := F_joined, m_joined := He.glo_ok X G (c.fact 7 (f := .glo "joined") rfl), f_is_turning := _, d_is_turning := d_is_turning, F_is_turning := F_is_turning, m_is_turning := He.glo_ok X G (c.fact 8 (f := .glo "is_turning") rfl), f_need_turning := _, d_need_turning := d_need_turning, F_need_turning := F_need_turning, m_need_turning := He.glo_ok X G (c.fact 9 (f := .glo "need_turning") rfl), f_turned_back := _, d_turned_back := d_turned_back, F_turned_back := F_turned_back, m_turned_back := He.glo_ok X G (c.fact 10 (f := .glo "turned_back") rfl), f_commutator := _, d_commutator := d_commutator, F_commutator := F_commutator, m_commutator := He.glo_ok X G (c.fact 11 (f := .glo "commutator") rfl), f_conjugate := _, d_conjugate := d_conjugate, F_conjugate := F_conjugate, m_conjugate := He.glo_ok X G (c.fact 12 (f := .glo "conjugate") rfl), f_law_pair_right := _, d_law_pair_right := d_law_pair_right, F_law_pair_right := F_law_pair_right, m_law_pair_right := He.glo_ok X G (c.fact 13 (f := .glo "_law_pair_right") rfl), f_law_parts_right := _, d_law_parts_right := d_law_parts_right, F_law_parts_right := F_law_parts_right, m_law_parts_right := He.glo_ok X G (c.fact 14 (f := .glo "_law_parts_right") rfl), f_law_row := _, d_law_row := d_law_row, F_law_row := F_law_row, m_law_row := He.glo_ok X G (c.fact 15 (f := .glo "_law_row") rfl), f_law_shuffled := _, d_law_shuffled := d_law_shuffled, F_law_shuffled := F_law_shuffled, m_law_shuffled := He.glo_ok X G (c.fact 16 (f := .glo "_law_shuffled") rfl), f_law_source := _, d_law_source := d_law_source, F_law_source := F_law_source, m_law_source := He.glo_ok X G (c.fact 17 (f := .glo "_law_source") rfl), f_law_turnings := _, d_law_turnings := d_law_turnings, F_law_turnings := F_law_turnings, m_law_turnings := He.glo_ok X G (c.fact 18 (f := .glo "_law_turnings") rfl), f_fold := _, d_fold := d_fold, F_fold := F_fold, m_fold := He.glo_ok X G (c.fact 19 (f := .glo "fold") rfl), f_still := _, d_still := d_still, F_still := F_still, m_still := He.glo_ok X G (c.fact 20 (f := .glo "still") rfl), f_joined_all := _, d_joined_all := d_joined_all, F_joined_all := F_joined_all, m_joined_all := He.glo_ok X G (c.fact 21 (f := .glo "joined_all") rfl), f_folds_joined := _, d_folds_joined := d_folds_joined, F_folds_joined := F_folds_joined, m_folds_joined := He.glo_ok X G (c.fact 22 (f := .glo "folds_joined") rfl), f_power := _, d_power := d_power, F_power := F_power, m_power := He.glo_ok X G (c.fact 23 (f := .glo "power") rfl), f_law := _, d_law := d_law, F_law := F_law, m_law := He.glo_ok X G (c.fact 24 (f := .glo "law") rfl), z_len := He.free_ok X G (c.fact 25 (f := .free "len") rfl), z_set := He.free_ok X G (c.fact 26 (f := .free "set") rfl), z_range := He.free_ok X G (c.fact 27 (f := .free "range") rfl), z_tuple := He.free_ok X G (c.fact 28 (f := .free "tuple") rfl), z_int := He.free_ok X G (c.fact 29 (f := .free "int") rfl), z_abs := He.free_ok X G (c.fact 30 (f := .free "abs") rfl), z_sorted := He.free_ok X G (c.fact 31 (f := .free "sorted") rfl), z_list := He.free_ok X G (c.fact 32 (f := .free "list") rfl), z_repr := He.free_ok X G (c.fact 33 (f := .free "repr") rfl) }
  have e := hfa.symm.trans T.m_law
  cases e
  refine ⟨d_law, fun s v => FunD.bindsA (ps := ["script"]) F_law (fun _ _ _ _ _ _ us hl => match us, hl with | [_], _ => rfl) s [v] rfl, fun base _ _ => ?_⟩
  have G_law_join := ok_law_join (P := P) (w := w) (base := base) T 
  have G_law_all := ok_law_all (P := P) (w := w) (base := base) T G_law_join
  have G_law_any := ok_law_any (P := P) (w := w) (base := base) T 
  have G_law_back := ok_law_back (P := P) (w := w) (base := base) T 
  have G_law_fold := ok_law_fold (P := P) (w := w) (base := base) T G_law_all G_law_back
  have G_law_made := ok_law_made (P := P) (w := w) (base := base) T G_law_join
  have G_law_of := ok_law_of (P := P) (w := w) (base := base) T G_law_any
  have G_joined := ok_joined (P := P) (w := w) (base := base) T 
  have G_is_turning := ok_is_turning (P := P) (w := w) (base := base) T 
  have G_need_turning := ok_need_turning (P := P) (w := w) (base := base) T G_is_turning
  have G_turned_back := ok_turned_back (P := P) (w := w) (base := base) T G_need_turning
  have G_commutator := ok_commutator (P := P) (w := w) (base := base) T G_joined G_turned_back
  have G_conjugate := ok_conjugate (P := P) (w := w) (base := base) T G_joined G_turned_back
  have G_law_pair_right := ok_law_pair_right (P := P) (w := w) (base := base) T G_law_join G_law_all G_law_back G_joined G_turned_back G_commutator G_conjugate
  have G_law_parts_right := ok_law_parts_right (P := P) (w := w) (base := base) T G_joined G_turned_back G_commutator G_conjugate
  have G_law_row := ok_law_row (P := P) (w := w) (base := base) T G_law_any G_law_of
  have G_law_shuffled := ok_law_shuffled (P := P) (w := w) (base := base) T G_law_any
  have G_law_source := ok_law_source (P := P) (w := w) (base := base) T 
  have G_law_turnings := ok_law_turnings (P := P) (w := w) (base := base) T G_law_join G_law_any G_law_back G_law_of G_law_shuffled
  have G_fold := ok_fold (P := P) (w := w) (base := base) T G_commutator
  have G_still := ok_still (P := P) (w := w) (base := base) T 
  have G_joined_all := ok_joined_all (P := P) (w := w) (base := base) T G_joined G_still
  have G_folds_joined := ok_folds_joined (P := P) (w := w) (base := base) T G_fold G_joined_all
  have G_power := ok_power (P := P) (w := w) (base := base) T G_joined G_still
  exact ok_law T G_law_all G_law_any G_law_fold G_law_made G_law_of G_conjugate G_law_pair_right G_law_parts_right G_law_row G_law_shuffled G_law_source G_law_turnings G_fold G_still G_folds_joined G_power
end Lk10
open PySem PySem.W PySem.Calls PyProof.Rows in
set_option maxRecDepth 90000 in
set_option maxHeartbeats 0 in
theorem PySem.Challenge.cw_handsaway_k10_whole_commutators_and_fold_holds : PySem.Challenge.rw_handsaway_k10_whole_commutators_and_fold.Holds := by
  w_on; o_law
  refine HandSHeadRun.head_any (r := OpenLaw.row PySem.Challenge.rw_handsaway_k10_whole_commutators_and_fold) (q := view (OpenLaw.row PySem.Challenge.rw_handsaway_k10_whole_commutators_and_fold).prog [31]) (H := Lk10.hk) (ob := Lk10.ob) (M := 2000) (loose := Lk10.loose) (d := HandSHeadRun.topDef (OpenLaw.row PySem.Challenge.rw_handsaway_k10_whole_commutators_and_fold).prog 31) (kwd := []) Lk10.seen_eq
    (by kernel_rfl) (fun s => by kernel_rfl) Lk10.run (by kernel_rfl) (by kernel_rfl) (by kernel_rfl) (by rfl) (by first | assumption | decide +kernel) (by decide +kernel) ⟨rfl, rfl, rfl, rfl, rfl, by decide +kernel⟩ ?hw ?hc
  case hw => w_witness2
  case hc =>
    refine H3.walk3 (l := PySem.Challenge.rw_handsaway_k10_whole_commutators_and_fold) (k := 7) (x := "script") rfl (by kernel_rfl) ⟨rfl, by decide, by decide⟩ Lk10.sp_law ?F (fun ns hl => Lk10.law_start ns hl)
    intro w mg fa h Y G told
    obtain ⟨K, KX, c⟩ := Y
    have toldLaw : mg ("law" : PySem.Str) = some (.ref fa) := by
      have e : (HandSHeadRun.topDef (OpenLaw.row PySem.Challenge.rw_handsaway_k10_whole_commutators_and_fold).prog 31).name = ("law" : PySem.Str) := by kernel_rfl
      rw [← e]
      exact told
    obtain ⟨fd, hb, hF⟩ := Lk10.facts (P := (PySem.Challenge.rw_handsaway_k10_whole_commutators_and_fold).prog) (w := w) KX G toldLaw c
    exact ⟨K, fd, KX, hb, hF⟩


