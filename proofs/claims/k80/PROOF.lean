import PyProof.Rows.All
import Wide.All
import OpenK.AllK
import Wide.FinOn
import HandS.ForMost
import HandS.IsInst
import HandS.TupAny
import HandS.TupMul
import HandS.TupLe
import HandS.Flow
import HandS.Style
import HandS.Zip
import HandS.SetFor
import HandS.HeadHook1
import HandS.Lambda
import HandS.Conv
import HandS.Codes
import KE.GoesMore
import KE.GoesZip
import HandS.Zip0
import HandS.Words
import HandS.WordsExc
import HandS.Defaults
import HandS.HeadEnd
import HandS.Nested
import HandS.ExcInit
import KE.KSuper
import KE.KExcSuper
import HandS.HeadHook2
import HandS.ExcOwn
import HandS.SortInts
import HandS.TryOnly
import HandS.ExcField
import KE.KExcIs
import HandS.ExcIs
import HandS.HeadWalk
import HandS.Ends
import HandS.More
import HandS.Head0
import HandS.Head1
import HandS.Head2
import HandS.ExcValue
import PyProof.SumWalkG
import PyProof.ListOps
import PyProof.FactsAll.subtypes_4
import HandS.HotCalls
import HandS.Deep
import KE.KTupSum
import KE.DataMinMax
import HandS.NoneIn
import KE.KIndexOf
import KE.DataFind
import KE.SortData
import PySem.Challenge.RW_fairdeals_k80_whole_rents_and_pays
import KE.KStateDown
import Lean
set_option Elab.async false
set_option linter.all false
set_option maxRecDepth 100000
set_option autoImplicit false
/-! made tuples are known to have no dict: the rules that make tuples -/
namespace L2
open PySem PySem.Spec PyProof.Rows
/-- a tuple whose object is known -/
abbrev frT (o : Obj) (xs : List V) : HO := .frz o (.tup xs)
/-- the object at p is known to have no dict -/
def NdT (K : PySem.W.Frag) (H : Hp) (p : Addr) : Prop := (∃ o u, H p = some (.frz o u) ∧ o.dict = none) ∨ ∃ o, K.lookup p = some o ∧ o.dict = none
theorem sqT_fr {K : PySem.W.Frag} {H : Hp} {p : Addr} {o : Obj} {xs : List V} : SqT K (upd H p (frT o xs)) p xs := .inl (.inr ⟨o, upd_same⟩)
theorem ndT_fr {K : PySem.W.Frag} {H : Hp} {p : Addr} {o : Obj} {u : HO} (h : o.dict = none) : NdT K (upd H p (.frz o u)) p := .inl ⟨o, u, upd_same, h⟩
theorem NdT.mono {K : PySem.W.Frag} {H H' : Hp} {p : Addr} (s : ∀ b o, H b = some o → H' b = some o) (h : NdT K H p) : NdT K H' p := by
  rcases h with ⟨o, u, h, e⟩ | h
  · exact .inl ⟨o, u, s _ _ h, e⟩
  · exact .inr h
section
variable {X : Cx} {es : List Expr} {pos : Pos} {t : TA}
def tTupF (t : TA) : TE := fun σ H Q => t σ H fun xs H1 => xs.length ≤ sizeLine ∧ ∀ (p : Addr) (o : Obj), o.dict = none → H1 p = none → Q (.ref p) (upd H1 p (frT o xs))
theorem pe_tupF {x1} (h : PA X es t) : PE X (.Tuple es x1 pos) (tTupF t) := by
  refine ⟨fun pins s σ H Q I hq => ?_⟩
  refine wpAny_Tuple_spliced (thn (h.run pos pins s σ H _ I hq) fun us s1 ⟨xs, H1, I1, r, z, q⟩ => ⟨by rw [← r.length]; exact z, ?_⟩)
  have hf : H1 s1.heap.objs.size = none := I1.hok.fresh (Nat.le_refl _)
  refine ⟨.ref s1.heap.objs.size, upd H1 s1.heap.objs.size (frT { cls := .type "tuple", data := .seq us.toArray } xs), I1.laid (t' := s1.toks) (fun b u e => Heap.get?_push_of_some _ e) (Nat.le_refl _) ?_, rfl, q _ _ rfl hf⟩
  exact ⟨Heap.get?_push_size _ rfl, z, us, r, ⟨_, Heap.get?_push_size _ rfl, rfl, _, rfl⟩⟩
def rCatF (K : PySem.W.Frag) : R2 := fun x y H Q => ∃ a b xs ys, x = .ref a ∧ y = .ref b ∧ SqT K H a xs ∧ SqT K H b ys ∧ xs.length + ys.length ≤ sizeLine ∧
  (xs = [] → Q (.ref b) H) ∧ (xs ≠ [] → ys = [] → Q (.ref a) H) ∧ (xs ≠ [] → ys ≠ [] → ∀ (p : Addr) (o : Obj), o.dict = none → H p = none → Q (.ref p) (upd H p (frT o (xs ++ ys))))
theorem op_catF : OpR X (binaryOp .Add) (rCatF X.K) := by
  intro pins s σ H x y v u Q I rx ry h
  obtain ⟨a, b, xs, ys, rfl, rfl, ha, hb, hz, q0, q1, q2⟩ := h
  by_cases hx : xs = []
  · subst hx
    cases rx
    cases ry
    obtain ⟨its, r1, p1, _⟩ := I.tuple ha
    obtain ⟨its2, r2, p2, _⟩ := I.tuple hb
    cases r1
    exact cat_tup0 p1 p2 ⟨.ref b, H, I, rfl, q0 rfl⟩
  · cases rx
    cases ry
    obtain ⟨its, r1, p1, _⟩ := I.tuple ha
    obtain ⟨its2, r2, p2, _⟩ := I.tuple hb
    refine HT.cat_tup p1 p2 (fun z => hx (r1.nil_iff.mp z)) (fun z => ⟨.ref a, H, I, rfl, q1 hx (r2.nil_iff.mp z)⟩) (fun z => ?_) (by rw [← r1.length, ← r2.length]; exact hz)
    refine ⟨.ref s.heap.objs.size, _, I.laid (t' := s.toks) (o := frT { cls := .type "tuple", data := .seq (its.toArray ++ its2.toArray) } (xs ++ ys)) (fun b ob q => Heap.get?_push_of_some _ q) (Nat.le_refl _) ?_, rfl, q2 hx (fun w => z (r2.nil_iff.mpr w)) _ _ rfl (I.hok.fresh (Nat.le_refl _))⟩
    have hg := Heap.get?_push_size s.heap (o := { cls := .type "tuple", data := .seq (its.toArray ++ its2.toArray) }) rfl
    have hap := r1.append r2
    exact ⟨by simpa using hg, by rw [List.length_append]; exact hz, _, hap, by simpa using IsTup.new s.heap (its ++ its2).toArray⟩
def rSlF (K : PySem.W.Frag) : V → Option Int → Option Int → Hp → VK → Prop := fun x lo hi H Q => ∃ a xs, x = .ref a ∧ SqT K H a xs ∧
  (HT.sIx xs.length 0 lo = 0 ∧ HT.sIx xs.length xs.length hi = xs.length → Q (.ref a) H) ∧ (¬ (HT.sIx xs.length 0 lo = 0 ∧ HT.sIx xs.length xs.length hi = xs.length) → ∀ (p : Addr) (o : Obj), o.dict = none → H p = none → Q (.ref p) (upd H p (frT o (cutV xs lo hi))))
theorem sl_tupF : SlR X (rSlF X.K) := by
  intro pins s σ H x v vl vu lo hi sl Q I rx hs pl pu h
  obtain ⟨a, xs, rfl, hx, q1, q2⟩ := h
  cases rx
  obtain ⟨its, r, ht, hz⟩ := I.tuple hx
  have hlen : its.toArray.size = xs.length := by rw [List.size_toArray]; exact r.length.symm
  by_cases hw : HT.sIx xs.length 0 lo = 0 ∧ HT.sIx xs.length xs.length hi = xs.length
  · refine ⟨"tuple", _, PyProof.Rows.slot_tuple_getitem.lookup, ht.typeIs, ?_⟩
    exact getItem_tuple_whole ht hs pl pu (by rw [hlen]; exact hw) ⟨.ref a, H, I, rfl, q1 hw⟩
  · refine ⟨"tuple", _, PyProof.Rows.slot_tuple_getitem.lookup, ht.typeIs, ?_⟩
    refine HT.getItem_tuple_cut ht hs pl pu (by rw [hlen]; exact hw) ?_ (by rw [hlen]; exact hz)
    rw [hlen]
    refine ⟨.ref s.heap.objs.size, _, I.laid (t' := s.toks) (o := frT { cls := .type "tuple", data := .seq ((its.drop (HT.sIx xs.length 0 lo)).take (HT.sIx xs.length xs.length hi - HT.sIx xs.length 0 lo)).toArray } (cutV xs lo hi)) (fun b ob q => Heap.get?_push_of_some _ q) (Nat.le_refl _) ?_, rfl, q2 hw _ _ rfl (I.hok.fresh (Nat.le_refl _))⟩
    exact ⟨Heap.get?_push_size _ rfl, Nat.le_trans (cutV_length xs lo hi) hz, _, (r.drop (HT.sIx xs.length 0 lo)).take (HT.sIx xs.length xs.length hi - HT.sIx xs.length 0 lo), IsTup.new _ _⟩
abbrev rTupleF (K : PySem.W.Frag) : List V → Hp → VK → Prop := fun xs H Q => ∃ p ys, xs = [V.ref p] ∧ ((SqL K H p ys ∧ ∀ (l : Addr) (o : Obj), o.dict = none → H l = none → Q (.ref l) (upd H l (frT o ys))) ∨ (SqT K H p ys ∧ Q (.ref p) H))
theorem call_tupleF : CallR X (.type "tuple") (rTupleF X.K) := by
  intro pins s σ H xs us Q I r h
  obtain ⟨p, ys, rfl, h⟩ := h
  obtain ⟨u, rfl, rx⟩ := vals1 r
  cases rx
  rcases h with ⟨hq, q⟩ | ⟨hq, q⟩
  · obtain ⟨its, r', pl, hz⟩ := I.list hq
    have hlen := r'.length
    refine call_tuple_list pl.isList (fun h' kp => ?_) (by simp only [List.size_toArray] <;> omega)
    have I1 : Inv X pins σ H { s with heap := h' } := I.kept (t' := s.toks) kp
    have I2 : Inv X pins σ (upd H h'.objs.size (frT { cls := .type "tuple", data := .seq its.toArray } ys)) { s with heap := h'.push { cls := .type "tuple", data := .seq its.toArray } } :=
      I1.laid (t' := s.toks) (fun b o e => Heap.get?_push_of_some _ e) (Nat.le_refl _) (show ObjOk X.prog X.w _ _ _ (frT _ ys) from ⟨Heap.get?_push_size _ rfl, hz, its, r', IsTup.new _ _⟩)
    exact ⟨.ref h'.objs.size, _, I2, rfl, q _ _ rfl (I1.hok.fresh (Nat.le_refl _))⟩
  · obtain ⟨its, r', pl, hz⟩ := I.tuple hq
    exact call_tuple_same pl ⟨.ref p, H, I, rfl, q⟩
def tTupRgF (te : St → Hp → (Int → Int → Hp → Prop) → Prop) : TE := fun σ H Q => te σ H fun a b H1 => RgOk a b ∧ ∀ (q : Addr) (o : Obj), o.dict = none → H1 q = none → Q (.ref q) (upd H1 q (frT o (rgV a b)))
theorem pe_tupRgF {p pos : Pos} {e : Expr} {te : St → Hp → (Int → Int → Hp → Prop) → Prop} (hc : X.calm = true) (hg : Gl X "tuple") (hm : X.mg "tuple" = none) (he : PRg X e te) (na : starEach [e] X.env = (false, eval e X.env) :: starEach [] X.env := by rfl) : PE X (.Call (.Name "tuple" p) [e] [] pos) (tTupRgF te) := by
  refine ⟨fun pins s σ H Q I h => ?_⟩
  refine Call_ (ld_blt I hg hm boot_tuple (PyProof.Rows.callWith_type1 (args_cons (thn (he pins s σ H _ I h) fun x s1 ⟨r, a, b, t, u, v, H1, ex, hr, I1, ok, q⟩ => args_nil ?_) na) na))
  subst ex
  obtain ⟨b1, b2, b3, b4, b5⟩ := ok
  refine call_tuple_range (n := (b - a).toNat) (I1.ok.hd hc) hr (small_one b1 b2 b3 b4) (rangeSize_nat a b) b5 fun h' tk acc hk hi => ?_
  have I2 : Inv X pins σ H1 { s1 with heap := h', toks := tk } := I1.kept hk
  refine ⟨.ref h'.objs.size, upd H1 h'.objs.size (frT { cls := .type "tuple", data := .seq acc } (rgV a b)), I2.laid (t' := tk) (fun c o e => Heap.get?_push_of_some _ e) (Nat.le_refl _) (show ObjOk X.prog X.w _ _ _ (frT _ (rgV a b)) from ⟨Heap.get?_push_size _ rfl, ?_, acc.toList, vals_rg hi, ?_⟩), rfl, q _ _ rfl (I2.hok.fresh (Nat.le_refl _))⟩
  · rw [rgV_length, sizeLine_eq]; omega
  · rw [Array.toArray_toList]; exact IsTup.new _ _
end
end L2
/-! Fd: a functional reading of a def. Values are trees (D); what a def does is a function over trees (M); each rule here says that a reading of the hand layer follows from the functional one. -/
namespace Fd
open PySem PySem.Spec PyProof.Rows L2

/-- a value as a tree -/
inductive D where
  | non | bl (b : Bool) | int (i : Int) | str (s : Str) | tup (xs : List D) | lst (xs : List D) | dct (kvs : List (Key × D)) | obj (c : Str) (fs : List (Str × D)) | hand | scr (ns : List Int)

/-- the hand of draws; the tables of code objects that may be asked -/
structure Hd where
  p : Option Addr
  T : List (Addr × Str)
/-- nothing stands there, but a table -/
def Fre (H : Hp) (p : Addr) : Prop := ∀ o, H p = some o → ∃ ps, o = .tbl ps
theorem Fre.of {H : Hp} {p : Addr} (h : H p = none) : Fre H p := fun o e => by rw [h] at e; cases e
/-- no table, no code object -/
def PlainO (o : HO) : Prop := (∀ ps, o ≠ .tbl ps) ∧ ∀ f, o ≠ .ext f
theorem Fre.not {H : Hp} {p : Addr} {o : HO} (h : Fre H p) (e : H p = some o) (n : ∀ ps, o ≠ .tbl ps) : False := by
  obtain ⟨ps, q⟩ := h o e
  exact n ps q
/-- an object that is neither turns into another one: tables stay -/
theorem tabs_upd {T : List (Addr × Str)} {H : Hp} {p : Addr} {o o' : HO} (h : H p = some o) (n : PlainO o) (t : LamX.Tabs T H) : LamX.Tabs T (upd H p o') := fun x hx => by
  obtain ⟨ps, h1, h2, h3⟩ := t x hx
  have ne : ∀ {c : Addr} {u : HO}, H c = some u → (∀ z, o = u → z) → c ≠ p := fun {c u} hc hz e => by
    rw [e, h] at hc
    exact hz False (Option.some.inj hc)
  refine ⟨ps, by rw [upd_ne (ne h1 fun z e => (n.1 _ e).elim)]; exact h1, h2, fun pos cv hc => ?_⟩
  obtain ⟨c, e1, e2⟩ := h3 pos cv hc
  exact ⟨c, e1, by rw [upd_ne (ne e2 fun z e => (n.2 _ e).elim)]; exact e2⟩
/-- .. is taken out -/
theorem tabs_out {T : List (Addr × Str)} {H : Hp} {p : Addr} {o : HO} (h : H p = some o) (n : PlainO o) (t : LamX.Tabs T H) : LamX.Tabs T (fun b => if b = p then none else H b) := fun x hx => by
  obtain ⟨ps, h1, h2, h3⟩ := t x hx
  have ne : ∀ {c : Addr} {u : HO}, H c = some u → (∀ z, o = u → z) → c ≠ p := fun {c u} hc hz e => by
    rw [e, h] at hc
    exact hz False (Option.some.inj hc)
  refine ⟨ps, (if_neg (ne h1 fun z e => (n.1 _ e).elim)).trans h1, h2, fun pos cv hc => ?_⟩
  obtain ⟨c, e1, e2⟩ := h3 pos cv hc
  exact ⟨c, e1, (if_neg (ne e2 fun z e => (n.2 _ e).elim)).trans e2⟩
/-! v stands for the tree d in the heap H -/
mutual
inductive Rep (K : PySem.W.Frag) (a : Hd) (H : Hp) : D → V → Prop
  | non : Rep K a H .non .non
  | bl (b : Bool) : Rep K a H (.bl b) (.bl b)
  | int (i : Int) : Rep K a H (.int i) (.int i)
  | str (s : Str) : Rep K a H (.str s) (.str s)
  | tup {p : Addr} {vs : List V} {ds : List D} : SqT K H p vs → NdT K H p → RepL K a H ds vs → Rep K a H (.tup ds) (.ref p)
  | lst {p : Addr} {vs : List V} {ds : List D} : H p = some (.lst vs) → RepL K a H ds vs → Rep K a H (.lst ds) (.ref p)
  | dct {p : Addr} {kvs : List (Key × V)} {ds : List (Key × D)} : H p = some (.dK kvs) → RepK K a H ds kvs → Rep K a H (.dct ds) (.ref p)
  | obj {p dx : Addr} {c : Str} {fs : List (Str × V)} {ds : List (Str × D)} : H p = some (.ins (He.ga K c) dx fs) → H dx = some (.own p) → RepF K a H ds fs → Rep K a H (.obj c ds) (.ref p)
  | hand {p : Addr} : a.p = some p → Rep K a H .hand (.ref p)
  | scr {p : Addr} {ns : List Int} : SqL K H p (ns.map V.int) → Rep K a H (.scr ns) (.ref p)
inductive RepL (K : PySem.W.Frag) (a : Hd) (H : Hp) : List D → List V → Prop
  | nil : RepL K a H [] []
  | cons {d : D} {v : V} {ds : List D} {vs : List V} : Rep K a H d v → RepL K a H ds vs → RepL K a H (d :: ds) (v :: vs)
inductive RepK (K : PySem.W.Frag) (a : Hd) (H : Hp) : List (Key × D) → List (Key × V) → Prop
  | nil : RepK K a H [] []
  | cons {k : Key} {d : D} {v : V} {ds : List (Key × D)} {vs : List (Key × V)} : Rep K a H d v → RepK K a H ds vs → RepK K a H ((k, d) :: ds) ((k, v) :: vs)
inductive RepF (K : PySem.W.Frag) (a : Hd) (H : Hp) : List (Str × D) → List (Str × V) → Prop
  | nil : RepF K a H [] []
  | cons {k : Str} {d : D} {v : V} {ds : List (Str × D)} {vs : List (Str × V)} : Rep K a H d v → RepF K a H ds vs → RepF K a H ((k, d) :: ds) ((k, v) :: vs)
end

theorem same_sqT {K : PySem.W.Frag} {H H' : Hp} {p : Addr} {vs : List V} (s : Same H H') (h : SqT K H p vs) : SqT K H' p vs := by
  rcases h with (h | ⟨o, h⟩) | h
  · exact .inl (.inl (s _ _ h))
  · exact .inl (.inr ⟨o, s _ _ h⟩)
  · exact .inr h
section
variable {K : PySem.W.Frag} {a : Hd} {H H' : Hp}
mutual
theorem Rep.mono (s : Same H H') : ∀ {d : D} {v : V}, Rep K a H d v → Rep K a H' d v
  | _, _, .non => .non
  | _, _, .bl b => .bl b
  | _, _, .int i => .int i
  | _, _, .str z => .str z
  | _, _, .tup h n r => .tup (same_sqT s h) (n.mono s) (RepL.mono s r)
  | _, _, .lst h r => .lst (s _ _ h) (RepL.mono s r)
  | _, _, .dct h r => .dct (s _ _ h) (RepK.mono s r)
  | _, _, .obj h h2 r => .obj (s _ _ h) (s _ _ h2) (RepF.mono s r)
  | _, _, .hand h => .hand h
  | _, _, .scr h => .scr (s.seq h)
theorem RepL.mono (s : Same H H') : ∀ {d : List D} {v : List V}, RepL K a H d v → RepL K a H' d v
  | _, _, .nil => .nil
  | _, _, .cons h r => .cons (Rep.mono s h) (RepL.mono s r)
theorem RepK.mono (s : Same H H') : ∀ {d : List (Key × D)} {v : List (Key × V)}, RepK K a H d v → RepK K a H' d v
  | _, _, .nil => .nil
  | _, _, .cons h r => .cons (Rep.mono s h) (RepK.mono s r)
theorem RepF.mono (s : Same H H') : ∀ {d : List (Str × D)} {v : List (Str × V)}, RepF K a H d v → RepF K a H' d v
  | _, _, .nil => .nil
  | _, _, .cons h r => .cons (Rep.mono s h) (RepF.mono s r)
end
theorem RepL.length : ∀ {ds : List D} {vs : List V}, RepL K a H ds vs → ds.length = vs.length
  | _, _, .nil => rfl
  | _, _, .cons _ r => congrArg (· + 1) (RepL.length r)
theorem RepL.append : ∀ {ds es : List D} {vs ws : List V}, RepL K a H ds vs → RepL K a H es ws → RepL K a H (ds ++ es) (vs ++ ws)
  | _, _, _, _, .nil, q => q
  | _, _, _, _, .cons h r, q => .cons h (RepL.append r q)
theorem RepL.get : ∀ {ds : List D} {vs : List V} {i : Nat} {v : V}, RepL K a H ds vs → vs[i]? = some v → ∃ d, ds[i]? = some d ∧ Rep K a H d v
  | _, _, _, _, .nil, e => by simp at e
  | _, _, 0, _, .cons h _, e => by
    have e2 := Option.some.inj e
    subst e2
    exact ⟨_, rfl, h⟩
  | _, _, i + 1, v, .cons _ r, e => by
    obtain ⟨d, e1, h⟩ := RepL.get (i := i) (v := v) r (by simpa using e)
    exact ⟨d, by simpa using e1, h⟩
theorem RepL.getD : ∀ {ds : List D} {vs : List V} {i : Nat} {d : D}, RepL K a H ds vs → ds[i]? = some d → ∃ v, vs[i]? = some v ∧ Rep K a H d v
  | _, _, _, _, .nil, e => by simp at e
  | _, _, 0, _, .cons h _, e => by
    have e2 := Option.some.inj e
    subst e2
    exact ⟨_, rfl, h⟩
  | _, _, i + 1, v, .cons _ r, e => by
    obtain ⟨d, e1, h⟩ := RepL.getD (i := i) (d := v) r (by simpa using e)
    exact ⟨d, by simpa using e1, h⟩
theorem RepL.take : ∀ {ds : List D} {vs : List V} (n : Nat), RepL K a H ds vs → RepL K a H (ds.take n) (vs.take n)
  | _, _, 0, _ => .nil
  | _, _, _ + 1, .nil => .nil
  | _, _, n + 1, .cons h r => .cons h (RepL.take n r)
theorem RepL.drop : ∀ {ds : List D} {vs : List V} (n : Nat), RepL K a H ds vs → RepL K a H (ds.drop n) (vs.drop n)
  | _, _, 0, r => r
  | _, _, _ + 1, .nil => .nil
  | _, _, n + 1, .cons _ r => RepL.drop n r
theorem RepL.set {d : D} {v : V} (q : Rep K a H d v) : ∀ {ds : List D} {vs : List V} (i : Nat), RepL K a H ds vs → RepL K a H (ds.set i d) (vs.set i v)
  | _, _, _, .nil => .nil
  | _, _, 0, .cons _ r => .cons q r
  | _, _, i + 1, .cons h r => .cons h (RepL.set q i r)
theorem RepL.eraseIdx : ∀ {ds : List D} {vs : List V} (i : Nat), RepL K a H ds vs → RepL K a H (ds.eraseIdx i) (vs.eraseIdx i)
  | _, _, _, .nil => .nil
  | _, _, 0, .cons _ r => r
  | _, _, i + 1, .cons h r => .cons h (RepL.eraseIdx i r)
theorem RepL.dropLast {ds : List D} {vs : List V} (r : RepL K a H ds vs) : RepL K a H ds.dropLast vs.dropLast := by
  rw [List.dropLast_eq_take, List.dropLast_eq_take, r.length]
  exact r.take _
theorem RepL.replicate {d : D} {v : V} (q : Rep K a H d v) : ∀ n : Nat, RepL K a H (List.replicate n d) (List.replicate n v)
  | 0 => .nil
  | n + 1 => .cons q (RepL.replicate q n)
theorem RepL.rep {ds : List D} {vs : List V} (q : RepL K a H ds vs) : ∀ n : Nat, RepL K a H (List.replicate n ds).flatten (List.replicate n vs).flatten
  | 0 => .nil
  | n + 1 => by
    rw [List.replicate_succ, List.replicate_succ, List.flatten_cons, List.flatten_cons]
    exact q.append (RepL.rep q n)
theorem RepL.ints : ∀ {ns : List Int} {vs : List V}, RepL K a H (ns.map D.int) vs → vs = ns.map V.int
  | [], _, .nil => rfl
  | n :: ns, _, .cons (.int _) r => by rw [RepL.ints r]; rfl
theorem RepL.bools : ∀ {ns : List Bool} {vs : List V}, RepL K a H (ns.map D.bl) vs → vs = ns.map V.bl
  | [], _, .nil => rfl
  | n :: ns, _, .cons (.bl _) r => by rw [RepL.bools r]; rfl
theorem RepL.ofInts : ∀ (ns : List Int), RepL K a H (ns.map D.int) (ns.map V.int)
  | [] => .nil
  | n :: ns => .cons (.int n) (RepL.ofInts ns)
theorem RepF.look {f : Str} : ∀ {ds : List (Str × D)} {vs : List (Str × V)} {d : D}, RepF K a H ds vs → ds.lookup f = some d → ∃ v, vs.lookup f = some v ∧ Rep K a H d v
  | _, _, _, .nil, e => by simp at e
  | _, _, d, .cons (k := k) (d := d0) (v := v0) (ds := ds) (vs := vs) h r, e => by
    by_cases q : (f == k) = true
    · have e1 : ((k, d0) :: ds).lookup f = some d0 := by simp only [List.lookup, q]
      rw [e1] at e
      have e2 := Option.some.inj e
      subst e2
      exact ⟨v0, by simp only [List.lookup, q], h⟩
    · have q2 : (f == k) = false := by simpa using q
      have e1 : ((k, d0) :: ds).lookup f = ds.lookup f := by simp only [List.lookup, q2]
      rw [e1] at e
      obtain ⟨v, e3, h3⟩ := RepF.look r e
      exact ⟨v, by simp only [List.lookup, q2]; exact e3, h3⟩
end

/-! ### the state -/
/-- the heap is as it was, but for the hand and the tables -/
structure SB (a : Hd) (H H' : Hp) : Prop where
  k : ∀ b o, a.p ≠ some b → H b = some o → (∀ ps, o ≠ .tbl ps) → H' b = some o
  t : LamX.Tabs a.T H → LamX.Tabs a.T H'
theorem SB.refl {a : Hd} {H : Hp} : SB a H H := ⟨fun _ _ _ h _ => h, fun h => h⟩
theorem SB.trans {a : Hd} {H H1 H2 : Hp} (x : SB a H H1) (y : SB a H1 H2) : SB a H H2 := ⟨fun b o n h z => y.k b o n (x.k b o n h z) z, fun h => y.t (x.t h)⟩
theorem SB.of {a : Hd} {H H' : Hp} (s : Same H H') : SB a H H' := ⟨fun b o _ h _ => s b o h, fun h => h.ext s⟩
theorem SB.free {a : Hd} {H H' : Hp} (s : SB a H H') {p : Addr} (n : a.p ≠ some p) (h : Fre H' p) : Fre H p := fun o q => by
  by_cases z : ∃ ps, o = .tbl ps
  · exact z
  · exact h o (s.k p o n q fun ps e => z ⟨ps, e⟩)

/-- the heap has grown: what stands still is kept, what is new in it is new -/
structure Gr (a : Hd) (Hs H Hs' H' : Hp) : Prop where
  s : Same Hs Hs'
  b : SB a H H'
  n : ∀ p o, Hs' p = some o → Hs p = some o ∨ (Fre H p ∧ a.p ≠ some p)
theorem Gr.refl {a : Hd} {Hs H : Hp} : Gr a Hs H Hs H := ⟨Same.refl _, SB.refl, fun _ _ h => .inl h⟩
theorem Gr.trans {a : Hd} {Hs H Hs1 H1 Hs2 H2 : Hp} (x : Gr a Hs H Hs1 H1) (y : Gr a Hs1 H1 Hs2 H2) : Gr a Hs H Hs2 H2 := ⟨x.s.trans y.s, x.b.trans y.b, fun p o h => by
  rcases y.n p o h with h | ⟨h, n⟩
  · exact x.n p o h
  · exact .inr ⟨x.b.free n h, n⟩⟩

/-- the hand of draws: a list of five; no table among what stands still -/
structure HandOk (a : Hd) (Hs H : Hp) : Prop where
  nt : ∀ b ps, Hs b ≠ some (.tbl ps)
  at_ : ∀ x, a.p = some x → Hs x = none ∧ ∃ (c : Addr) (i b s n : Int) (cells : List Int),
    H x = some (.lst [.ref c, .int i, .int b, .int s, .int n]) ∧ Hs c = some (.lst (cells.map V.int)) ∧ 0 ≤ i ∧ cells.length ≤ 63

/-- what a slot holds: nothing known; a tree that stands still; a list, a dict of one's own (its items stand still) -/
inductive En where
  | no | sh (d : D) | ol (ds : List D) | od (kvs : List (Key × D)) | odl (p : Addr) (ob : Obj) (vs : List (Key × V)) (kvs : List (Key × D)) | oo (c : Str) (p dx : Addr) (fs : List (Str × D)) | oh (p : Addr) (ds : List D) | rl (ds : List D) | rd (kvs : List (Key × D)) | xc (x : Str × List (Str × D)) (p : Addr) (cls : Value) (d : Option Addr) | clo (p : Addr)

/-- an exception as the functional reading sees it: its class, its fields -/
abbrev EX := Str × List (Str × D)
structure Ctx where
  K : PySem.W.Frag
  a : Hd
  H0 : Hp
  Hs0 : Hp
  W : EX → Prop

def EnOk (C : Ctx) (Hs H : Hp) : En → Option (Option V) → Prop
  | .no, _ => True
  | .sh d, s => ∃ v, s = some (some v) ∧ Rep C.K C.a Hs d v
  | .ol ds, s => ∃ p vs, s = some (some (.ref p)) ∧ H p = some (.lst vs) ∧ RepL C.K C.a Hs ds vs ∧ Fre C.H0 p ∧ Hs p = none ∧ C.a.p ≠ some p
  | .od kvs, s => ∃ p vs, s = some (some (.ref p)) ∧ H p = some (.dK vs) ∧ RepK C.K C.a Hs kvs vs ∧ Fre C.H0 p ∧ Hs p = none ∧ C.a.p ≠ some p
  | .oh p ds, s => ∃ vs, s = some (some (.ref p)) ∧ H p = some (.lst vs) ∧ RepL C.K C.a Hs ds vs ∧ Fre C.H0 p ∧ Hs p = none ∧ C.a.p ≠ some p
  | .oo c p dx fs, s => ∃ vs, s = some (some (.ref p)) ∧ H p = some (.ins (He.ga C.K c) dx vs) ∧ H dx = some (.own p) ∧ RepF C.K C.a Hs fs vs ∧ Fre C.H0 p ∧ Hs p = none ∧ C.a.p ≠ some p ∧ Hs dx = none ∧ C.a.p ≠ some dx
  | .odl p ob vs kvs, s => s = some (some (.ref p)) ∧ H p = some (.frz ob (.dK vs)) ∧ RepK C.K C.a Hs kvs vs ∧ Fre C.H0 p ∧ Hs p = none ∧ C.a.p ≠ some p
  | .rl ds, s => ∃ p vs, s = some (some (.ref p)) ∧ H p = some (.lst vs) ∧ RepL C.K C.a Hs ds vs ∧ C.a.p ≠ some p ∧ ¬ Fre C.H0 p
  | .rd kvs, s => ∃ p vs, s = some (some (.ref p)) ∧ H p = some (.dK vs) ∧ RepK C.K C.a Hs kvs vs ∧ C.a.p ≠ some p ∧ ¬ Fre C.H0 p
  | .xc x p cls d, s => s = some (some (.ref p)) ∧ cls = .ref (He.ga C.K x.1) ∧ ∃ dx vs, d = some dx ∧ H dx = some (.xd vs) ∧ RepF C.K C.a Hs x.2 vs ∧ C.a.p ≠ some dx
  | .clo p, s => s = some (some (.ref p))
def En.own : En → Bool
  | .ol _ => true
  | .od _ => true
  | .odl _ _ _ _ => true
  | .oo _ _ _ _ => true
  | .oh _ _ => true
  | _ => false

structure RS (C : Ctx) (Hs : Hp) (ρ : List En) (σ : L2.St) (H : Hp) : Prop where
  len : ρ.length = σ.length
  fr : SB C.a C.H0 H
  sh : Same Hs H
  sh0 : Same C.Hs0 Hs
  new : ∀ b o, Hs b = some o → C.Hs0 b = some o ∨ Fre C.H0 b
  hd : HandOk C.a Hs H
  hd0 : ∀ x, C.a.p = some x → ¬ Fre C.H0 x
  en : ∀ (i : Nat) (e : En), ρ[i]? = some e → EnOk C Hs H e (σ[i]?)
  sep : ∀ (i j : Nat) (p : Addr) (e e' : En), i ≠ j → ρ[i]? = some e → ρ[j]? = some e' → e.own = true → e'.own = true → σ[i]? = some (some (.ref p)) → σ[j]? = some (some (.ref p)) → False

section
variable {C : Ctx} {Hs Hs' H H' : Hp} {ρ : List En} {σ : L2.St}
theorem RS.hs_a (r : RS C Hs ρ σ H) {x : Addr} (h : C.a.p = some x) : Hs x = none := (r.hd.at_ x h).1
theorem RS.a_in (r : RS C Hs ρ σ H) {x : Addr} (h : C.a.p = some x) : H x ≠ none := by
  obtain ⟨_, c, i, b, s, n, cells, h1, _⟩ := r.hd.at_ x h
  rw [h1]
  exact fun z => by cases z
theorem RS.fresh_a (r : RS C Hs ρ σ H) {p : Addr} (hp : H p = none) : C.a.p ≠ some p := fun h => r.a_in h hp
theorem RS.fresh_s (r : RS C Hs ρ σ H) {p : Addr} (hp : H p = none) : Hs p = none := r.sh.free hp
theorem RS.fresh_0 (r : RS C Hs ρ σ H) {p : Addr} (hp : H p = none) : Fre C.H0 p := r.fr.free (r.fresh_a hp) (.of hp)
theorem RS.fre_a (r : RS C Hs ρ σ H) {p : Addr} (hp : Fre H p) : C.a.p ≠ some p := fun h => by
  obtain ⟨_, c, i, b, s, n, cells, h1, _⟩ := r.hd.at_ p h
  exact hp.not h1 fun _ z => by cases z
theorem RS.fre_0 (r : RS C Hs ρ σ H) {p : Addr} (n : C.a.p ≠ some p) (hp : Fre H p) : Fre C.H0 p := r.fr.free n hp

theorem EnOk.mono {e : En} {s : Option (Option V)} (h : EnOk C Hs H e s) (s1 : Same Hs Hs') (sb : SB C.a H H') (n : ∀ p, C.a.p ≠ some p → ¬ Fre H p → Hs p = none → Hs' p = none) : EnOk C Hs' H' e s := by
  cases e with
  | no => trivial
  | sh d =>
    obtain ⟨v, e, q⟩ := h
    exact ⟨v, e, q.mono s1⟩
  | ol ds =>
    obtain ⟨p, vs, e, h1, h2, h3, h4, h5⟩ := h
    exact ⟨p, vs, e, sb.k _ _ h5 h1 (fun _ z => by cases z), h2.mono s1, h3, n p h5 (fun z => z.not h1 fun _ z => by cases z) h4, h5⟩
  | od kvs =>
    obtain ⟨p, vs, e, h1, h2, h3, h4, h5⟩ := h
    exact ⟨p, vs, e, sb.k _ _ h5 h1 (fun _ z => by cases z), h2.mono s1, h3, n p h5 (fun z => z.not h1 fun _ z => by cases z) h4, h5⟩
  | odl p ob vs kvs =>
    obtain ⟨e, h1, h2, h3, h4, h5⟩ := h
    exact ⟨e, sb.k _ _ h5 h1 (fun _ z => by cases z), h2.mono s1, h3, n p h5 (fun z => z.not h1 fun _ z => by cases z) h4, h5⟩
  | oh p ds =>
    obtain ⟨vs, e, h1, h2, h3, h4, h5⟩ := h
    exact ⟨vs, e, sb.k _ _ h5 h1 (fun _ z => by cases z), h2.mono s1, h3, n p h5 (fun z => z.not h1 fun _ z => by cases z) h4, h5⟩
  | oo c p dx fs =>
    obtain ⟨vs, e, h1, hd, h2, h3, h4, h5, h6, h7⟩ := h
    exact ⟨vs, e, sb.k _ _ h5 h1 (fun _ z => by cases z), sb.k _ _ h7 hd (fun _ z => by cases z), h2.mono s1, h3, n p h5 (fun z => z.not h1 fun _ z => by cases z) h4, h5, n dx h7 (fun z => z.not hd fun _ z => by cases z) h6, h7⟩
  | rl ds =>
    obtain ⟨p, vs, e, h1, h2, h5, h6⟩ := h
    exact ⟨p, vs, e, sb.k _ _ h5 h1 (fun _ z => by cases z), h2.mono s1, h5, h6⟩
  | rd kvs =>
    obtain ⟨p, vs, e, h1, h2, h5, h6⟩ := h
    exact ⟨p, vs, e, sb.k _ _ h5 h1 (fun _ z => by cases z), h2.mono s1, h5, h6⟩
  | clo p => exact h
  | xc x p cls d =>
    obtain ⟨e, ec, dx, vs, ed, h1, h2, h5⟩ := h
    exact ⟨e, ec, dx, vs, ed, sb.k _ _ h5 h1 (fun _ z => by cases z), h2.mono s1, h5⟩

/-- the heap grows by what stands still, and by more that nobody looks at; the hand may turn -/
theorem RS.grow (r : RS C Hs ρ σ H) (g : Gr C.a Hs H Hs' H') (s2 : Same Hs' H') (hd : HandOk C.a Hs' H') : RS C Hs' ρ σ H' where
  len := r.len
  fr := r.fr.trans g.b
  sh := s2
  sh0 := r.sh0.trans g.s
  new := fun b o h => by
    rcases g.n b o h with h1 | h1
    · exact r.new b o h1
    · exact .inr (r.fre_0 h1.2 h1.1)
  hd := hd
  hd0 := r.hd0
  en := fun i e h => (r.en i e h).mono g.s g.b fun p _ h3 h4 => by
    cases q : Hs' p with
    | none => rfl
    | some o =>
      rcases g.n p o q with z | z
      · rw [h4] at z
        cases z
      · exact absurd z.1 h3
  sep := r.sep

theorem HandOk.grow {a : Hd} (h : HandOk a Hs H) (s1 : Same Hs Hs') (sb : Same H H') (n : ∀ x, a.p = some x → Hs' x = none) (nt : ∀ b ps, Hs' b ≠ some (.tbl ps)) : HandOk a Hs' H' := ⟨nt, fun x e => by
  obtain ⟨_, c, i, b, s, k, cells, h1, h2, h3⟩ := h.at_ x e
  exact ⟨n x e, c, i, b, s, k, cells, sb _ _ h1, s1 _ _ h2, h3⟩⟩

theorem nt_upd {p : Addr} {o : HO} (h : ∀ b ps, Hs b ≠ some (.tbl ps)) (ho : ∀ ps, o ≠ .tbl ps) : ∀ b ps, upd Hs p o b ≠ some (.tbl ps) := fun b ps e => by
  by_cases z : b = p
  · rw [z, upd_same] at e
    exact ho ps (Option.some.inj e)
  · rw [upd_ne z] at e
    exact h b ps e
theorem same_upd {p : Addr} {o : HO} (h : H p = none) : Same H (upd H p o) := fun b x e => by
  rw [upd_ne (ne_of_none e h)]
  exact e
theorem same_upd2 {p : Addr} {o : HO} (s : Same Hs H) (h : H p = none) : Same (upd Hs p o) (upd H p o) := fun b x e => by
  by_cases z : b = p
  · subst z
    rw [upd_same] at e ⊢
    exact e
  · rw [upd_ne z] at e ⊢
    exact s _ _ e
theorem RS.back {ρ1 : List En} {σ1 : L2.St} (r : RS C Hs ρ σ H) (g : Gr C.a Hs H Hs' H') (r1 : RS C Hs' ρ1 σ1 H') : RS C Hs' ρ σ H' := r.grow g r1.sh r1.hd
theorem RS.gr_new (r : RS C Hs ρ σ H) {p : Addr} {o : HO} (hp : H p = none) : Gr C.a Hs H (upd Hs p o) (upd H p o) :=
  ⟨same_upd (r.fresh_s hp), SB.of (same_upd hp), fun b x e => by
      by_cases z : b = p
      · subst z
        exact .inr ⟨.of hp, r.fresh_a hp⟩
      · rw [upd_ne z] at e
        exact .inl e⟩
/-- a new object that stands still -/
theorem RS.alloc (r : RS C Hs ρ σ H) {p : Addr} {o : HO} (hp : H p = none) (ho : ∀ ps, o ≠ .tbl ps := by intro ps z; cases z) : RS C (upd Hs p o) ρ σ (upd H p o) :=
  r.grow (r.gr_new hp) (same_upd2 r.sh hp)
    (r.hd.grow (same_upd (r.fresh_s hp)) (same_upd hp) (fun x e => by
      have z : x ≠ p := fun q => by
        subst q
        exact r.fresh_a hp e
      rw [upd_ne z]
      exact r.hs_a e) (nt_upd r.hd.nt ho))
/-- a new object that nobody knows yet -/
theorem RS.gr_side (r : RS C Hs ρ σ H) {p : Addr} {o : HO} (hp : H p = none) : Gr C.a Hs H Hs (upd H p o) := ⟨Same.refl _, SB.of (same_upd hp), fun b x e => .inl e⟩
theorem RS.side (r : RS C Hs ρ σ H) {p : Addr} {o : HO} (hp : H p = none) : RS C Hs ρ σ (upd H p o) :=
  r.grow (r.gr_side hp) (r.sh.trans (same_upd hp)) (r.hd.grow (Same.refl _) (same_upd hp) (fun x e => r.hs_a e) r.hd.nt)
end

/-! ### what may be read where it is borrowed -/
/-- a tree that stands still, or the own list (dict) itself -/
inductive RepB (K : PySem.W.Frag) (a : Hd) (Hs H : Hp) : D → V → Prop
  | sh {d : D} {v : V} : Rep K a Hs d v → RepB K a Hs H d v
  | ol {p : Addr} {vs : List V} {ds : List D} : H p = some (.lst vs) → RepL K a Hs ds vs → a.p ≠ some p → RepB K a Hs H (.lst ds) (.ref p)
  | od {p : Addr} {vs : List (Key × V)} {ds : List (Key × D)} : H p = some (.dK vs) → RepK K a Hs ds vs → a.p ≠ some p → RepB K a Hs H (.dct ds) (.ref p)
theorem RepB.mono {K : PySem.W.Frag} {a : Hd} {Hs Hs' H H' : Hp} {d : D} {v : V} (h : RepB K a Hs H d v) (s : Same Hs Hs') (sb : SB a H H') : RepB K a Hs' H' d v := by
  cases h with
  | sh h => exact .sh (h.mono s)
  | ol h1 h2 h3 => exact .ol (sb.k _ _ h3 h1 fun _ z => by cases z) (h2.mono s) h3
  | od h1 h2 h3 => exact .od (sb.k _ _ h3 h1 fun _ z => by cases z) (h2.mono s) h3
/-- a borrowed list, read -/
theorem RepB.lst {K : PySem.W.Frag} {a : Hd} {Hs H : Hp} {ds : List D} {v : V} (s : Same Hs H) (h : RepB K a Hs H (.lst ds) v) : ∃ p vs, v = .ref p ∧ H p = some (.lst vs) ∧ RepL K a Hs ds vs := by
  cases h with
  | sh h =>
    cases h with
    | lst h r => exact ⟨_, _, rfl, s _ _ h, r⟩
  | ol h1 h2 h3 => exact ⟨_, _, rfl, h1, h2⟩
theorem RepB.tup {K : PySem.W.Frag} {a : Hd} {Hs H : Hp} {ds : List D} {v : V} (s : Same Hs H) (h : RepB K a Hs H (.tup ds) v) : ∃ p vs, v = .ref p ∧ SqT K H p vs ∧ RepL K a Hs ds vs := by
  cases h with
  | sh h =>
    cases h with
    | tup h n r => exact ⟨_, _, rfl, same_sqT s h, r⟩
theorem RepB.tupR {K : PySem.W.Frag} {a : Hd} {Hs H : Hp} {ds : List D} {v : V} (h : RepB K a Hs H (.tup ds) v) : Rep K a Hs (.tup ds) v := by
  cases h with
  | sh h => exact h
theorem RepB.dct {K : PySem.W.Frag} {a : Hd} {Hs H : Hp} {ds : List (Key × D)} {v : V} (s : Same Hs H) (h : RepB K a Hs H (.dct ds) v) : ∃ p vs, v = .ref p ∧ H p = some (.dK vs) ∧ RepK K a Hs ds vs := by
  cases h with
  | sh h =>
    cases h with
    | dct h r => exact ⟨_, _, rfl, s _ _ h, r⟩
  | od h1 h2 h3 => exact ⟨_, _, rfl, h1, h2⟩

/-! ### the functional readings, and what they say -/
abbrev QE := EX → Prop
abbrev ME := List En → (D → Prop) → QE → Prop
abbrev MT := List En → (Bool → Prop) → QE → Prop
abbrev MA := List En → (List D → Prop) → QE → Prop
structure SQ where
  nx : List En → Prop
  rt : List En → D → Prop
  bk : List En → Prop
  ct : List En → Prop
abbrev MS := List En → SQ → QE → Prop
abbrev M := List D → (D → Prop) → QE → Prop

/-- t follows from f -/
structure DT (C : Ctx) (t : TE) (f : ME) : Prop where
  run : ∀ Hs ρ σ H q qe Q, (∀ x, qe x → C.W x) → RS C Hs ρ σ H → f ρ q qe →
    (∀ d v Hs' H', q d → Gr C.a Hs H Hs' H' → RS C Hs' ρ σ H' → Rep C.K C.a Hs' d v → Q v H') → t σ H Q
/-- .. where the value is only read -/
structure DB (C : Ctx) (t : TE) (f : ME) : Prop where
  run : ∀ Hs ρ σ H q qe Q, (∀ x, qe x → C.W x) → RS C Hs ρ σ H → f ρ q qe →
    (∀ d v Hs' H', q d → Gr C.a Hs H Hs' H' → RS C Hs' ρ σ H' → RepB C.K C.a Hs' H' d v → Q v H') → t σ H Q
/-- .. where the value is a new list -/
structure DF (C : Ctx) (t : TE) (f : MA) : Prop where
  run : ∀ Hs ρ σ H q qe Q, (∀ x, qe x → C.W x) → RS C Hs ρ σ H → f ρ q qe →
    (∀ ds p vs Hs' H', q ds → Gr C.a Hs H Hs' H' → RS C Hs' ρ σ H' → H' p = none → RepL C.K C.a Hs' ds vs → Q (.ref p) (upd H' p (.lst vs))) → t σ H Q
structure DTt (C : Ctx) (t : TT) (f : MT) : Prop where
  run : ∀ Hs ρ σ H q qe Q, (∀ x, qe x → C.W x) → RS C Hs ρ σ H → f ρ q qe →
    (∀ b Hs' H', q b → Gr C.a Hs H Hs' H' → RS C Hs' ρ σ H' → Q b H') → t σ H Q
structure DA (C : Ctx) (t : TA) (f : MA) : Prop where
  run : ∀ Hs ρ σ H q qe Q, (∀ x, qe x → C.W x) → RS C Hs ρ σ H → f ρ q qe →
    (∀ ds vs Hs' H', q ds → Gr C.a Hs H Hs' H' → RS C Hs' ρ σ H' → RepL C.K C.a Hs' ds vs → Q vs H') → t σ H Q
inductive RepBL (K : PySem.W.Frag) (a : Hd) (Hs H : Hp) : List D → List V → Prop
  | nil : RepBL K a Hs H [] []
  | cons {d : D} {v : V} {ds : List D} {vs : List V} : RepB K a Hs H d v → RepBL K a Hs H ds vs → RepBL K a Hs H (d :: ds) (v :: vs)
theorem RepBL.mono {K : PySem.W.Frag} {a : Hd} {Hs Hs' H H' : Hp} (s : Same Hs Hs') (sb : SB a H H') : ∀ {d : List D} {v : List V}, RepBL K a Hs H d v → RepBL K a Hs' H' d v
  | _, _, .nil => .nil
  | _, _, .cons h r => .cons (h.mono s sb) (RepBL.mono s sb r)
structure DBA (C : Ctx) (t : TA) (f : MA) : Prop where
  run : ∀ Hs ρ σ H q qe Q, (∀ x, qe x → C.W x) → RS C Hs ρ σ H → f ρ q qe →
    (∀ ds vs Hs' H', q ds → Gr C.a Hs H Hs' H' → RS C Hs' ρ σ H' → RepBL C.K C.a Hs' H' ds vs → Q vs H') → t σ H Q
structure SL (C : Ctx) (Hs : Hp) (sq : SQ) (E : Ends) : Prop where
  nx : ∀ ρ' σ' Hs' H', sq.nx ρ' → Same Hs Hs' → RS C Hs' ρ' σ' H' → E.nx σ' H'
  rt : ∀ d v ρ' σ' Hs' H', sq.rt ρ' d → Same Hs Hs' → RS C Hs' ρ' σ' H' → Rep C.K C.a Hs' d v → E.rt v H'
  bk : ∀ ρ' σ' Hs' H', sq.bk ρ' → Same Hs Hs' → RS C Hs' ρ' σ' H' → E.bk σ' H'
  ct : ∀ ρ' σ' Hs' H', sq.ct ρ' → Same Hs Hs' → RS C Hs' ρ' σ' H' → E.ct σ' H'
theorem SL.mono {C : Ctx} {Hs Hs1 : Hp} {sq : SQ} {E : Ends} (s : Same Hs Hs1) (h : SL C Hs sq E) : SL C Hs1 sq E :=
  ⟨fun ρ' σ' Hs' H' a b => h.nx ρ' σ' Hs' H' a (s.trans b), fun d v ρ' σ' Hs' H' a b => h.rt d v ρ' σ' Hs' H' a (s.trans b), fun ρ' σ' Hs' H' a b => h.bk ρ' σ' Hs' H' a (s.trans b), fun ρ' σ' Hs' H' a b => h.ct ρ' σ' Hs' H' a (s.trans b)⟩
structure DS (C : Ctx) (t : TS) (f : MS) : Prop where
  run : ∀ Hs ρ σ H sq qe (E : Ends), (∀ x, qe x → C.W x) → RS C Hs ρ σ H → f ρ sq qe → SL C Hs sq E → t E σ H

theorem DT.b {C : Ctx} {t : TE} {f : ME} (h : DT C t f) : DB C t f :=
  ⟨fun Hs ρ σ H q qe Q l r w k => h.run Hs ρ σ H q qe Q l r w fun d v Hs' H' e g r' p => k d v Hs' H' e g r' (.sh p)⟩
/-- a new list as a value -/
def eNew (f : MA) : ME := fun ρ q qe => f ρ (fun ds => q (.lst ds)) qe
theorem DF.t {C : Ctx} {t : TE} {f : MA} (h : DF C t f) : DT C t (eNew f) :=
  ⟨fun Hs ρ σ H q qe Q l r w k => h.run Hs ρ σ H (fun ds => q (.lst ds)) qe Q l r w fun ds p vs Hs' H' e g r' hp rl =>
    k (.lst ds) (.ref p) (upd Hs' p (.lst vs)) (upd H' p (.lst vs)) e (g.trans (r'.gr_new hp)) (r'.alloc hp)
      (.lst upd_same (rl.mono (same_upd (r'.fresh_s hp))))⟩
end Fd
namespace Fd
open PySem PySem.Spec L2

/-! ### names, constants -/
def eVar (i : Nat) : ME := fun ρ q _ => match ρ[i]? with
  | some (.sh d) => q d
  | _ => False
def eRd (i : Nat) : ME := fun ρ q _ => match ρ[i]? with
  | some (.sh d) => q d
  | some (.ol ds) => q (.lst ds)
  | some (.od kvs) => q (.dct kvs)
  | some (.oh _ ds) => q (.lst ds)
  | some (.rl ds) => q (.lst ds)
  | some (.rd ds) => q (.dct ds)
  | _ => False
def eC (d : D) : ME := fun _ q _ => q d
section
variable {C : Ctx}
theorem dt_var (i : Nat) : DT C (tVar i) (eVar i) := by
  refine ⟨fun Hs ρ σ H q qe Q l r w k => ?_⟩
  unfold eVar at w
  cases e : ρ[i]? with
  | none => rw [e] at w; exact w.elim
  | some en =>
    rw [e] at w
    cases en with
    | sh d =>
      obtain ⟨v, ev, rp⟩ := r.en i _ e
      exact ⟨v, ev, k d v Hs H w Gr.refl r rp⟩
    | _ => exact w.elim
theorem db_rd (i : Nat) : DB C (tVar i) (eRd i) := by
  refine ⟨fun Hs ρ σ H q qe Q l r w k => ?_⟩
  unfold eRd at w
  cases e : ρ[i]? with
  | none => rw [e] at w; exact w.elim
  | some en =>
    rw [e] at w
    cases en with
    | no => exact w.elim
    | sh d =>
      obtain ⟨v, ev, rp⟩ := r.en i _ e
      exact ⟨v, ev, k d v Hs H w Gr.refl r (.sh rp)⟩
    | ol ds =>
      obtain ⟨p, vs, ev, h1, h2, h3, h4, h5⟩ := r.en i _ e
      exact ⟨_, ev, k _ _ Hs H w Gr.refl r (.ol h1 h2 h5)⟩
    | od ds =>
      obtain ⟨p, vs, ev, h1, h2, h3, h4, h5⟩ := r.en i _ e
      exact ⟨_, ev, k _ _ Hs H w Gr.refl r (.od h1 h2 h5)⟩
    | odl p ob vs ds => exact w.elim
    | oo c p dx fs => exact w.elim
    | oh p ds =>
      obtain ⟨vs, ev, h1, h2, h3, h4, h5⟩ := r.en i _ e
      exact ⟨_, ev, k _ _ Hs H w Gr.refl r (.ol h1 h2 h5)⟩
    | rl ds =>
      obtain ⟨p, vs, ev, h1, h2, h5, h6⟩ := r.en i _ e
      exact ⟨_, ev, k _ _ Hs H w Gr.refl r (.ol h1 h2 h5)⟩
    | rd ds =>
      obtain ⟨p, vs, ev, h1, h2, h5, h6⟩ := r.en i _ e
      exact ⟨_, ev, k _ _ Hs H w Gr.refl r (.od h1 h2 h5)⟩
    | xc x p cls d => exact w.elim
    | clo p => exact w.elim
theorem dt_int (i : Int) : DT C (tC (.int i)) (eC (.int i)) := ⟨fun Hs ρ σ H q qe Q l r w k => k _ _ Hs H w Gr.refl r (.int i)⟩
theorem dt_bl (b : Bool) : DT C (tC (.bl b)) (eC (.bl b)) := ⟨fun Hs ρ σ H q qe Q l r w k => k _ _ Hs H w Gr.refl r (.bl b)⟩
theorem dt_str (b : Str) : DT C (tC (.str b)) (eC (.str b)) := ⟨fun Hs ρ σ H q qe Q l r w k => k _ _ Hs H w Gr.refl r (.str b)⟩
theorem dt_non : DT C (tC .non) (eC .non) := ⟨fun Hs ρ σ H q qe Q l r w k => k _ _ Hs H w Gr.refl r .non⟩

/-! ### operators by values -/
abbrev O2 := D → D → (D → Prop) → Prop
structure D2 (C : Ctx) (t : R2) (op : O2) : Prop where
  run : ∀ Hs ρ σ H x y vx vy q Q, RS C Hs ρ σ H → RepB C.K C.a Hs H x vx → RepB C.K C.a Hs H y vy → op x y q →
    (∀ d v Hs' H', q d → Gr C.a Hs H Hs' H' → RS C Hs' ρ σ H' → Rep C.K C.a Hs' d v → Q v H') → t vx vy H Q
def e2 (op : O2) (fa fb : ME) : ME := fun ρ q qe => fa ρ (fun x => fb ρ (fun y => op x y q) qe) qe
theorem dt_op {t : R2} {op : O2} {ta tb : TE} {fa fb : ME} (h : D2 C t op) (ha : DB C ta fa) (hb : DB C tb fb) : DT C (tOp t ta tb) (e2 op fa fb) := by
  refine ⟨fun Hs ρ σ H q qe Q l r w k => ?_⟩
  refine ha.run Hs ρ σ H _ qe _ l r w fun x vx Hs1 H1 w1 g1 r1 p1 => ?_
  refine hb.run Hs1 ρ σ H1 _ qe _ l r1 w1 fun y vy Hs2 H2 w2 g2 r2 p2 => ?_
  exact h.run Hs2 ρ σ H2 x y vx vy q Q r2 (p1.mono g2.s g2.b) p2 w2 fun d v Hs3 H3 e g3 r3 p3 => k d v Hs3 H3 e (g1.trans (g2.trans g3)) r3 p3

/-- plus: of two ints, texts, lists, tuples -/
def dAdd : O2 := fun x y q => match x, y with
  | .int i, .int j => q (.int (i + j))
  | .str i, .str j => i.length + j.length ≤ sizeLine ∧ q (.str (i ++ j))
  | .lst xs, .lst ys => xs.length + ys.length ≤ sizeLine ∧ q (.lst (xs ++ ys))
  | .tup xs, .tup ys => xs.length + ys.length ≤ sizeLine ∧ q (.tup (xs ++ ys))
  | _, _ => False
def rAddX (K : PySem.W.Frag) : R2 := fun x y H Q => (rI0 (fun i j => .int (i + j)) x y H Q ∨ (∃ i j, x = .str i ∧ y = .str j ∧ i.length + j.length ≤ sizeLine ∧ Q (.str (i ++ j)) H)) ∨ (rCat x y H Q ∨ rCatF K x y H Q)
theorem op_addX {X : Cx} : OpR X (binaryOp .Add) (rAddX X.K) := OpR.or (OpR.or op_add op_add_str) (OpR.or op_cat op_catF)
theorem upd_rs {Hs H : Hp} {ρ : List En} {σ : L2.St} {p : Addr} {o : HO} (r : RS C Hs ρ σ H) (hp : H p = none) (ho : ∀ ps, o ≠ .tbl ps := by intro ps z; cases z) : Same Hs (upd Hs p o) ∧ Gr C.a Hs H (upd Hs p o) (upd H p o) ∧ RS C (upd Hs p o) ρ σ (upd H p o) :=
  ⟨same_upd (r.fresh_s hp), r.gr_new hp, r.alloc hp ho⟩
theorem d2_add : D2 C (rAddX C.K) dAdd := by
  refine ⟨fun Hs ρ σ H x y vx vy q Q r px py w k => ?_⟩
  unfold dAdd at w
  split at w
  · cases px with
    | sh px => cases px; cases py with
      | sh py => cases py; exact .inl (.inl ⟨_, _, rfl, rfl, k _ _ Hs H w Gr.refl r (.int _)⟩)
  · cases px with
    | sh px => cases px; cases py with
      | sh py => cases py; exact .inl (.inr ⟨_, _, rfl, rfl, w.1, k _ _ Hs H w.2 Gr.refl r (.str _)⟩)
  · obtain ⟨p, vs, rfl, h1, h2⟩ := px.lst r.sh
    obtain ⟨p', vs', rfl, h1', h2'⟩ := py.lst r.sh
    refine .inr (.inl ⟨p, p', vs, vs', rfl, rfl, h1, h1', by rw [← h2.length, ← h2'.length]; exact w.1, fun a ha => ?_⟩)
    obtain ⟨s, g, r'⟩ := upd_rs (o := .lst (vs ++ vs')) r ha
    exact k _ _ _ _ w.2 g r' (.lst upd_same ((h2.append h2').mono s))
  · obtain ⟨p, vs, rfl, h1, h2⟩ := px.tup r.sh
    obtain ⟨p', vs', rfl, h1', h2'⟩ := py.tup r.sh
    have tx := px.tupR
    have ty := py.tupR
    refine .inr (.inr ⟨p, p', vs, vs', rfl, rfl, h1, h1', by rw [← h2.length, ← h2'.length]; exact w.1, fun e => ?_, fun _ e => ?_, fun _ _ a o ho ha => ?_⟩)
    · subst e
      cases h2
      exact k _ _ Hs H w.2 Gr.refl r ty
    · subst e
      cases h2'
      refine k _ _ Hs H w.2 Gr.refl r ?_
      rw [List.append_nil]
      exact tx
    · obtain ⟨s, g, r'⟩ := upd_rs (o := frT o (vs ++ vs')) r ha
      exact k _ _ _ _ w.2 g r' (.tup sqT_fr (ndT_fr ho) ((h2.append h2').mono s))
  · exact w.elim

/-- an operator of two ints -/
def dII (c : Int → Int → Prop) (g : Int → Int → D) : O2 := fun x y q => match x, y with
  | .int i, .int j => c i j ∧ q (g i j)
  | _, _ => False
theorem d2_ii {c : Int → Int → Prop} {g : Int → Int → V} {gd : Int → Int → D} (h : ∀ (K : PySem.W.Frag) (a : Hd) (H : Hp) (i j : Int), Rep K a H (gd i j) (g i j)) : D2 C (rI c g) (dII c gd) := by
  refine ⟨fun Hs ρ σ H x y vx vy q Q r px py w k => ?_⟩
  unfold dII at w
  split at w
  · cases px with
    | sh px => cases px; cases py with
      | sh py => cases py; exact ⟨_, _, rfl, rfl, w.1, k _ _ Hs H w.2 Gr.refl r (h _ _ _ _ _)⟩
  · exact w.elim
def dI0 (g : Int → Int → D) : O2 := fun x y q => match x, y with
  | .int i, .int j => q (g i j)
  | _, _ => False
theorem d2_i0 {g : Int → Int → V} {gd : Int → Int → D} (h : ∀ (K : PySem.W.Frag) (a : Hd) (H : Hp) (i j : Int), Rep K a H (gd i j) (g i j)) : D2 C (rI0 g) (dI0 gd) := by
  refine ⟨fun Hs ρ σ H x y vx vy q Q r px py w k => ?_⟩
  unfold dI0 at w
  split at w
  · cases px with
    | sh px => cases px; cases py with
      | sh py => cases py; exact ⟨_, _, rfl, rfl, k _ _ Hs H w Gr.refl r (h _ _ _ _ _)⟩
  · exact w.elim
def dSub : O2 := dI0 fun i j => .int (i - j)
theorem d2_sub : D2 C (rI0 fun i j => .int (i - j)) dSub := d2_i0 fun _ _ _ _ _ => .int _
def dFdiv : O2 := dII CDiv fun i j => .int (i / j)
theorem d2_fdiv : D2 C (rI CDiv fun i j => .int (i / j)) dFdiv := d2_ii fun _ _ _ _ _ => .int _
def dMod : O2 := dII (fun _ j => 0 < j) fun i j => .int (i % j)
theorem d2_mod : D2 C (rI (fun _ j => 0 < j) fun i j => .int (i % j)) dMod := d2_ii fun _ _ _ _ _ => .int _
def dPow : O2 := dII CPow fun i j => .int (i ^ j.toNat)
theorem d2_pow : D2 C (rI CPow fun i j => .int (i ^ j.toNat)) dPow := d2_ii fun _ _ _ _ _ => .int _
def dLtI : O2 := dI0 fun i j => .bl (decide (i < j))
theorem d2_ltI : D2 C (rI0 fun i j => .bl (decide (i < j))) dLtI := d2_i0 fun _ _ _ _ _ => .bl _
def dLe : O2 := dI0 fun i j => .bl (decide (i ≤ j))
theorem d2_le : D2 C (rI0 fun i j => .bl (decide (i ≤ j))) dLe := d2_i0 fun _ _ _ _ _ => .bl _
def dGt : O2 := dI0 fun i j => .bl (decide (j < i))
theorem d2_gt : D2 C (rI0 fun i j => .bl (decide (j < i))) dGt := d2_i0 fun _ _ _ _ _ => .bl _
def dGe : O2 := dI0 fun i j => .bl (decide (j ≤ i))
theorem d2_ge : D2 C (rI0 fun i j => .bl (decide (j ≤ i))) dGe := d2_i0 fun _ _ _ _ _ => .bl _

/-- times: of two ints; of a list and an int -/
def dMul : O2 := fun x y q => match x, y with
  | .int i, .int j => CMul i j ∧ q (.int (i * j))
  | .lst xs, .int k => (-(2 ^ 63) ≤ k ∧ k < 2 ^ 63 ∧ xs.length * k.toNat ≤ sizeLine) ∧ q (.lst (List.replicate k.toNat xs).flatten)
  | _, _ => False
def rMulX : R2 := fun x y H Q => rI CMul (fun i j => .int (i * j)) x y H Q ∨ rRep x y H Q
theorem op_mulXX {X : Cx} : OpR X (binaryOp .Mult) rMulX := OpR.or op_mul op_rep
theorem d2_mul : D2 C rMulX dMul := by
  refine ⟨fun Hs ρ σ H x y vx vy q Q r px py w k => ?_⟩
  unfold dMul at w
  split at w
  · cases px with
    | sh px => cases px; cases py with
      | sh py => cases py; exact .inl ⟨_, _, rfl, rfl, w.1, k _ _ Hs H w.2 Gr.refl r (.int _)⟩
  · obtain ⟨p, vs, rfl, h1, h2⟩ := px.lst r.sh
    cases py with
    | sh py =>
      cases py
      refine .inr ⟨p, _, vs, rfl, rfl, h1, w.1.1, w.1.2.1, by rw [← h2.length]; exact w.1.2.2, fun a ha => ?_⟩
      obtain ⟨s, g, r'⟩ := upd_rs (o := .lst (List.replicate _ vs).flatten) r ha
      exact k _ _ _ _ w.2 g r' (.lst upd_same ((h2.rep _).mono s))
  · exact w.elim

/-! ### equality -/
mutual
def D.py : D → PyData
  | .non => .none
  | .bl b => .bool b
  | .int i => .int i
  | .str s => .str s
  | .tup xs => .tuple (D.pys xs)
  | .lst xs => .list (D.pys xs)
  | .dct _ => .none
  | .obj _ _ => .none
  | .hand => .none
  | .scr _ => .none
def D.pys : List D → List PyData
  | [] => []
  | x :: xs => D.py x :: D.pys xs
end
mutual
/-- data: no object, no dict within -/
def D.dat : D → Bool
  | .dct _ => false
  | .obj _ _ => false
  | .hand => false
  | .scr _ => false
  | .tup xs => D.dats xs
  | .lst xs => D.dats xs
  | _ => true
def D.dats : List D → Bool
  | [] => true
  | x :: xs => D.dat x && D.dats xs
end
mutual
theorem dp_of {K : PySem.W.Frag} {a : Hd} {H : Hp} : ∀ {d : D} {v : V}, Rep K a H d v → D.dat d = true → Dp K H v d.py
  | _, _, .non, _ => by rw [D.py]; exact .non
  | _, _, .bl b, _ => by rw [D.py]; exact .bl b
  | _, _, .int i, _ => by rw [D.py]; exact .int i
  | _, _, .str z, _ => by rw [D.py]; exact .str z
  | .tup ds, _, .tup h n r, e => by
    rw [D.py]
    exact .tup h (dpl_of r (by rw [D.dat] at e; exact e))
  | .lst ds, _, .lst h r, e => by
    rw [D.py]
    exact .lst (SqL.of h) (dpl_of r (by rw [D.dat] at e; exact e))
  | _, _, .dct h r, e => by simp [D.dat] at e
  | _, _, .obj h h2 r, e => by simp [D.dat] at e
  | _, _, .hand h, e => by simp [D.dat] at e
  | _, _, .scr h, e => by simp [D.dat] at e
theorem dpl_of {K : PySem.W.Frag} {a : Hd} {H : Hp} : ∀ {d : List D} {v : List V}, RepL K a H d v → D.dats d = true → DpAll K H v (D.pys d)
  | _, _, .nil, _ => by rw [D.pys]; exact .nil
  | d :: ds, _, .cons h r, e => by
    rw [D.dats, Bool.and_eq_true] at e
    rw [D.pys]
    exact .cons (dp_of h e.1) (dpl_of r e.2)
end
theorem repB_dp {K : PySem.W.Frag} {a : Hd} {Hs H : Hp} {d : D} {v : V} (s : Same Hs H) (h : RepB K a Hs H d v) (e : D.dat d = true) : Dp K H v d.py := by
  cases h with
  | sh h => exact dp_of (h.mono s) e
  | ol h1 h2 h3 =>
    rw [D.py]
    exact .lst (SqL.of h1) (dpl_of (h2.mono s) (by rw [D.dat] at e; exact e))
  | od h1 h2 h3 => simp [D.dat] at e
/-- data of a written form, not too deep -/
def D.okq (d : D) : Bool := D.dat d && SeqAt.shaped d.py
def D.eqv (d e : D) : Bool := PyData.eqv d.py e.py
def dEq : O2 := fun x y q => (x.okq = true ∧ y.okq = true) ∧ q (.bl (D.eqv x y))
def dNe : O2 := fun x y q => (x.okq = true ∧ y.okq = true) ∧ q (.bl (!D.eqv x y))
theorem d2_eq : D2 C (rEqD C.K) dEq := by
  refine ⟨fun Hs ρ σ H x y vx vy q Q r px py w k => ?_⟩
  obtain ⟨⟨w1, w2⟩, w3⟩ := w
  unfold D.okq at w1 w2
  rw [Bool.and_eq_true] at w1 w2
  exact ⟨_, _, repB_dp r.sh px w1.1, repB_dp r.sh py w2.1, w1.2, w2.2, k _ _ Hs H w3 Gr.refl r (.bl _)⟩
theorem d2_ne : D2 C (rNeD C.K) dNe := by
  refine ⟨fun Hs ρ σ H x y vx vy q Q r px py w k => ?_⟩
  obtain ⟨⟨w1, w2⟩, w3⟩ := w
  unfold D.okq at w1 w2
  rw [Bool.and_eq_true] at w1 w2
  exact ⟨_, _, repB_dp r.sh px w1.1, repB_dp r.sh py w2.1, w1.2, w2.2, k _ _ Hs H w3 Gr.refl r (.bl _)⟩

/-! ### is None, is True -/
def D.isNon : D → Bool
  | .non => true
  | _ => false
theorem isNon_of {K : PySem.W.Frag} {a : Hd} {Hs H : Hp} {d : D} {v : V} (h : RepB K a Hs H d v) : decide (v = .non) = d.isNon := by
  cases h with
  | sh h => cases h <;> simp [D.isNon]
  | ol _ _ _ => simp [D.isNon]
  | od _ _ _ => simp [D.isNon]
/-- x is None; x is a flag, of flags -/
def rIsX : R2 := fun x y H Q => (y = .non ∧ Q (.bl (decide (x = .non))) H) ∨ (∃ a b, x = .bl a ∧ y = .bl b ∧ Q (.bl (decide (a = b))) H)
def rIsNotX : R2 := fun x y H Q => (y = .non ∧ Q (.bl (!decide (x = .non))) H) ∨ (∃ a b, x = .bl a ∧ y = .bl b ∧ Q (.bl (!decide (a = b))) H)
theorem op_isX {X : Cx} : OpR X (compareOp .Is) rIsX := OpR.or op_isN op_is_bl
theorem op_isNotX {X : Cx} : OpR X (compareOp .IsNot) rIsNotX := OpR.or op_notN op_isnot_bl
def dIs : O2 := fun x y q => match y with
  | .non => q (.bl x.isNon)
  | .bl b => (match x with
    | .bl a => q (.bl (decide (a = b)))
    | _ => False)
  | _ => False
def dIsNot : O2 := fun x y q => match y with
  | .non => q (.bl (!x.isNon))
  | .bl b => (match x with
    | .bl a => q (.bl (!decide (a = b)))
    | _ => False)
  | _ => False
theorem d2_is : D2 C rIsX dIs := by
  refine ⟨fun Hs ρ σ H x y vx vy q Q r px py w k => ?_⟩
  unfold dIs at w
  split at w
  · cases py with
    | sh py =>
      cases py
      exact .inl ⟨rfl, by rw [isNon_of px]; exact k _ _ Hs H w Gr.refl r (.bl _)⟩
  · split at w
    · cases px with
      | sh px => cases px; cases py with
        | sh py => cases py; exact .inr ⟨_, _, rfl, rfl, k _ _ Hs H w Gr.refl r (.bl _)⟩
    · exact w.elim
  · exact w.elim
theorem d2_isNot : D2 C rIsNotX dIsNot := by
  refine ⟨fun Hs ρ σ H x y vx vy q Q r px py w k => ?_⟩
  unfold dIsNot at w
  split at w
  · cases py with
    | sh py =>
      cases py
      exact .inl ⟨rfl, by rw [isNon_of px]; exact k _ _ Hs H w Gr.refl r (.bl _)⟩
  · split at w
    · cases px with
      | sh px => cases px; cases py with
        | sh py => cases py; exact .inr ⟨_, _, rfl, rfl, k _ _ Hs H w Gr.refl r (.bl _)⟩
    · exact w.elim
  · exact w.elim

/-! ### in: of flat things -/
def D.flat : D → Bool
  | .non => true
  | .bl _ => true
  | .int _ => true
  | .str _ => true
  | _ => false
def D.v : D → V
  | .bl b => .bl b
  | .int i => .int i
  | .str s => .str s
  | _ => .non
theorem flat_v {K : PySem.W.Frag} {a : Hd} {H : Hp} {d : D} {v : V} (h : Rep K a H d v) (e : d.flat = true) : v = d.v := by
  cases h <;> first | rfl | simp [D.flat] at e
theorem flat_vs {K : PySem.W.Frag} {a : Hd} {H : Hp} : ∀ {d : List D} {v : List V}, RepL K a H d v → d.all D.flat = true → v = d.map D.v
  | _, _, .nil, _ => rfl
  | d :: ds, _, .cons h r, e => by
    rw [List.all_cons, Bool.and_eq_true] at e
    rw [flat_v h e.1, flat_vs r e.2]
    rfl
end
end Fd
namespace Fd
open PySem PySem.Spec L2
section
variable {C : Ctx}

/-! ### truth, tests -/
def dTru (d : D) (q : Bool → Prop) : Prop := match d with
  | .non => q false
  | .bl b => q b
  | .int i => q (i != 0)
  | .str s => s.length ≤ sizeLine ∧ q ((s.length : Int) != 0)
  | .tup xs => q (!xs.isEmpty)
  | .lst xs => q (!xs.isEmpty)
  | .dct xs => q (!xs.isEmpty)
  | _ => False
theorem isEmptyL {K : PySem.W.Frag} {a : Hd} {H : Hp} {ds : List D} {vs : List V} (r : RepL K a H ds vs) : (!vs.isEmpty) = !ds.isEmpty := by cases r <;> rfl
theorem isEmptyK {K : PySem.W.Frag} {a : Hd} {H : Hp} {ds : List (Key × D)} {vs : List (Key × V)} (r : RepK K a H ds vs) : (!vs.isEmpty) = !ds.isEmpty := by cases r <;> rfl
theorem tru_of {K : PySem.W.Frag} {a : Hd} {Hs H : Hp} {d : D} {v : V} {q : Bool → Prop} (s : Same Hs H) (h : RepB K a Hs H d v) (w : dTru d q) : ∃ k, TruV K v H k ∧ q k := by
  cases d with
  | non => cases h with | sh h => cases h; exact ⟨false, rfl, w⟩
  | bl b => cases h with | sh h => cases h; exact ⟨b, rfl, w⟩
  | int i => cases h with | sh h => cases h; exact ⟨_, rfl, w⟩
  | str i => cases h with | sh h => cases h; exact ⟨_, ⟨w.1, rfl⟩, w.2⟩
  | tup xs =>
    obtain ⟨p, vs, rfl, h1, h2⟩ := h.tup s
    exact ⟨_, .inr (.inl ⟨vs, h1, (isEmptyL h2).symm⟩), w⟩
  | lst xs =>
    obtain ⟨p, vs, rfl, h1, h2⟩ := h.lst s
    exact ⟨_, .inl ⟨vs, SqL.of h1, (isEmptyL h2).symm⟩, w⟩
  | dct xs =>
    obtain ⟨p, vs, rfl, h1, h2⟩ := h.dct s
    exact ⟨_, .inr (.inr ⟨vs, h1, (isEmptyK h2).symm⟩), w⟩
  | _ => exact w.elim
def mTru (f : ME) : MT := fun ρ q qe => f ρ (fun d => dTru d q) qe
theorem dtt_tru {t : TE} {f : ME} (h : DB C t f) : DTt C (fun σ H Q => t σ H fun x H' => ∃ k, TruV C.K x H' k ∧ Q k H') (mTru f) := by
  refine ⟨fun Hs ρ σ H q qe Q l r w k => ?_⟩
  refine h.run Hs ρ σ H _ qe _ l r w fun d v Hs1 H1 w1 g1 r1 p1 => ?_
  obtain ⟨b, h1, h2⟩ := tru_of r1.sh p1 w1
  exact ⟨b, h1, k b Hs1 H1 h2 g1 r1⟩
/-- a comparison, as a test -/
def mVal (f : ME) : MT := fun ρ q qe => f ρ (fun d => match d with
  | .bl b => q b
  | _ => False) qe
theorem dtt_val {t : TE} {f : ME} (h : DT C t f) : DTt C (tTest t) (mVal f) := by
  refine ⟨fun Hs ρ σ H q qe Q l r w k => ?_⟩
  refine h.run Hs ρ σ H _ qe _ l r w fun d v Hs1 H1 w1 g1 r1 p1 => ?_
  split at w1
  · cases p1
    exact ⟨_, rfl, k _ Hs1 H1 w1 g1 r1⟩
  · exact w1.elim
def mAnd (f g : MT) : MT := fun ρ q qe => f ρ (fun b => if b = true then g ρ q qe else q false) qe
def mOr (f g : MT) : MT := fun ρ q qe => f ρ (fun b => if b = true then q true else g ρ q qe) qe
def mNot (f : MT) : MT := fun ρ q qe => f ρ (fun b => q (!b)) qe
theorem dtt_and {t u : TT} {f g : MT} (h : DTt C t f) (h2 : DTt C u g) : DTt C (tAnd t u) (mAnd f g) := by
  refine ⟨fun Hs ρ σ H q qe Q l r w k => ?_⟩
  refine h.run Hs ρ σ H _ qe _ l r w fun b Hs1 H1 w1 g1 r1 => ?_
  cases b with
  | true => exact h2.run Hs1 ρ σ H1 q qe Q l r1 w1 fun c Hs2 H2 w2 g2 r2 => k c Hs2 H2 w2 (g1.trans g2) r2
  | false => exact k false Hs1 H1 w1 g1 r1
theorem dtt_or {t u : TT} {f g : MT} (h : DTt C t f) (h2 : DTt C u g) : DTt C (tOr t u) (mOr f g) := by
  refine ⟨fun Hs ρ σ H q qe Q l r w k => ?_⟩
  refine h.run Hs ρ σ H _ qe _ l r w fun b Hs1 H1 w1 g1 r1 => ?_
  cases b with
  | false => exact h2.run Hs1 ρ σ H1 q qe Q l r1 w1 fun c Hs2 H2 w2 g2 r2 => k c Hs2 H2 w2 (g1.trans g2) r2
  | true => exact k true Hs1 H1 w1 g1 r1
theorem dtt_not {t : TT} {f : MT} (h : DTt C t f) : DTt C (tNot t) (mNot f) := by
  refine ⟨fun Hs ρ σ H q qe Q l r w k => ?_⟩
  exact h.run Hs ρ σ H _ qe _ l r w fun b Hs1 H1 w1 g1 r1 => k (!b) Hs1 H1 w1 g1 r1
/-- and, or, not as values -/
def eAnd (f g : ME) : ME := fun ρ q qe => f ρ (fun d => dTru d fun b => if b = true then g ρ q qe else q d) qe
def eOr (f g : ME) : ME := fun ρ q qe => f ρ (fun d => dTru d fun b => if b = true then q d else g ρ q qe) qe
def eNot (f : ME) : ME := fun ρ q qe => f ρ (fun d => dTru d fun b => q (.bl (!b))) qe
theorem dt_and {t u : TE} {f g : ME} (h : DT C t f) (h2 : DT C u g) : DT C (tAndT C.K t u) (eAnd f g) := by
  refine ⟨fun Hs ρ σ H q qe Q l r w k => ?_⟩
  refine h.run Hs ρ σ H _ qe _ l r w fun d v Hs1 H1 w1 g1 r1 p1 => ?_
  obtain ⟨b, e1, e2⟩ := tru_of r1.sh (.sh p1) w1
  refine ⟨b, e1, ?_⟩
  cases b with
  | true => exact h2.run Hs1 ρ σ H1 q qe Q l r1 e2 fun c v' Hs2 H2 w2 g2 r2 p2 => k c v' Hs2 H2 w2 (g1.trans g2) r2 p2
  | false => exact k d v Hs1 H1 e2 g1 r1 p1
theorem dt_or {t u : TE} {f g : ME} (h : DT C t f) (h2 : DT C u g) : DT C (tOrT C.K t u) (eOr f g) := by
  refine ⟨fun Hs ρ σ H q qe Q l r w k => ?_⟩
  refine h.run Hs ρ σ H _ qe _ l r w fun d v Hs1 H1 w1 g1 r1 p1 => ?_
  obtain ⟨b, e1, e2⟩ := tru_of r1.sh (.sh p1) w1
  refine ⟨b, e1, ?_⟩
  cases b with
  | false => exact h2.run Hs1 ρ σ H1 q qe Q l r1 e2 fun c v' Hs2 H2 w2 g2 r2 p2 => k c v' Hs2 H2 w2 (g1.trans g2) r2 p2
  | true => exact k d v Hs1 H1 e2 g1 r1 p1
theorem dt_not {t : TE} {f : ME} (h : DB C t f) : DT C (tNotT C.K t) (eNot f) := by
  refine ⟨fun Hs ρ σ H q qe Q l r w k => ?_⟩
  refine h.run Hs ρ σ H _ qe _ l r w fun d v Hs1 H1 w1 g1 r1 p1 => ?_
  obtain ⟨b, e1, e2⟩ := tru_of r1.sh p1 w1
  exact ⟨b, e1, k _ _ Hs1 H1 e2 g1 r1 (.bl _)⟩
def eIf (c : MT) (f g : ME) : ME := fun ρ q qe => c ρ (fun b => if b = true then f ρ q qe else g ρ q qe) qe
theorem dt_if {tc : TT} {t u : TE} {c : MT} {f g : ME} (hc : DTt C tc c) (h : DT C t f) (h2 : DT C u g) : DT C (tIf tc t u) (eIf c f g) := by
  refine ⟨fun Hs ρ σ H q qe Q l r w k => ?_⟩
  refine hc.run Hs ρ σ H _ qe _ l r w fun b Hs1 H1 w1 g1 r1 => ?_
  cases b with
  | true => exact h.run Hs1 ρ σ H1 q qe Q l r1 w1 fun c v' Hs2 H2 w2 g2 r2 p2 => k c v' Hs2 H2 w2 (g1.trans g2) r2 p2
  | false => exact h2.run Hs1 ρ σ H1 q qe Q l r1 w1 fun c v' Hs2 H2 w2 g2 r2 p2 => k c v' Hs2 H2 w2 (g1.trans g2) r2 p2
/-- -a -/
def eNeg (f : ME) : ME := fun ρ q qe => f ρ (fun d => match d with
  | .int i => q (.int (-i))
  | _ => False) qe
theorem dt_neg {t : TE} {f : ME} (h : DB C t f) : DT C (tUn (rU fun i => .int (-i)) t) (eNeg f) := by
  refine ⟨fun Hs ρ σ H q qe Q l r w k => ?_⟩
  refine h.run Hs ρ σ H _ qe _ l r w fun d v Hs1 H1 w1 g1 r1 p1 => ?_
  split at w1
  · cases p1 with
    | sh p => cases p; exact ⟨_, rfl, k _ _ Hs1 H1 w1 g1 r1 (.int _)⟩
  · exact w1.elim
/-- a < b < c -/
def eChain (o o' : O2) (fa fb fc : ME) : ME := fun ρ q qe => fa ρ (fun x => fb ρ (fun y => o x y fun z => match z with
  | .bl b => if b = true then fc ρ (fun w => o' y w q) qe else q (.bl false)
  | _ => False) qe) qe
theorem dt_chain {t t' : R2} {o o' : O2} {ta tb tc : TE} {fa fb fc : ME} (h : D2 C t o) (h' : D2 C t' o') (ha : DB C ta fa) (hb : DB C tb fb) (hc : DB C tc fc) : DT C (tChain t t' ta tb tc) (eChain o o' fa fb fc) := by
  refine ⟨fun Hs ρ σ H q qe Q l r w k => ?_⟩
  refine ha.run Hs ρ σ H _ qe _ l r w fun x vx Hs1 H1 w1 g1 r1 p1 => ?_
  refine hb.run Hs1 ρ σ H1 _ qe _ l r1 w1 fun y vy Hs2 H2 w2 g2 r2 p2 => ?_
  refine h.run Hs2 ρ σ H2 x y vx vy _ _ r2 (p1.mono g2.s g2.b) p2 w2 fun d v Hs3 H3 w3 g3 r3 p3 => ?_
  split at w3
  · cases p3
    refine ⟨_, rfl, ?_⟩
    split at w3
    · rename_i b e
      rw [if_pos e]
      refine hc.run Hs3 ρ σ H3 _ qe _ l r3 w3 fun z vz Hs4 H4 w4 g4 r4 p4 => ?_
      exact h'.run Hs4 ρ σ H4 y z vy vz q Q r4 ((p2.mono g3.s g3.b).mono g4.s g4.b) p4 w4 fun d v Hs5 H5 e g5 r5 p5 => k d v Hs5 H5 e (g1.trans (g2.trans (g3.trans (g4.trans g5)))) r5 p5
    · rename_i b e
      rw [if_neg e]
      exact k _ _ Hs3 H3 w3 (g1.trans (g2.trans g3)) r3 (.bl _)
  · exact w3.elim

/-! ### in -/
def dIn (neg : Bool) : O2 := fun x y q => match y with
  | .lst ys => (x.flat = true ∧ ys.all D.flat = true) ∧ q (.bl (if neg then !inV x.v (ys.map D.v) else inV x.v (ys.map D.v)))
  | .tup ys => (x.flat = true ∧ ys.all D.flat = true) ∧ q (.bl (if neg then !inV x.v (ys.map D.v) else inV x.v (ys.map D.v)))
  | _ => False
theorem flat_V {d : D} (h : d.flat = true) : flatV d.v = true := by cases d <;> first | rfl | simp [D.flat] at h
theorem flat_Vs : ∀ {ds : List D}, ds.all D.flat = true → (ds.map D.v).all flatV = true
  | [], _ => rfl
  | d :: ds, h => by
    rw [List.all_cons, Bool.and_eq_true] at h
    rw [List.map_cons, List.all_cons, flat_V h.1, flat_Vs h.2]
    rfl
theorem repB_flat {K : PySem.W.Frag} {a : Hd} {Hs H : Hp} {d : D} {v : V} (h : RepB K a Hs H d v) (e : d.flat = true) : v = d.v := by
  cases h with
  | sh h => exact flat_v h e
  | ol _ _ _ => simp [D.flat] at e
  | od _ _ _ => simp [D.flat] at e
theorem d2_in {neg : Bool} : D2 C (rIn C.K neg) (dIn neg) := by
  refine ⟨fun Hs ρ σ H x y vx vy q Q r px py w k => ?_⟩
  unfold dIn at w
  split at w
  · obtain ⟨p, vs, rfl, h1, h2⟩ := py.lst r.sh
    obtain ⟨⟨w1, w2⟩, w3⟩ := w
    obtain rfl := repB_flat px w1
    obtain rfl := flat_vs h2 w2
    exact ⟨p, _, rfl, .inl (SqL.of h1), flat_V w1, flat_Vs w2, k _ _ Hs H w3 Gr.refl r (.bl _)⟩
  · obtain ⟨p, vs, rfl, h1, h2⟩ := py.tup r.sh
    obtain ⟨⟨w1, w2⟩, w3⟩ := w
    obtain rfl := repB_flat px w1
    obtain rfl := flat_vs h2 w2
    exact ⟨p, _, rfl, .inr h1, flat_V w1, flat_Vs w2, k _ _ Hs H w3 Gr.refl r (.bl _)⟩
  · exact w.elim

/-! ### fields, items, slices -/
/-- what the written part says of the field f of the classes cs -/
def FldOk (K : PySem.W.Frag) (cs : List Str) (f : Str) : Prop := ∀ c ∈ cs, Cls K (He.ga K c) ∧ NoAttr K (He.ga K c) f
def eFld (cs : List Str) (f : Str) (fe : ME) : ME := fun ρ q qe => fe ρ (fun d => match d with
  | .obj c fs => c ∈ cs ∧ (match fs.lookup f with
    | some d' => q d'
    | none => False)
  | _ => False) qe
theorem dt_fld {cs : List Str} {f : Str} {t : TE} {fe : ME} (ok : FldOk C.K cs f) (h : DB C t fe) : DT C (tFld C.K t f) (eFld cs f fe) := by
  refine ⟨fun Hs ρ σ H q qe Q l r w k => ?_⟩
  refine h.run Hs ρ σ H _ qe _ l r w fun d v Hs1 H1 w1 g1 r1 p1 => ?_
  split at w1
  · obtain ⟨w1, w2⟩ := w1
    split at w2
    · rename_i e
      cases p1 with
      | sh p =>
        cases p with
        | obj h1 h2 h3 =>
          obtain ⟨v, e1, h4⟩ := h3.look e
          exact ⟨_, _, _, _, v, rfl, r1.sh _ _ h1, (ok _ w1).1, (ok _ w1).2, e1, k _ _ Hs1 H1 w2 g1 r1 h4⟩
    · exact w2.elim
  · exact w1.elim
def dIx : O2 := fun x y q => match x, y with
  | .lst xs, .int i => (match atI xs i with
    | some d => q d
    | none => False)
  | .tup xs, .int i => (match atI xs i with
    | some d => q d
    | none => False)
  | .str z, .int i => z.length ≤ sizeLine ∧ (match atI z.cps.toList i with
    | some c => q (.str ⟨#[c]⟩)
    | none => False)
  | _, _ => False
theorem atI_rep {K : PySem.W.Frag} {a : Hd} {H : Hp} {ds : List D} {vs : List V} {i : Int} {d : D} (r : RepL K a H ds vs) (e : atI ds i = some d) : ∃ v, atI vs i = some v ∧ Rep K a H d v := by
  unfold atI at e ⊢
  rw [← r.length]
  cases q : ixN ds.length i with
  | none => rw [q] at e; cases e
  | some j =>
    rw [q] at e
    exact r.getD e
theorem d2_ix : D2 C (rIx C.K) dIx := by
  refine ⟨fun Hs ρ σ H x y vx vy q Q r px py w k => ?_⟩
  unfold dIx at w
  split at w
  · split at w
    · rename_i e
      obtain ⟨p, vs, rfl, h1, h2⟩ := px.lst r.sh
      cases py with
      | sh py =>
        cases py
        obtain ⟨v, e1, h3⟩ := atI_rep h2 e
        exact .inl ⟨p, vs, _, v, rfl, rfl, SqL.of h1, e1, k _ _ Hs H w Gr.refl r h3⟩
    · exact w.elim
  · split at w
    · rename_i e
      obtain ⟨p, vs, rfl, h1, h2⟩ := px.tup r.sh
      cases py with
      | sh py =>
        cases py
        obtain ⟨v, e1, h3⟩ := atI_rep h2 e
        exact .inr (.inl ⟨p, vs, _, v, rfl, rfl, h1, e1, k _ _ Hs H w Gr.refl r h3⟩)
    · exact w.elim
  · obtain ⟨w0, w⟩ := w
    split at w
    · rename_i e
      cases px with
      | sh px =>
        cases px
        cases py with
        | sh py =>
          cases py
          exact .inr (.inr ⟨_, _, _, rfl, rfl, w0, e, k _ _ Hs H w Gr.refl r (.str _)⟩)
    · exact w.elim
  · exact w.elim
/-- an optional int -/
abbrev MO := List En → (Option Int → Prop) → QE → Prop
structure DO (C : Ctx) (t : TO) (f : MO) : Prop where
  run : ∀ Hs ρ σ H q qe Q, (∀ x, qe x → C.W x) → RS C Hs ρ σ H → f ρ q qe →
    (∀ o Hs' H', q o → Gr C.a Hs H Hs' H' → RS C Hs' ρ σ H' → Q o H') → t σ H Q
def oNone : MO := fun _ q _ => q none
def oSome (f : ME) : MO := fun ρ q qe => f ρ (fun d => match d with
  | .int i => q (some i)
  | _ => False) qe
theorem do_none : DO C tNoPart oNone := ⟨fun Hs ρ σ H q qe Q l r w k => k none Hs H w Gr.refl r⟩
theorem do_some {t : TE} {f : ME} (h : DT C t f) : DO C (tPart t) (oSome f) := by
  refine ⟨fun Hs ρ σ H q qe Q l r w k => ?_⟩
  refine h.run Hs ρ σ H _ qe _ l r w fun d v Hs1 H1 w1 g1 r1 p1 => ?_
  split at w1
  · cases p1
    exact ⟨_, rfl, k _ Hs1 H1 w1 g1 r1⟩
  · exact w1.elim
/-- a list's part between two places -/
def cutD {α : Type} (xs : List α) (lo hi : Option Int) : List α := (xs.drop (HT.sIx xs.length 0 lo)).take (HT.sIx xs.length xs.length hi - HT.sIx xs.length 0 lo)
def dSl (x : D) (lo hi : Option Int) (q : D → Prop) : Prop := match x with
  | .lst xs => q (.lst (cutD xs lo hi))
  | .tup xs => q (.tup (cutD xs lo hi))
  | .str z => z.length ≤ sizeLine ∧ q (.str (Txt.slice z lo hi))
  | .scr ns => q (.lst (cutD (ns.map D.int) lo hi))
  | _ => False
def rSlAny (K : PySem.W.Frag) : V → Option Int → Option Int → Hp → VK → Prop := fun x lo hi H Q => (rSlL K x lo hi H Q ∨ rSlF K x lo hi H Q) ∨ (∃ z, x = .str z ∧ z.length ≤ sizeLine ∧ Q (.str (Txt.slice z lo hi)) H)
theorem RepL.cut {K : PySem.W.Frag} {a : Hd} {H : Hp} {ds : List D} {vs : List V} (r : RepL K a H ds vs) (lo hi : Option Int) : RepL K a H (cutD ds lo hi) (cutV vs lo hi) := by
  unfold cutD cutV
  rw [r.length]
  exact (r.drop _).take _
def eSl (f : ME) (lo hi : MO) : ME := fun ρ q qe => f ρ (fun d => lo ρ (fun l => hi ρ (fun u => dSl d l u q) qe) qe) qe
theorem dt_sl {t : TE} {tl th : TO} {f : ME} {lo hi : MO} (h : DB C t f) (hl : DO C tl lo) (hh : DO C th hi) : DT C (tSl (rSlAny C.K) t tl th) (eSl f lo hi) := by
  refine ⟨fun Hs ρ σ H q qe Q l r w k => ?_⟩
  refine h.run Hs ρ σ H _ qe _ l r w fun d v Hs1 H1 w1 g1 r1 p1 => ?_
  refine hl.run Hs1 ρ σ H1 _ qe _ l r1 w1 fun o Hs2 H2 w2 g2 r2 => ?_
  refine hh.run Hs2 ρ σ H2 _ qe _ l r2 w2 fun u Hs3 H3 w3 g3 r3 => ?_
  have p3 := (p1.mono g2.s g2.b).mono g3.s g3.b
  have g13 := g1.trans (g2.trans g3)
  unfold dSl at w3
  split at w3
  · obtain ⟨p, vs, rfl, h1, h2⟩ := p3.lst r3.sh
    refine .inl (.inl ⟨p, vs, rfl, SqL.of h1, fun a ha => ?_⟩)
    obtain ⟨s, g, r'⟩ := upd_rs (o := .lst (cutV vs o u)) r3 ha
    exact k _ _ _ _ w3 (g13.trans g) r' (.lst upd_same ((h2.cut o u).mono s))
  · obtain ⟨p, vs, rfl, h1, h2⟩ := p3.tup r3.sh
    have tx := p3.tupR
    refine .inl (.inr ⟨p, vs, rfl, h1, fun e => ?_, fun _ a o' ho ha => ?_⟩)
    · refine k _ _ _ _ w3 g13 r3 ?_
      have e2 : ∀ xs : List D, xs.length = vs.length → cutD xs o u = xs := fun xs hx => by
        unfold cutD
        rw [hx, e.1, e.2, List.drop_zero, Nat.sub_zero, ← hx]
        exact List.take_length
      rw [e2 _ h2.length]
      exact tx
    · obtain ⟨s, g, r'⟩ := upd_rs (o := frT o' (cutV vs o u)) r3 ha
      exact k _ _ _ _ w3 (g13.trans g) r' (.tup sqT_fr (ndT_fr ho) ((h2.cut o u).mono s))
  · cases p3 with
    | sh p => cases p; exact .inr ⟨_, rfl, w3.1, k _ _ Hs3 H3 w3.2 g13 r3 (.str _)⟩
  · cases p3 with
    | sh p =>
      cases p with
      | scr h =>
        refine .inl (.inl ⟨_, _, rfl, r3.sh.seq h, fun a ha => ?_⟩)
        obtain ⟨s, g, r'⟩ := upd_rs (o := .lst (cutV _ o u)) r3 ha
        exact k _ _ _ _ w3 (g13.trans g) r' (.lst upd_same (RepL.cut (RepL.ofInts _) o u))
  · exact w3.elim

/-! ### arguments, displays -/
def aNil : MA := fun _ q _ => q []
def aCons (f : ME) (g : MA) : MA := fun ρ q qe => f ρ (fun d => g ρ (fun ds => q (d :: ds)) qe) qe
theorem da_nil : DA C tNil aNil := ⟨fun Hs ρ σ H q qe Q l r w k => k [] [] Hs H w Gr.refl r .nil⟩
theorem da_cons {t : TE} {u : TA} {f : ME} {g : MA} (h : DT C t f) (h2 : DA C u g) : DA C (tCons t u) (aCons f g) := by
  refine ⟨fun Hs ρ σ H q qe Q l r w k => ?_⟩
  refine h.run Hs ρ σ H _ qe _ l r w fun d v Hs1 H1 w1 g1 r1 p1 => ?_
  exact h2.run Hs1 ρ σ H1 _ qe _ l r1 w1 fun ds vs Hs2 H2 w2 g2 r2 p2 => k _ _ Hs2 H2 w2 (g1.trans g2) r2 (.cons (p1.mono g2.s) p2)
theorem dba_nil : DBA C tNil aNil := ⟨fun Hs ρ σ H q qe Q l r w k => k [] [] Hs H w Gr.refl r .nil⟩
theorem dba_cons {t : TE} {u : TA} {f : ME} {g : MA} (h : DB C t f) (h2 : DBA C u g) : DBA C (tCons t u) (aCons f g) := by
  refine ⟨fun Hs ρ σ H q qe Q l r w k => ?_⟩
  refine h.run Hs ρ σ H _ qe _ l r w fun d v Hs1 H1 w1 g1 r1 p1 => ?_
  exact h2.run Hs1 ρ σ H1 _ qe _ l r1 w1 fun ds vs Hs2 H2 w2 g2 r2 p2 => k _ _ Hs2 H2 w2 (g1.trans g2) r2 (.cons (p1.mono g2.s g2.b) p2)
def eTup (g : MA) : ME := fun ρ q qe => g ρ (fun ds => ds.length ≤ sizeLine ∧ q (.tup ds)) qe
theorem dt_tup {u : TA} {g : MA} (h : DA C u g) : DT C (tTupF u) (eTup g) := by
  refine ⟨fun Hs ρ σ H q qe Q l r w k => ?_⟩
  refine h.run Hs ρ σ H _ qe _ l r w fun ds vs Hs1 H1 w1 g1 r1 p1 => ⟨by rw [← p1.length]; exact w1.1, fun a o ho ha => ?_⟩
  obtain ⟨s, g, r'⟩ := upd_rs (o := frT o vs) r1 ha
  exact k _ _ _ _ w1.2 (g1.trans g) r' (.tup sqT_fr (ndT_fr ho) (p1.mono s))
def fLst (g : MA) : MA := fun ρ q qe => g ρ (fun ds => ds.length ≤ sizeLine ∧ q ds) qe
theorem df_lst {u : TA} {g : MA} (h : DA C u g) : DF C (tLst u) (fLst g) := by
  refine ⟨fun Hs ρ σ H q qe Q l r w k => ?_⟩
  exact h.run Hs ρ σ H _ qe _ l r w fun ds vs Hs1 H1 w1 g1 r1 p1 => ⟨by rw [← p1.length]; exact w1.1, fun a ha => k ds a vs Hs1 H1 w1.2 g1 r1 ha p1⟩
end
end Fd
namespace Fd
open PySem PySem.Spec L2
section
variable {C : Ctx}

/-! ### built-in functions by values -/
abbrev O1 := List D → (D → Prop) → Prop
structure DC1 (C : Ctx) (t : List V → Hp → VK → Prop) (op : O1) : Prop where
  run : ∀ Hs ρ σ H xs vs q Q, RS C Hs ρ σ H → RepBL C.K C.a Hs H xs vs → op xs q →
    (∀ d v Hs' H', q d → Gr C.a Hs H Hs' H' → RS C Hs' ρ σ H' → Rep C.K C.a Hs' d v → Q v H') → t vs H Q
def eCB (op : O1) (g : MA) : ME := fun ρ q qe => g ρ (fun ds => op ds q) qe
theorem dt_cb {t : List V → Hp → VK → Prop} {op : O1} {ta : TA} {g : MA} (h : DC1 C t op) (ha : DBA C ta g) : DT C (tCB t ta) (eCB op g) := by
  refine ⟨fun Hs ρ σ H q qe Q l r w k => ?_⟩
  refine ha.run Hs ρ σ H _ qe _ l r w fun ds vs Hs1 H1 w1 g1 r1 p1 => ?_
  exact h.run Hs1 ρ σ H1 ds vs q Q r1 p1 w1 fun d v Hs2 H2 e g2 r2 p2 => k d v Hs2 H2 e (g1.trans g2) r2 p2
/-- .. that give a new list -/
abbrev OF := List D → (List D → Prop) → Prop
structure DCF (C : Ctx) (t : List V → Hp → VK → Prop) (op : OF) : Prop where
  run : ∀ Hs ρ σ H xs vs q Q, RS C Hs ρ σ H → RepBL C.K C.a Hs H xs vs → op xs q →
    (∀ ds p us Hs' H', q ds → Gr C.a Hs H Hs' H' → RS C Hs' ρ σ H' → H' p = none → RepL C.K C.a Hs' ds us → Q (.ref p) (upd H' p (.lst us))) → t vs H Q
def fCB (op : OF) (g : MA) : MA := fun ρ q qe => g ρ (fun ds => op ds q) qe
theorem df_cb {t : List V → Hp → VK → Prop} {op : OF} {ta : TA} {g : MA} (h : DCF C t op) (ha : DBA C ta g) : DF C (tCB t ta) (fCB op g) := by
  refine ⟨fun Hs ρ σ H q qe Q l r w k => ?_⟩
  refine ha.run Hs ρ σ H _ qe _ l r w fun ds vs Hs1 H1 w1 g1 r1 p1 => ?_
  exact h.run Hs1 ρ σ H1 ds vs q Q r1 p1 w1 fun es p us Hs2 H2 e g2 r2 hp p2 => k es p us Hs2 H2 e (g1.trans g2) r2 hp p2

theorem repBL1 {K : PySem.W.Frag} {a : Hd} {Hs H : Hp} {d : D} {vs : List V} (h : RepBL K a Hs H [d] vs) : ∃ v, vs = [v] ∧ RepB K a Hs H d v := by
  cases h with
  | cons h r => cases r; exact ⟨_, rfl, h⟩
theorem repBL2 {K : PySem.W.Frag} {a : Hd} {Hs H : Hp} {d e : D} {vs : List V} (h : RepBL K a Hs H [d, e] vs) : ∃ v w, vs = [v, w] ∧ RepB K a Hs H d v ∧ RepB K a Hs H e w := by
  cases h with
  | cons h r => cases r with
    | cons h2 r2 => cases r2; exact ⟨_, _, rfl, h, h2⟩
theorem repB_int {K : PySem.W.Frag} {a : Hd} {Hs H : Hp} {i : Int} {v : V} (h : RepB K a Hs H (.int i) v) : v = .int i := by
  cases h with
  | sh h => cases h; rfl
theorem repB_bl {K : PySem.W.Frag} {a : Hd} {Hs H : Hp} {i : Bool} {v : V} (h : RepB K a Hs H (.bl i) v) : v = .bl i := by
  cases h with
  | sh h => cases h; rfl
theorem repB_str {K : PySem.W.Frag} {a : Hd} {Hs H : Hp} {i : Str} {v : V} (h : RepB K a Hs H (.str i) v) : v = .str i := by
  cases h with
  | sh h => cases h; rfl

def dLen : O1 := fun xs q => match xs with
  | [.lst ys] => q (.int ys.length)
  | [.tup ys] => q (.int ys.length)
  | [.dct ys] => q (.int ys.length)
  | [.str z] => z.length ≤ sizeLine ∧ q (.int z.length)
  | _ => False
def rLenX (K : PySem.W.Frag) : List V → Hp → VK → Prop := fun xs H Q => (∃ x n, xs = [x] ∧ LenV K x H n ∧ Q (.int n) H) ∨ (∃ a kvs, xs = [V.ref a] ∧ H a = some (.dK kvs) ∧ Q (.int kvs.length) H)
theorem call_lenX {X : Cx} : CallR X (.builtin "len") (rLenX X.K) := CallR.or call_len call_lenD
theorem RepK.length {K : PySem.W.Frag} {a : Hd} {H : Hp} : ∀ {ds : List (Key × D)} {vs : List (Key × V)}, RepK K a H ds vs → ds.length = vs.length
  | _, _, .nil => rfl
  | _, _, .cons _ r => congrArg (· + 1) (RepK.length r)
theorem dc_len : DC1 C (rLenX C.K) dLen := by
  refine ⟨fun Hs ρ σ H xs vs q Q r p w k => ?_⟩
  unfold dLen at w
  split at w
  · obtain ⟨v, rfl, h⟩ := repBL1 p
    obtain ⟨a, us, rfl, h1, h2⟩ := h.lst r.sh
    exact .inl ⟨_, _, rfl, .inl ⟨us, SqL.of h1, h2.length⟩, k _ _ Hs H w Gr.refl r (.int _)⟩
  · obtain ⟨v, rfl, h⟩ := repBL1 p
    obtain ⟨a, us, rfl, h1, h2⟩ := h.tup r.sh
    exact .inl ⟨_, _, rfl, .inr ⟨us, h1, h2.length⟩, k _ _ Hs H w Gr.refl r (.int _)⟩
  · obtain ⟨v, rfl, h⟩ := repBL1 p
    obtain ⟨a, us, rfl, h1, h2⟩ := h.dct r.sh
    refine .inr ⟨_, _, rfl, h1, ?_⟩
    rw [← h2.length]
    exact k _ _ Hs H w Gr.refl r (.int _)
  · obtain ⟨v, rfl, h⟩ := repBL1 p
    obtain rfl := repB_str h
    exact .inl ⟨_, _, rfl, ⟨w.1, rfl⟩, k _ _ Hs H w.2 Gr.refl r (.int _)⟩
  · exact w.elim

/-- a list of ints, of flags -/
def D.ints : List D → Option (List Int)
  | [] => some []
  | .int i :: r => (D.ints r).map (i :: ·)
  | _ :: _ => none
def D.bools : List D → Option (List Bool)
  | [] => some []
  | .bl i :: r => (D.bools r).map (i :: ·)
  | _ :: _ => none
theorem ints_map : ∀ ns : List Int, D.ints (ns.map .int) = some ns
  | [] => rfl
  | n :: ns => by
    rw [List.map_cons, D.ints, ints_map ns]
    rfl
theorem bools_map : ∀ ns : List Bool, D.bools (ns.map .bl) = some ns
  | [] => rfl
  | n :: ns => by
    rw [List.map_cons, D.bools, bools_map ns]
    rfl
theorem ints_eq : ∀ {xs : List D} {ns : List Int}, D.ints xs = some ns → xs = ns.map .int
  | [], ns, h => by
    cases h
    rfl
  | .int i :: r, ns, h => by
    rw [D.ints] at h
    cases q : D.ints r with
    | none => rw [q] at h; cases h
    | some ms =>
      rw [q] at h
      cases h
      rw [ints_eq q]
      rfl
  | .non :: _, _, h => by cases h
  | .bl _ :: _, _, h => by cases h
  | .str _ :: _, _, h => by cases h
  | .tup _ :: _, _, h => by cases h
  | .lst _ :: _, _, h => by cases h
  | .dct _ :: _, _, h => by cases h
  | .obj _ _ :: _, _, h => by cases h
  | .hand :: _, _, h => by cases h
  | .scr _ :: _, _, h => by cases h
theorem bools_eq : ∀ {xs : List D} {ns : List Bool}, D.bools xs = some ns → xs = ns.map .bl
  | [], ns, h => by
    cases h
    rfl
  | .bl i :: r, ns, h => by
    rw [D.bools] at h
    cases q : D.bools r with
    | none => rw [q] at h; cases h
    | some ms =>
      rw [q] at h
      cases h
      rw [bools_eq q]
      rfl
  | .non :: _, _, h => by cases h
  | .int _ :: _, _, h => by cases h
  | .str _ :: _, _, h => by cases h
  | .tup _ :: _, _, h => by cases h
  | .lst _ :: _, _, h => by cases h
  | .dct _ :: _, _, h => by cases h
  | .obj _ _ :: _, _, h => by cases h
  | .hand :: _, _, h => by cases h
  | .scr _ :: _, _, h => by cases h
/-- the greatest, the least -/
def maxI : List Int → Int
  | [] => 0
  | x :: xs => xs.foldl max x
def minI : List Int → Int
  | [] => 0
  | x :: xs => xs.foldl min x
theorem foldl_max_mem : ∀ (xs : List Int) (x : Int), xs.foldl max x ∈ x :: xs
  | [], x => List.mem_cons_self ..
  | y :: ys, x => by
    rw [List.foldl_cons]
    have h := foldl_max_mem ys (max x y)
    rcases List.mem_cons.mp h with h | h
    · rw [h]
      by_cases q : x ≤ y
      · rw [Int.max_eq_right q]
        exact List.mem_cons_of_mem _ (List.mem_cons_self ..)
      · rw [Int.max_eq_left (by omega)]
        exact List.mem_cons_self ..
    · exact List.mem_cons_of_mem _ (List.mem_cons_of_mem _ h)
theorem foldl_max_le : ∀ (xs : List Int) (x y : Int), y ∈ x :: xs → y ≤ xs.foldl max x
  | [], x, y, h => by
    have e := List.mem_singleton.mp h
    rw [e]
    exact Int.le_refl _
  | z :: zs, x, y, h => by
    rw [List.foldl_cons]
    rcases List.mem_cons.mp h with h | h
    · exact Int.le_trans (by rw [h]; exact Int.le_max_left _ _) (foldl_max_le zs (max x z) (max x z) (List.mem_cons_self ..))
    · rcases List.mem_cons.mp h with h | h
      · exact Int.le_trans (by rw [h]; exact Int.le_max_right _ _) (foldl_max_le zs (max x z) (max x z) (List.mem_cons_self ..))
      · exact foldl_max_le zs (max x z) y (List.mem_cons_of_mem _ h)
theorem maxI_mem {xs : List Int} (h : xs ≠ []) : maxI xs ∈ xs := by
  cases xs with
  | nil => exact absurd rfl h
  | cons x xs => exact foldl_max_mem xs x
theorem maxI_le {xs : List Int} {y : Int} (h : y ∈ xs) : y ≤ maxI xs := by
  cases xs with
  | nil => cases h
  | cons x xs => exact foldl_max_le xs x y h
theorem foldl_min_mem : ∀ (xs : List Int) (x : Int), xs.foldl min x ∈ x :: xs
  | [], x => List.mem_cons_self ..
  | y :: ys, x => by
    rw [List.foldl_cons]
    have h := foldl_min_mem ys (min x y)
    rcases List.mem_cons.mp h with h | h
    · rw [h]
      by_cases q : x ≤ y
      · rw [Int.min_eq_left q]
        exact List.mem_cons_self ..
      · rw [Int.min_eq_right (by omega)]
        exact List.mem_cons_of_mem _ (List.mem_cons_self ..)
    · exact List.mem_cons_of_mem _ (List.mem_cons_of_mem _ h)
theorem foldl_min_le : ∀ (xs : List Int) (x y : Int), y ∈ x :: xs → xs.foldl min x ≤ y
  | [], x, y, h => by
    have e := List.mem_singleton.mp h
    rw [e]
    exact Int.le_refl _
  | z :: zs, x, y, h => by
    rw [List.foldl_cons]
    rcases List.mem_cons.mp h with h | h
    · exact Int.le_trans (foldl_min_le zs (min x z) (min x z) (List.mem_cons_self ..)) (by rw [h]; exact Int.min_le_left _ _)
    · rcases List.mem_cons.mp h with h | h
      · exact Int.le_trans (foldl_min_le zs (min x z) (min x z) (List.mem_cons_self ..)) (by rw [h]; exact Int.min_le_right _ _)
      · exact foldl_min_le zs (min x z) y (List.mem_cons_of_mem _ h)
theorem minI_mem {xs : List Int} (h : xs ≠ []) : minI xs ∈ xs := by
  cases xs with
  | nil => exact absurd rfl h
  | cons x xs => exact foldl_min_mem xs x
theorem minI_le {xs : List Int} {y : Int} (h : y ∈ xs) : minI xs ≤ y := by
  cases xs with
  | nil => cases h
  | cons x xs => exact foldl_min_le xs x y h

/-- max, min: of two ints, of a list of ints -/
def dMax : O1 := fun xs q => match xs with
  | [.int i, .int j] => q (.int (if j > i then j else i))
  | [.lst ys] => (match D.ints ys with
    | some ns => ns ≠ [] ∧ q (.int (maxI ns))
    | none => False)
  | _ => False
def dMin : O1 := fun xs q => match xs with
  | [.int i, .int j] => q (.int (if j < i then j else i))
  | [.lst ys] => (match D.ints ys with
    | some ns => ns ≠ [] ∧ q (.int (minI ns))
    | none => False)
  | _ => False
def rMaxX (K : PySem.W.Frag) : List V → Hp → VK → Prop := fun xs H Q => (∃ i j, xs = [V.int i, V.int j] ∧ Q (.int (if j > i then j else i)) H) ∨ rMax K xs H Q
def rMinX (K : PySem.W.Frag) : List V → Hp → VK → Prop := fun xs H Q => (∃ i j, xs = [V.int i, V.int j] ∧ Q (.int (if j < i then j else i)) H) ∨ rMin K xs H Q
theorem call_maxX {X : Cx} (hc : X.calm = true) : CallR X (.builtin "max") (rMaxX X.K) := CallR.or (call_max2 hc) (cr_max hc)
theorem call_minX {X : Cx} (hc : X.calm = true) : CallR X (.builtin "min") (rMinX X.K) := CallR.or (call_min2 hc) (cr_min hc)
theorem dc_max : DC1 C (rMaxX C.K) dMax := by
  refine ⟨fun Hs ρ σ H xs vs q Q r p w k => ?_⟩
  unfold dMax at w
  split at w
  · obtain ⟨v, u, rfl, h, h'⟩ := repBL2 p
    obtain rfl := repB_int h
    obtain rfl := repB_int h'
    exact .inl ⟨_, _, rfl, k _ _ Hs H w Gr.refl r (.int _)⟩
  · obtain ⟨v, rfl, h⟩ := repBL1 p
    obtain ⟨a, us, rfl, h1, h2⟩ := h.lst r.sh
    split at w
    · rename_i ns e
      obtain ⟨w1, w2⟩ := w
      have e2 := ints_eq e
      subst e2
      obtain rfl := h2.ints
      refine .inr ⟨a, ns, rfl, SqL.of h1, List.length_pos_iff.mpr w1, fun m hm hle => ?_⟩
      have em : m = maxI ns := Int.le_antisymm (maxI_le hm) (hle _ (maxI_mem w1))
      rw [em]
      exact k _ _ Hs H w2 Gr.refl r (.int _)
    · exact w.elim
  · exact w.elim
theorem dc_min : DC1 C (rMinX C.K) dMin := by
  refine ⟨fun Hs ρ σ H xs vs q Q r p w k => ?_⟩
  unfold dMin at w
  split at w
  · obtain ⟨v, u, rfl, h, h'⟩ := repBL2 p
    obtain rfl := repB_int h
    obtain rfl := repB_int h'
    exact .inl ⟨_, _, rfl, k _ _ Hs H w Gr.refl r (.int _)⟩
  · obtain ⟨v, rfl, h⟩ := repBL1 p
    obtain ⟨a, us, rfl, h1, h2⟩ := h.lst r.sh
    split at w
    · rename_i ns e
      obtain ⟨w1, w2⟩ := w
      have e2 := ints_eq e
      subst e2
      obtain rfl := h2.ints
      refine .inr ⟨a, ns, rfl, SqL.of h1, List.length_pos_iff.mpr w1, fun m hm hle => ?_⟩
      have em : m = minI ns := Int.le_antisymm (hle _ (minI_mem w1)) (minI_le hm)
      rw [em]
      exact k _ _ Hs H w2 Gr.refl r (.int _)
    · exact w.elim
  · exact w.elim
/-- sum, all, any of a list -/
def dSum : O1 := fun xs q => match xs with
  | [.lst ys] => (match D.ints ys with
    | some ns => q (.int ns.sum)
    | none => False)
  | _ => False
theorem dc_sum : DC1 C (rSum C.K) dSum := by
  refine ⟨fun Hs ρ σ H xs vs q Q r p w k => ?_⟩
  unfold dSum at w
  split at w
  · obtain ⟨v, rfl, h⟩ := repBL1 p
    obtain ⟨a, us, rfl, h1, h2⟩ := h.lst r.sh
    split at w
    · rename_i ns e
      have e2 := ints_eq e
      subst e2
      obtain rfl := h2.ints
      exact ⟨a, ns, rfl, SqL.of h1, k _ _ Hs H w Gr.refl r (.int _)⟩
    · exact w.elim
  · exact w.elim
def dAll : O1 := fun xs q => match xs with
  | [.lst ys] => (match D.bools ys with
    | some ns => q (.bl (ns.all id))
    | none => False)
  | _ => False
theorem dc_all : DC1 C (rAll C.K) dAll := by
  refine ⟨fun Hs ρ σ H xs vs q Q r p w k => ?_⟩
  unfold dAll at w
  split at w
  · obtain ⟨v, rfl, h⟩ := repBL1 p
    obtain ⟨a, us, rfl, h1, h2⟩ := h.lst r.sh
    split at w
    · rename_i ns e
      have e2 := bools_eq e
      subst e2
      obtain rfl := h2.bools
      exact ⟨a, ns, rfl, SqL.of h1, k _ _ Hs H w Gr.refl r (.bl _)⟩
    · exact w.elim
  · exact w.elim
def dAny : O1 := fun xs q => match xs with
  | [.lst ys] => (match D.bools ys with
    | some ns => q (.bl (ns.any id))
    | none => False)
  | _ => False
theorem dc_any : DC1 C (rAny C.K) dAny := by
  refine ⟨fun Hs ρ σ H xs vs q Q r p w k => ?_⟩
  unfold dAny at w
  split at w
  · obtain ⟨v, rfl, h⟩ := repBL1 p
    obtain ⟨a, us, rfl, h1, h2⟩ := h.lst r.sh
    split at w
    · rename_i ns e
      have e2 := bools_eq e
      subst e2
      obtain rfl := h2.bools
      exact ⟨a, ns, rfl, SqL.of h1, k _ _ Hs H w Gr.refl r (.bl _)⟩
    · exact w.elim
  · exact w.elim
def dAbs : O1 := fun xs q => match xs with
  | [.int i] => q (.int (if i < 0 then -i else i))
  | _ => False
theorem dc_abs : DC1 C (fun xs H Q => ∃ i, xs = [V.int i] ∧ Q (.int (if i < 0 then -i else i)) H) dAbs := by
  refine ⟨fun Hs ρ σ H xs vs q Q r p w k => ?_⟩
  unfold dAbs at w
  split at w
  · obtain ⟨v, rfl, h⟩ := repBL1 p
    obtain rfl := repB_int h
    exact ⟨_, rfl, k _ _ Hs H w Gr.refl r (.int _)⟩
  · exact w.elim
def dInt : O1 := fun xs q => match xs with
  | [.int i] => q (.int i)
  | [.bl b] => q (.int (if b then 1 else 0))
  | _ => False
theorem dc_int : DC1 C (fun xs H Q => (∃ i, xs = [V.int i] ∧ Q (.int i) H) ∨ ∃ k, xs = [V.bl k] ∧ Q (.int (if k then 1 else 0)) H) dInt := by
  refine ⟨fun Hs ρ σ H xs vs q Q r p w k => ?_⟩
  unfold dInt at w
  split at w
  · obtain ⟨v, rfl, h⟩ := repBL1 p
    obtain rfl := repB_int h
    exact .inl ⟨_, rfl, k _ _ Hs H w Gr.refl r (.int _)⟩
  · obtain ⟨v, rfl, h⟩ := repBL1 p
    obtain rfl := repB_bl h
    exact .inr ⟨_, rfl, k _ _ Hs H w Gr.refl r (.int _)⟩
  · exact w.elim
/-- tuple(x), list(x) -/
def dTuple : O1 := fun xs q => match xs with
  | [.lst ys] => q (.tup ys)
  | [.tup ys] => q (.tup ys)
  | _ => False
theorem dc_tuple : DC1 C (rTupleF C.K) dTuple := by
  refine ⟨fun Hs ρ σ H xs vs q Q r p w k => ?_⟩
  unfold dTuple at w
  split at w
  · obtain ⟨v, rfl, h⟩ := repBL1 p
    obtain ⟨a, us, rfl, h1, h2⟩ := h.lst r.sh
    refine ⟨a, us, rfl, .inl ⟨SqL.of h1, fun b o ho hb => ?_⟩⟩
    obtain ⟨s, g, r'⟩ := upd_rs (o := frT o us) r hb
    exact k _ _ _ _ w g r' (.tup sqT_fr (ndT_fr ho) (h2.mono s))
  · obtain ⟨v, rfl, h⟩ := repBL1 p
    have tx := h.tupR
    obtain ⟨a, us, rfl, h1, h2⟩ := h.tup r.sh
    exact ⟨a, us, rfl, .inr ⟨h1, k _ _ Hs H w Gr.refl r tx⟩⟩
  · exact w.elim
def dList : OF := fun xs q => match xs with
  | [.lst ys] => q ys
  | [.tup ys] => q ys
  | _ => False
theorem dcf_list : DCF C (fun xs H Q => ∃ p ys, xs = [V.ref p] ∧ (SqL C.K H p ys ∨ SqT C.K H p ys) ∧ ∀ l, H l = none → Q (.ref l) (upd H l (.lst ys))) dList := by
  refine ⟨fun Hs ρ σ H xs vs q Q r p w k => ?_⟩
  unfold dList at w
  split at w
  · obtain ⟨v, rfl, h⟩ := repBL1 p
    obtain ⟨a, us, rfl, h1, h2⟩ := h.lst r.sh
    exact ⟨a, us, rfl, .inl (SqL.of h1), fun b hb => k _ _ _ Hs H w Gr.refl r hb h2⟩
  · obtain ⟨v, rfl, h⟩ := repBL1 p
    obtain ⟨a, us, rfl, h1, h2⟩ := h.tup r.sh
    exact ⟨a, us, rfl, .inr h1, fun b hb => k _ _ _ Hs H w Gr.refl r hb h2⟩
  · exact w.elim
/-- list(range(..)), tuple(range(..)) -/
def rgD (a b : Int) : List D := (List.range (b - a).toNat).map fun i => D.int (a + (i : Nat))
theorem rgD_rep {K : PySem.W.Frag} {a : Hd} {H : Hp} (lo hi : Int) : RepL K a H (rgD lo hi) (rgV lo hi) := by
  unfold rgD rgV
  generalize List.range (hi - lo).toNat = l
  induction l with
  | nil => exact .nil
  | cons x xs ih => exact .cons (.int _) ih
abbrev MR := List En → (Int → Int → Prop) → QE → Prop
structure DR (C : Ctx) (t : L2.St → Hp → (Int → Int → Hp → Prop) → Prop) (f : MR) : Prop where
  run : ∀ Hs ρ σ H q qe Q, (∀ x, qe x → C.W x) → RS C Hs ρ σ H → f ρ q qe →
    (∀ i j Hs' H', q i j → Gr C.a Hs H Hs' H' → RS C Hs' ρ σ H' → Q i j H') → t σ H Q
def rRg1 (f : ME) : MR := fun ρ q qe => f ρ (fun d => match d with
  | .int i => q 0 i
  | _ => False) qe
def rRg2 (f g : ME) : MR := fun ρ q qe => f ρ (fun d => g ρ (fun e => match d, e with
  | .int i, .int j => q i j
  | _, _ => False) qe) qe
theorem dr_1 {t : TE} {f : ME} (h : DT C t f) : DR C (tRg1 t) (rRg1 f) := by
  refine ⟨fun Hs ρ σ H q qe Q l r w k => ?_⟩
  refine h.run Hs ρ σ H _ qe _ l r w fun d v Hs1 H1 w1 g1 r1 p1 => ?_
  split at w1
  · cases p1
    exact ⟨_, rfl, k _ _ Hs1 H1 w1 g1 r1⟩
  · exact w1.elim
theorem dr_2 {t u : TE} {f g : ME} (h : DT C t f) (h' : DT C u g) : DR C (tRg2 t u) (rRg2 f g) := by
  refine ⟨fun Hs ρ σ H q qe Q l r w k => ?_⟩
  refine h.run Hs ρ σ H _ qe _ l r w fun d v Hs1 H1 w1 g1 r1 p1 => ?_
  refine h'.run Hs1 ρ σ H1 _ qe _ l r1 w1 fun d' v' Hs2 H2 w2 g2 r2 p2 => ?_
  split at w2
  · cases p1
    cases p2
    exact ⟨_, _, rfl, rfl, k _ _ Hs2 H2 w2 (g1.trans g2) r2⟩
  · exact w2.elim
def fLstRg (f : MR) : MA := fun ρ q qe => f ρ (fun i j => RgOk i j ∧ q (rgD i j)) qe
theorem df_listRg {t : L2.St → Hp → (Int → Int → Hp → Prop) → Prop} {f : MR} (h : DR C t f) : DF C (tLstRg t) (fLstRg f) := by
  refine ⟨fun Hs ρ σ H q qe Q l r w k => ?_⟩
  exact h.run Hs ρ σ H _ qe _ l r w fun i j Hs1 H1 w1 g1 r1 => ⟨w1.1, fun p hp => k _ p _ Hs1 H1 w1.2 g1 r1 hp (rgD_rep i j)⟩
def eTupRg (f : MR) : ME := fun ρ q qe => f ρ (fun i j => RgOk i j ∧ q (.tup (rgD i j))) qe
theorem dt_tupRg {t : L2.St → Hp → (Int → Int → Hp → Prop) → Prop} {f : MR} (h : DR C t f) : DT C (tTupRgF t) (eTupRg f) := by
  refine ⟨fun Hs ρ σ H q qe Q l r w k => ?_⟩
  refine h.run Hs ρ σ H _ qe _ l r w fun i j Hs1 H1 w1 g1 r1 => ⟨w1.1, fun p o ho hp => ?_⟩
  obtain ⟨s, g, r'⟩ := upd_rs (o := frT o (rgV i j)) r1 hp
  exact k _ _ _ _ w1.2 (g1.trans g) r' (.tup sqT_fr (ndT_fr ho) ((rgD_rep i j)))

/-! ### isinstance -/
def D.ty : D → String
  | .non => "NoneType"
  | .bl _ => "bool"
  | .int _ => "int"
  | .str _ => "str"
  | .tup _ => "tuple"
  | .lst _ => "list"
  | .hand => "list"
  | .scr _ => "list"
  | .dct _ => "dict"
  | .obj _ _ => "object"
/-- whether a value of the type a is one of the type b, of built-in types -/
def isiB (a b : String) : Bool := a == b || (a == "bool" && b == "int")
def eIsi (ns : List String) (f : ME) : ME := fun ρ q qe => f ρ (fun d => match d with
  | .obj _ _ => False
  | .hand => False
  | .scr _ => False
  | d => q (.bl (ns.any fun n => isiB d.ty n))) qe
theorem ty_of {K : PySem.W.Frag} {a : Hd} {Hs H : Hp} {d : D} {v : V} (s : Same Hs H) (h : RepB K a Hs H d v) (n : ∀ c fs, d ≠ .obj c fs) (n2 : d ≠ .hand ∧ ∀ ns, d ≠ .scr ns) : TyX K H v (.type d.ty) := by
  cases d with
  | non => cases h with | sh h => cases h; exact .base .non
  | bl b => cases h with | sh h => cases h; exact .base (.bl _)
  | int i => cases h with | sh h => cases h; exact .base (.int _)
  | str i => cases h with | sh h => cases h; exact .base (.str _)
  | tup xs =>
    obtain ⟨p, vs, rfl, h1, h2⟩ := h.tup s
    rcases h1 with (h1 | ⟨o, h1⟩) | ⟨o, its, k, h1, h3, _⟩
    · exact .base (.tup h1)
    · exact .fTuple h1
    · exact .kTuple h1 h3
  | lst xs =>
    obtain ⟨p, vs, rfl, h1, h2⟩ := h.lst s
    exact .base (.lst h1)
  | dct xs =>
    obtain ⟨p, vs, rfl, h1, h2⟩ := h.dct s
    exact .base (.dK h1)
  | obj c fs => exact absurd rfl (n c fs)
  | hand => exact absurd rfl n2.1
  | scr ns => exact absurd rfl (n2.2 ns)
theorem kitB_tab : ∀ a ∈ ["NoneType", "bool", "int", "str", "tuple", "list", "dict"], ∀ n ∈ ["int", "bool", "str", "list", "tuple", "dict"], kitB a n = some (isiB a n) := by decide +kernel
theorem kit_of_ty {K : PySem.W.Frag} {d : D} {n : String} (hn : n ∈ ["int", "bool", "str", "list", "tuple", "dict"]) (no : ∀ c fs, d ≠ .obj c fs) (n2 : d ≠ .hand ∧ ∀ ns, d ≠ .scr ns) : PySem.W.kitOne K (.type d.ty) (.type n) = some (isiB d.ty n) := by
  refine kit_ty (kitB_tab _ ?_ _ hn)
  cases d with
  | obj c fs => exact absurd rfl (no c fs)
  | hand => exact absurd rfl n2.1
  | scr ns => exact absurd rfl (n2.2 ns)
  | _ => simp [D.ty]
theorem dt_isi {n : String} {t : TE} {f : ME} (hn : n ∈ ["int", "bool", "str", "list", "tuple", "dict"]) (h : DB C t f) : DT C (tCB (rIsi C.K) (tCons t (tCons (tC (.ty n)) tNil))) (eIsi [n] f) := by
  refine ⟨fun Hs ρ σ H q qe Q l r w k => ?_⟩
  refine h.run Hs ρ σ H _ qe _ l r w fun d v Hs1 H1 w1 g1 r1 p1 => ?_
  have no : ∀ c fs, d ≠ .obj c fs := fun c fs e => by
    subst e
    exact w1
  have n2 : d ≠ .hand ∧ ∀ ns, d ≠ .scr ns := ⟨fun e => by
    subst e
    exact w1, fun ns e => by
    subst e
    exact w1⟩
  have w2 : q (.bl ([n].any fun n => isiB d.ty n)) := by
    cases d with
    | obj c fs => exact absurd rfl (no c fs)
    | hand => exact absurd rfl n2.1
    | scr ns => exact absurd rfl (n2.2 ns)
    | _ => exact w1
  refine ⟨v, .ty n, _, _, _, rfl, .ty n, ty_of r1.sh p1 no n2, kit_of_ty hn no n2, ?_⟩
  rw [List.any_cons, List.any_nil, Bool.or_false] at w2
  exact k _ _ Hs1 H1 w2 g1 r1 (.bl _)
theorem kitAny_of {K : PySem.W.Frag} {d : D} (no : ∀ c fs, d ≠ .obj c fs) (n2 : d ≠ .hand ∧ ∀ ns, d ≠ .scr ns) : ∀ {ns : List String}, (∀ n ∈ ns, n ∈ ["int", "bool", "str", "list", "tuple", "dict"]) → PySem.W.kitAny K (.type d.ty) (ns.map Value.type) = some (ns.any fun n => isiB d.ty n)
  | [], _ => rfl
  | n :: ns, h => by
    rw [List.map_cons, List.any_cons]
    refine kitAny_cons (kit_of_ty (h n (List.mem_cons_self ..)) no n2) (fun e => ?_) fun e => ?_
    · rw [kitAny_of no n2 fun m hm => h m (List.mem_cons_of_mem _ hm), e]
      rfl
    · rw [e]
      rfl
def tTys : List String → TA
  | [] => tNil
  | n :: ns => tCons (tC (.ty n)) (tTys ns)
theorem tTys_run : ∀ {ns : List String} {σ : L2.St} {H : Hp} {Q : List V → Hp → Prop}, Q (ns.map V.ty) H → tTys ns σ H Q
  | [], _, _, _, h => h
  | n :: ns, σ, H, Q, h => tTys_run (ns := ns) (Q := fun xs H2 => Q (V.ty n :: xs) H2) h
theorem clsV_tys : ∀ ns : List String, Paired ClsV (ns.map V.ty) (ns.map Value.type)
  | [] => .nil
  | n :: ns => .cons (.ty n) (clsV_tys ns)
theorem dt_isiT {ns : List String} {t : TE} {f : ME} (hn : ∀ n ∈ ns, n ∈ ["int", "bool", "str", "list", "tuple", "dict"]) (hl : ns.length ≤ sizeLine) (h : DB C t f) : DT C (tCB (rIsiT C.K) (tCons t (tCons (tTup (tTys ns)) tNil))) (eIsi ns f) := by
  refine ⟨fun Hs ρ σ H q qe Q l r w k => ?_⟩
  refine h.run Hs ρ σ H _ qe _ l r w fun d v Hs1 H1 w1 g1 r1 p1 => ?_
  have no : ∀ c fs, d ≠ .obj c fs := fun c fs e => by
    subst e
    exact w1
  have n2 : d ≠ .hand ∧ ∀ ns, d ≠ .scr ns := ⟨fun e => by
    subst e
    exact w1, fun ns e => by
    subst e
    exact w1⟩
  have w2 : q (.bl (ns.any fun n => isiB d.ty n)) := by
    cases d with
    | obj c fs => exact absurd rfl (no c fs)
    | hand => exact absurd rfl n2.1
    | scr ns => exact absurd rfl (n2.2 ns)
    | _ => exact w1
  refine tTys_run ⟨by rw [List.length_map]; exact hl, fun p hp => ?_⟩
  have r2 := r1.side (o := .tup (ns.map V.ty)) hp
  have g2 := r1.gr_side (o := .tup (ns.map V.ty)) hp
  exact ⟨v, p, _, _, _, _, rfl, upd_same, clsV_tys ns, ty_of r2.sh (p1.mono (Same.refl _) g2.b) no n2, kitAny_of no n2 hn, k _ _ Hs1 _ w2 (g1.trans g2) r2 (.bl _)⟩
end
end Fd
namespace Fd
open PySem PySem.Spec L2
section
variable {C : Ctx}

/-! ### slots -/
theorem RS.set {Hs H : Hp} {ρ : List En} {σ : L2.St} (r : RS C Hs ρ σ H) {i : Nat} {d : D} {v : V} (h : Rep C.K C.a Hs d v) : RS C Hs (ρ.set i (.sh d)) (σ.set i (some v)) H where
  len := by rw [List.length_set, List.length_set, r.len]
  fr := r.fr
  sh := r.sh
  sh0 := r.sh0
  new := r.new
  hd := r.hd
  hd0 := r.hd0
  en := fun j e he => by
    by_cases z : i = j
    · subst z
      have hl : i < ρ.length := by
        have q := (List.getElem?_eq_some_iff.mp he).1
        rwa [List.length_set] at q
      rw [List.getElem?_set_self hl] at he
      cases he
      rw [List.getElem?_set_self (by rw [← r.len]; exact hl)]
      exact ⟨v, rfl, h⟩
    · rw [List.getElem?_set_ne z] at he ⊢
      exact r.en j e he
  sep := fun j k p e e' hjk h1 h2 o1 o2 s1 s2 => by
    by_cases z : i = j
    · subst z
      have hl : i < ρ.length := by
        have q := (List.getElem?_eq_some_iff.mp h1).1
        rwa [List.length_set] at q
      rw [List.getElem?_set_self hl] at h1
      cases h1
      cases o1
    · by_cases y : i = k
      · subst y
        have hl : i < ρ.length := by
          have q := (List.getElem?_eq_some_iff.mp h2).1
          rwa [List.length_set] at q
        rw [List.getElem?_set_self hl] at h2
        cases h2
        cases o2
      · rw [List.getElem?_set_ne z] at h1 s1
        rw [List.getElem?_set_ne y] at h2 s2
        exact r.sep j k p e e' hjk h1 h2 o1 o2 s1 s2
/-- a slot is forgotten -/
theorem RS.drop {Hs H : Hp} {ρ : List En} {σ : L2.St} (r : RS C Hs ρ σ H) {i : Nat} {o : Option V} : RS C Hs (ρ.set i .no) (σ.set i o) H where
  len := by rw [List.length_set, List.length_set, r.len]
  fr := r.fr
  sh := r.sh
  sh0 := r.sh0
  new := r.new
  hd := r.hd
  hd0 := r.hd0
  en := fun j e he => by
    by_cases z : i = j
    · subst z
      have hl : i < ρ.length := by
        have q := (List.getElem?_eq_some_iff.mp he).1
        rwa [List.length_set] at q
      rw [List.getElem?_set_self hl] at he
      cases he
      trivial
    · rw [List.getElem?_set_ne z] at he ⊢
      exact r.en j e he
  sep := fun j k p e e' hjk h1 h2 o1 o2 s1 s2 => by
    by_cases z : i = j
    · subst z
      have hl : i < ρ.length := by
        have q := (List.getElem?_eq_some_iff.mp h1).1
        rwa [List.length_set] at q
      rw [List.getElem?_set_self hl] at h1
      cases h1
      cases o1
    · by_cases y : i = k
      · subst y
        have hl : i < ρ.length := by
          have q := (List.getElem?_eq_some_iff.mp h2).1
          rwa [List.length_set] at q
        rw [List.getElem?_set_self hl] at h2
        cases h2
        cases o2
      · rw [List.getElem?_set_ne z] at h1 s1
        rw [List.getElem?_set_ne y] at h2 s2
        exact r.sep j k p e e' hjk h1 h2 o1 o2 s1 s2
def wipeE (ρ : List En) : List Nat → List En
  | [] => ρ
  | v :: vs => (wipeE ρ vs).set v .no
theorem RS.wipe {Hs H : Hp} {ρ : List En} {σ : L2.St} (r : RS C Hs ρ σ H) : ∀ vs : List Nat, RS C Hs (wipeE ρ vs) (L2.wipe σ vs) H
  | [] => r
  | v :: vs => (RS.wipe r vs).drop
theorem wipe_set_in {σ : L2.St} {i : Nat} {o : Option V} : ∀ {vs : List Nat}, i ∈ vs → L2.wipe (σ.set i o) vs = L2.wipe σ vs
  | [], h => by cases h
  | v :: vs, h => by
    unfold L2.wipe
    by_cases z : i ∈ vs
    · rw [wipe_set_in z]
    · have e : i = v := by
        rcases List.mem_cons.mp h with h | h
        · exact h
        · exact absurd h z
      subst e
      have key : ∀ ws : List Nat, i ∉ ws → L2.wipe (σ.set i o) ws = (L2.wipe σ ws).set i o := by
        intro ws
        induction ws with
        | nil => intro _; rfl
        | cons w ws ih =>
          intro hw
          have n1 : i ≠ w := fun q => hw (by rw [q]; exact List.mem_cons_self ..)
          have n2 : i ∉ ws := fun q => hw (List.mem_cons_of_mem _ q)
          unfold L2.wipe
          rw [ih n2, List.set_comm _ _ n1]
      rw [key vs z, List.set_set]

/-! ### targets -/
abbrev MG := D → List En → (List En → Prop) → Prop
abbrev MGs := List D → List En → (List En → Prop) → Prop
structure DG (C : Ctx) (S : List Nat) (t : TG) (g : MG) : Prop where
  run : ∀ Hs ρ σ H d v q Q, RS C Hs ρ σ H → Rep C.K C.a Hs d v → g d ρ q →
    (∀ ρ' σ', q ρ' → RS C Hs ρ' σ' H → (∀ vs : List Nat, (∀ i ∈ S, i ∈ vs) → L2.wipe σ' vs = L2.wipe σ vs) → Q σ' H) → t v σ H Q
structure DGs (C : Ctx) (S : List Nat) (t : TGs) (g : MGs) : Prop where
  run : ∀ Hs ρ σ H ds vs q Q, RS C Hs ρ σ H → RepL C.K C.a Hs ds vs → g ds ρ q →
    (∀ ρ' σ', q ρ' → RS C Hs ρ' σ' H → (∀ vs : List Nat, (∀ i ∈ S, i ∈ vs) → L2.wipe σ' vs = L2.wipe σ vs) → Q σ' H) → t vs σ H Q
def gdName (i : Nat) : MG := fun d ρ q => q (ρ.set i (.sh d))
theorem dg_name (i : Nat) : DG C [i] (gName i) (gdName i) :=
  ⟨fun Hs ρ σ H d v q Q r p w k => k _ _ w (r.set p) fun vs h => wipe_set_in (h i (List.mem_cons_self ..))⟩
def gdNil : MGs := fun ds ρ q => match ds with
  | [] => q ρ
  | _ => False
def gdCons (g : MG) (h : MGs) : MGs := fun ds ρ q => match ds with
  | d :: r => g d ρ fun ρ' => h r ρ' q
  | [] => False
theorem dgs_nil : DGs C [] gNil gdNil := by
  refine ⟨fun Hs ρ σ H ds vs q Q r p w k => ?_⟩
  cases p with
  | nil => exact ⟨rfl, k _ _ w r fun vs h => rfl⟩
  | cons h t => exact w.elim
theorem dgs_cons {S T : List Nat} {t : TG} {u : TGs} {g : MG} {h : MGs} (h1 : DG C S t g) (h2 : DGs C T u h) : DGs C (S ++ T) (gCons t u) (gdCons g h) := by
  refine ⟨fun Hs ρ σ H ds vs q Q r p w k => ?_⟩
  cases p with
  | nil => exact w.elim
  | cons p ps =>
    refine ⟨_, _, rfl, ?_⟩
    refine h1.run Hs ρ σ H _ _ _ _ r p w fun ρ' σ' w' r' e => ?_
    refine h2.run Hs ρ' σ' H _ _ _ _ r' ps w' fun ρ'' σ'' w'' r'' e' => ?_
    exact k _ _ w'' r'' fun vs hv => (e' vs fun i hi => hv i (List.mem_append_right _ hi)).trans (e vs fun i hi => hv i (List.mem_append_left _ hi))
def gdTup (n : Nat) (h : MGs) : MG := fun d ρ q => match d with
  | .tup xs => xs.length = n ∧ h xs ρ q
  | _ => False
theorem dg_tup {n : Nat} {S : List Nat} {u : TGs} {h : MGs} (h2 : DGs C S u h) : DG C S (gTup C.K n u) (gdTup n h) := by
  refine ⟨fun Hs ρ σ H d v q Q r p w k => ?_⟩
  unfold gdTup at w
  split at w
  · cases p with
    | tup hp _ hr =>
      exact ⟨_, _, rfl, same_sqT r.sh hp, by rw [← hr.length]; exact w.1, h2.run Hs ρ σ H _ _ _ _ r hr w.2 k⟩
  · exact w.elim

/-! ### what is walked -/
/-- whatever stands later, the iterator gives these items -/
structure Walk (C : Ctx) (J : It) (items : List D) (Hs : Hp) : Prop where
  go : ∀ i Hs1 ρ σ H1, Same Hs Hs1 → RS C Hs1 ρ σ H1 → i < items.length → J.go i H1
  stop : ∀ i Hs1 ρ σ H1, Same Hs Hs1 → RS C Hs1 ρ σ H1 → i = items.length → J.stop i H1
  yld : ∀ i Hs1 ρ σ H1 d x H', Same Hs Hs1 → RS C Hs1 ρ σ H1 → items[i]? = some d → J.yld i H1 x H' → ∃ Hs2, Gr C.a Hs1 H1 Hs2 H' ∧ RS C Hs2 ρ σ H' ∧ Rep C.K C.a Hs2 d x
structure WalkB (C : Ctx) (J : It) (items : List D) (Hs H : Hp) : Prop where
  go : ∀ i Hs1 ρ σ H1, Same Hs Hs1 → SB C.a H H1 → RS C Hs1 ρ σ H1 → i < items.length → J.go i H1
  stop : ∀ i Hs1 ρ σ H1, Same Hs Hs1 → SB C.a H H1 → RS C Hs1 ρ σ H1 → i = items.length → J.stop i H1
  yld : ∀ i Hs1 ρ σ H1 d x H', Same Hs Hs1 → SB C.a H H1 → RS C Hs1 ρ σ H1 → items[i]? = some d → J.yld i H1 x H' → ∃ Hs2, Gr C.a Hs1 H1 Hs2 H' ∧ RS C Hs2 ρ σ H' ∧ Rep C.K C.a Hs2 d x
theorem Walk.b {J : It} {items : List D} {Hs H : Hp} (w : Walk C J items Hs) : WalkB C J items Hs H :=
  ⟨fun i Hs1 ρ σ H1 s _ => w.go i Hs1 ρ σ H1 s, fun i Hs1 ρ σ H1 s _ => w.stop i Hs1 ρ σ H1 s, fun i Hs1 ρ σ H1 d x H' s _ => w.yld i Hs1 ρ σ H1 d x H' s⟩
structure DI (C : Ctx) (wi : TI) (f : MA) : Prop where
  run : ∀ Hs ρ σ H q qe R, (∀ x, qe x → C.W x) → RS C Hs ρ σ H → f ρ q qe →
    (∀ items J Hs' H', q items → Gr C.a Hs H Hs' H' → RS C Hs' ρ σ H' → Walk C J items Hs' → R J H') → wi σ H R
structure DIB (C : Ctx) (wi : TI) (f : MA) : Prop where
  run : ∀ Hs ρ σ H q qe R, (∀ x, qe x → C.W x) → RS C Hs ρ σ H → f ρ q qe →
    (∀ items J Hs' H', q items → Gr C.a Hs H Hs' H' → RS C Hs' ρ σ H' → WalkB C J items Hs' H' → R J H') → wi σ H R
theorem DI.b {wi : TI} {f : MA} (h : DI C wi f) : DIB C wi f :=
  ⟨fun Hs ρ σ H q qe R l r w k => h.run Hs ρ σ H q qe R l r w fun items J Hs' H' e g r' wk => k items J Hs' H' e g r' wk.b⟩

/-- a list, a tuple -/
def iSeq (K : PySem.W.Frag) (tl : TE) : TI := fun σ H R => tl σ H fun x H1 => ∃ a, x = .ref a ∧ (((∃ xs, SqL K H1 a xs) ∧ R (Itl K a) H1) ∨ ((∃ xs, SqT K H1 a xs) ∧ R (Itt K a) H1))
theorem pi_seq {X : Cx} {tg l : Expr} {tl : TE} (hl : PE X l tl) : PI X tg l (iSeq X.K tl) := by
  refine ⟨fun pins s σ H R I h => ?_⟩
  refine thn (hl.run pins s σ H _ I h) fun v s1 ⟨x, H1, I1, r1, q1⟩ => ?_
  obtain ⟨a, e, q⟩ := q1
  subst e
  cases r1
  rcases q with ⟨⟨xs, hq⟩, q⟩ | ⟨⟨xs, hq⟩, q⟩
  · obtain ⟨its, rv, p, hz⟩ := I1.list hq
    refine wpAny_pyIter_list p.isList ?_
    refine ⟨s1.heap.objs.size, [s1.heap.objs.size], _, _, H1, rfl, I1.kept (t' := s1.toks) fun b o e => Heap.get?_push_of_some _ e, turn_list a _, ⟨_, Heap.get?_push_size _ rfl, rfl, rfl⟩, fun b hb => ?_, q⟩
    have e : b = s1.heap.objs.size := by simpa using hb
    subst e
    exact I1.fpOk (Nat.le_refl _) (I1.hok.fresh (Nat.le_refl _))
  · obtain ⟨its, rv, p, hz⟩ := I1.tuple hq
    refine wpAny_pyIter_tuple (show s1.heap.IsTuple a its.toArray from p) ?_
    refine ⟨s1.heap.objs.size, [s1.heap.objs.size], _, _, H1, rfl, I1.kept (t' := s1.toks) fun b o e => Heap.get?_push_of_some _ e, turn_tuple a _, ⟨_, Heap.get?_push_size _ rfl, rfl, rfl⟩, fun b hb => ?_, q⟩
    have e : b = s1.heap.objs.size := by simpa using hb
    subst e
    exact I1.fpOk (Nat.le_refl _) (I1.hok.fresh (Nat.le_refl _))
/-- the items of a list, a tuple -/
def fSeq (f : ME) : MA := fun ρ q qe => f ρ (fun d => match d with
  | .lst xs => q xs
  | .tup xs => q xs
  | _ => False) qe
theorem walk_list {items : List D} {vs : List V} {Hs : Hp} {a : Addr} (h : Hs a = some (.lst vs)) (rl : RepL C.K C.a Hs items vs) : Walk C (Itl C.K a) items Hs where
  go := fun i Hs1 ρ σ H1 s r hi => by
    have h2 : i < vs.length := by rw [← rl.length]; exact hi
    exact ⟨vs, vs[i], SqL.of (r.sh _ _ (s _ _ h)), List.getElem?_eq_getElem h2⟩
  stop := fun i Hs1 ρ σ H1 s r hi => ⟨vs, SqL.of (r.sh _ _ (s _ _ h)), by rw [← rl.length]; exact Nat.le_of_eq hi.symm⟩
  yld := fun i Hs1 ρ σ H1 d x H' s r hd hy => by
    obtain ⟨e, hy⟩ := hy
    subst e
    obtain ⟨d', e', hr⟩ := rl.get (hy vs (SqL.of (r.sh _ _ (s _ _ h))))
    rw [hd] at e'
    cases e'
    exact ⟨Hs1, Gr.refl, r, hr.mono s⟩
theorem walk_tup {items : List D} {vs : List V} {Hs : Hp} {a : Addr} (h : SqT C.K Hs a vs) (rl : RepL C.K C.a Hs items vs) : Walk C (Itt C.K a) items Hs where
  go := fun i Hs1 ρ σ H1 s r hi => by
    have h2 : i < vs.length := by rw [← rl.length]; exact hi
    exact ⟨vs, vs[i], same_sqT r.sh (same_sqT s h), List.getElem?_eq_getElem h2⟩
  stop := fun i Hs1 ρ σ H1 s r hi => ⟨vs, same_sqT r.sh (same_sqT s h), by rw [← rl.length]; exact Nat.le_of_eq hi.symm⟩
  yld := fun i Hs1 ρ σ H1 d x H' s r hd hy => by
    obtain ⟨e, hy⟩ := hy
    subst e
    obtain ⟨d', e', hr⟩ := rl.get (hy vs (same_sqT r.sh (same_sqT s h)))
    rw [hd] at e'
    cases e'
    exact ⟨Hs1, Gr.refl, r, hr.mono s⟩
theorem walkB_list {items : List D} {vs : List V} {Hs H : Hp} {a : Addr} (h : H a = some (.lst vs)) (n : C.a.p ≠ some a) (rl : RepL C.K C.a Hs items vs) : WalkB C (Itl C.K a) items Hs H where
  go := fun i Hs1 ρ σ H1 s b r hi => by
    have h2 : i < vs.length := by rw [← rl.length]; exact hi
    exact ⟨vs, vs[i], SqL.of (b.k _ _ n h fun _ z => by cases z), List.getElem?_eq_getElem h2⟩
  stop := fun i Hs1 ρ σ H1 s b r hi => ⟨vs, SqL.of (b.k _ _ n h fun _ z => by cases z), by rw [← rl.length]; exact Nat.le_of_eq hi.symm⟩
  yld := fun i Hs1 ρ σ H1 d x H' s b r hd hy => by
    obtain ⟨e, hy⟩ := hy
    subst e
    obtain ⟨d', e', hr⟩ := rl.get (hy vs (SqL.of (b.k _ _ n h fun _ z => by cases z)))
    rw [hd] at e'
    cases e'
    exact ⟨Hs1, Gr.refl, r, hr.mono s⟩
theorem di_seq {t : TE} {f : ME} (h : DT C t f) : DI C (iSeq C.K t) (fSeq f) := by
  refine ⟨fun Hs ρ σ H q qe R l r w k => ?_⟩
  refine h.run Hs ρ σ H _ qe _ l r w fun d v Hs1 H1 w1 g1 r1 p1 => ?_
  split at w1
  · cases p1 with
    | lst h1 h2 => exact ⟨_, rfl, .inl ⟨⟨_, SqL.of (r1.sh _ _ h1)⟩, k _ _ Hs1 H1 w1 g1 r1 (walk_list h1 h2)⟩⟩
  · cases p1 with
    | tup h1 _ h2 => exact ⟨_, rfl, .inr ⟨⟨_, same_sqT r1.sh h1⟩, k _ _ Hs1 H1 w1 g1 r1 (walk_tup h1 h2)⟩⟩
  · exact w1.elim
theorem dib_seq {t : TE} {f : ME} (h : DB C t f) : DIB C (iSeq C.K t) (fSeq f) := by
  refine ⟨fun Hs ρ σ H q qe R l r w k => ?_⟩
  refine h.run Hs ρ σ H _ qe _ l r w fun d v Hs1 H1 w1 g1 r1 p1 => ?_
  split at w1
  · cases p1 with
    | sh p1 =>
      cases p1 with
      | lst h1 h2 => exact ⟨_, rfl, .inl ⟨⟨_, SqL.of (r1.sh _ _ h1)⟩, k _ _ Hs1 H1 w1 g1 r1 (walk_list h1 h2).b⟩⟩
    | ol h1 h2 h3 => exact ⟨_, rfl, .inl ⟨⟨_, SqL.of h1⟩, k _ _ Hs1 H1 w1 g1 r1 (walkB_list h1 h3 h2)⟩⟩
  · cases p1 with
    | sh p1 =>
      cases p1 with
      | tup h1 _ h2 => exact ⟨_, rfl, .inr ⟨⟨_, same_sqT r1.sh h1⟩, k _ _ Hs1 H1 w1 g1 r1 (walk_tup h1 h2).b⟩⟩
  · exact w1.elim
/-- range(n), range(a, b) -/
theorem walk_range {lo : Int} {n : Nat} {Hs : Hp} : Walk C (Itr lo n) ((List.range n).map fun i => D.int (lo + (i : Nat))) Hs where
  go := fun i Hs1 ρ σ H1 s r hi => by
    rw [List.length_map, List.length_range] at hi
    exact hi
  stop := fun i Hs1 ρ σ H1 s r hi => by
    rw [List.length_map, List.length_range] at hi
    exact Nat.le_of_eq hi.symm
  yld := fun i Hs1 ρ σ H1 d x H' s r hd hy => by
    obtain ⟨e, hy⟩ := hy
    subst e hy
    rw [List.getElem?_map] at hd
    cases q : (List.range n)[i]? with
    | none => rw [q] at hd; cases hd
    | some j =>
      rw [q] at hd
      cases hd
      have e2 : j = i := by
        have h := (List.getElem?_eq_some_iff.mp q)
        obtain ⟨h1, h2⟩ := h
        rw [List.getElem_range] at h2
        exact h2.symm
      subst e2
      exact ⟨Hs1, Gr.refl, r, .int _⟩
def RgB (i : Int) : Prop := -(2 ^ 62) ≤ i ∧ i < 2 ^ 62
def fRg1 (f : ME) : MA := fun ρ q qe => f ρ (fun d => match d with
  | .int j => RgB j ∧ q (rgD 0 j)
  | _ => False) qe
theorem rg0 (j : Int) : rgD 0 j = (List.range j.toNat).map fun i => D.int (0 + (i : Nat)) := by
  unfold rgD
  rw [Int.sub_zero]
theorem di_rg1 {t : TE} {f : ME} (h : DT C t f) : DI C (iRng1 (tCons t tNil)) (fRg1 f) := by
  refine ⟨fun Hs ρ σ H q qe R l r w k => ?_⟩
  refine h.run Hs ρ σ H _ qe _ l r w fun d v Hs1 H1 w1 g1 r1 p1 => ?_
  split at w1
  · cases p1
    rw [rg0] at w1
    exact ⟨_, rfl, w1.1.1, w1.1.2, k _ _ Hs1 H1 w1.2 g1 r1 walk_range⟩
  · exact w1.elim
def fRg2 (f g : ME) : MA := fun ρ q qe => f ρ (fun d => g ρ (fun e => match d, e with
  | .int i, .int j => (RgB i ∧ RgB j) ∧ q (rgD i j)
  | _, _ => False) qe) qe
theorem di_rg2 {t u : TE} {f g : ME} (h : DT C t f) (h' : DT C u g) : DI C (iRng2 (tCons t (tCons u tNil))) (fRg2 f g) := by
  refine ⟨fun Hs ρ σ H q qe R l r w k => ?_⟩
  refine h.run Hs ρ σ H _ qe _ l r w fun d v Hs1 H1 w1 g1 r1 p1 => ?_
  refine h'.run Hs1 ρ σ H1 _ qe _ l r1 w1 fun d' v' Hs2 H2 w2 g2 r2 p2 => ?_
  split at w2
  · cases p1
    cases p2
    exact ⟨_, _, rfl, ⟨w2.1.1.1, w2.1.1.2, w2.1.2.1, w2.1.2.2⟩, k _ _ Hs2 H2 w2.2 (g1.trans g2) r2 walk_range⟩
  · exact w2.elim

/-! ### [e for x in xs if t] -/
def lcL (g : MG) (tt : MT) (te : ME) (ρ : List En) : List D → (List D → Prop) → QE → Prop
  | [], q, _ => q []
  | d :: ds, q, qe => g d ρ fun ρ1 => tt ρ1 (fun b => if b = true then te ρ1 (fun y => lcL g tt te ρ ds (fun ys => q (y :: ys)) qe) qe else lcL g tt te ρ ds q qe) qe
def fLc (f : MA) (g : MG) (tt : MT) (te : ME) (vs : List Nat) : MA := fun ρ q qe => f ρ (fun items => items.length ≤ sizeLine ∧ lcL g tt te (wipeE ρ vs) items q qe) qe
def mYes : MT := fun _ q _ => q true
theorem dtt_yes : DTt C tYes mYes := ⟨fun Hs ρ σ H q qe Q l r w k => k true Hs H w Gr.refl r⟩
theorem df_lc {wi : TI} {t : TG} {tt : TT} {te : TE} {vs S : List Nat} {f : MA} {g : MG} {mt : MT} {me : ME} (hi : DIB C wi f) (hg : DG C S t g) (hS : ∀ i ∈ S, i ∈ vs) (ht : DTt C tt mt) (he : DT C te me) :
    DF C (tLc wi t tt te vs) (fLc f g mt me vs) := by
  refine ⟨fun Hs ρ σ H q qe Q l r w k => ?_⟩
  refine hi.run Hs ρ σ H _ qe _ l r w fun items J Hs1 H1 w1 g1 r1 wk => ?_
  obtain ⟨hsz, w1⟩ := w1
  intro L hL
  have nL : ∀ {Hs2 : Hp}, True := fun {_} => trivial
  refine ⟨fun i m H2 => m = items.length - i ∧ i ≤ items.length ∧ ∃ Hs2 H3 acc accD, H2 = upd H3 L (.lst acc) ∧ H3 L = none ∧ Gr C.a Hs1 H1 Hs2 H3 ∧ RS C Hs2 ρ σ H3 ∧ RepL C.K C.a Hs2 accD acc ∧ acc.length ≤ i ∧
      lcL g mt me (wipeE ρ vs) (items.drop i) (fun ys => q (accD ++ ys)) qe,
    ⟨items.length, by simp, Nat.zero_le _, Hs1, H1, [], [], rfl, hL, Gr.refl, r1, .nil, Nat.le_refl _, w1⟩, ?_⟩
  rintro i m H2 ⟨rfl, hle, Hs2, H3, acc, accD, rfl, hL3, g2, r2, rl, hacc, w2⟩
  have rU : RS C Hs2 ρ σ (upd H3 L (.lst acc)) := r2.side hL3
  have bU : SB C.a H1 (upd H3 L (.lst acc)) := g2.b.trans (SB.of (same_upd hL3))
  by_cases hlt : i < items.length
  · refine .inr ⟨wk.go i Hs2 ρ σ _ g2.s bU rU hlt, ?_⟩
    have hd : items[i]? = some items[i] := List.getElem?_eq_getElem hlt
    have ed : items.drop i = items[i] :: items.drop (i + 1) := List.drop_eq_getElem_cons hlt
    rw [ed] at w2
    refine ⟨fun H' => ∃ Hs2 H3 acc accD, H' = upd H3 L (.lst acc) ∧ H3 L = none ∧ Gr C.a Hs1 H1 Hs2 H3 ∧ RS C Hs2 ρ σ H3 ∧ RepL C.K C.a Hs2 accD acc ∧ acc.length ≤ i + 1 ∧
      lcL g mt me (wipeE ρ vs) (items.drop (i + 1)) (fun ys => q (accD ++ ys)) qe, fun H' h' => ⟨items.length - (i + 1), by omega, rfl, hlt, h'⟩, fun x H' hy => ?_⟩
    obtain ⟨Hs3, g3, r3, px⟩ := wk.yld i Hs2 ρ σ _ _ x H' g2.s bU rU hd hy
    have rw3 : RS C Hs3 (wipeE ρ vs) (L2.wipe σ vs) H' := r3.wipe vs
    -- the list L is no longer known to H': taken out of it
    refine hg.run Hs3 _ _ H' _ _ _ _ rw3 px w2 fun ρ4 σ4 w4 r4 e4 => ⟨?_, ?_⟩
    · rw [e4 vs hS]
      have ww : ∀ us : List Nat, (∀ i ∈ us, i ∈ vs) → L2.wipe (L2.wipe σ us) vs = L2.wipe σ vs := by
        intro us
        induction us with
        | nil => intro _; rfl
        | cons u us ih =>
          intro hu
          show L2.wipe ((L2.wipe σ us).set u none) vs = _
          rw [wipe_set_in (hu u (List.mem_cons_self ..))]
          exact ih fun i hi => hu i (List.mem_cons_of_mem _ hi)
      exact ww vs fun _ h => h
    · refine ht.run Hs3 ρ4 σ4 H' _ qe _ l r4 w4 fun b Hs5 H5 w5 g5 r5 => ?_
      -- what H' and its like say at L
      have atL : ∀ {Hs6 H6 : Hp} {ρ6 : List En} {σ6 : L2.St}, Gr C.a Hs2 (upd H3 L (.lst acc)) Hs6 H6 → RS C Hs6 ρ6 σ6 H6 → H6 L = some (.lst acc) ∧ ∃ H7, H6 = upd H7 L (.lst acc) ∧ H7 L = none ∧ Gr C.a Hs1 H1 Hs6 H7 ∧ RS C Hs6 ρ σ H7 := fun {Hs6 H6 ρ6 σ6} g6 r6 => by
        have na : C.a.p ≠ some L := r1.fresh_a hL
        have eL : H6 L = some (.lst acc) := g6.b.k _ _ na upd_same fun _ z => by cases z
        have nLs : Hs6 L = none := by
          cases z : Hs6 L with
          | none => rfl
          | some o =>
            rcases g6.n L o z with y | ⟨y, _⟩
            · rw [r2.fresh_s hL3] at y
              cases y
            · exact (y.not upd_same fun _ z => by cases z).elim
        refine ⟨eL, fun b => if b = L then none else H6 b, ?_, ?_, ?_, ?_⟩
        · funext b
          by_cases z : b = L
          · subst z
            rw [upd_same, eL]
          · rw [upd_ne z]
            show _ = if b = L then none else H6 b
            rw [if_neg z]
        · show (if L = L then none else H6 L) = none
          rw [if_pos rfl]
        · refine ⟨g2.s.trans g6.s, ⟨fun b o nb hb ho => ?_, fun h => tabs_out eL ⟨fun _ z => (by cases z), fun _ z => (by cases z)⟩ (g6.b.t ((SB.of (same_upd hL3)).t (g2.b.t h)))⟩, fun b o hb => ?_⟩
          · have z : b ≠ L := ne_of_none hb hL
            show (if b = L then none else H6 b) = some o
            rw [if_neg z]
            refine g6.b.k _ _ nb ?_ ho
            rw [upd_ne z]
            exact g2.b.k _ _ nb hb ho
          · rcases g6.n b o hb with y | ⟨y, n⟩
            · exact g2.n b o y
            · have z : b ≠ L := fun q => by
                rw [q] at y
                exact y.not upd_same fun _ z => by cases z
              exact .inr ⟨g2.b.free n (fun o' h' => y o' (by rw [upd_ne z]; exact h')), n⟩
        · refine r2.grow ⟨g6.s, ⟨fun b o nb hb ho => ?_, fun h => tabs_out eL ⟨fun _ z => (by cases z), fun _ z => (by cases z)⟩ (g6.b.t ((SB.of (same_upd hL3)).t h))⟩, fun b o hb => ?_⟩ (fun b o hb => ?_) ⟨r6.hd.nt, fun x e => ?_⟩
          · have z : b ≠ L := ne_of_none hb hL3
            show (if b = L then none else H6 b) = some o
            rw [if_neg z]
            refine g6.b.k _ _ nb ?_ ho
            rw [upd_ne z]
            exact hb
          · rcases g6.n b o hb with y | ⟨y, n⟩
            · exact .inl y
            · have z : b ≠ L := fun q => by
                rw [q] at y
                exact y.not upd_same fun _ z => by cases z
              exact .inr ⟨fun o' h' => y o' (by rw [upd_ne z]; exact h'), n⟩
          · have z : b ≠ L := fun q => by
              rw [q, nLs] at hb
              cases hb
            show (if b = L then none else H6 b) = some o
            rw [if_neg z]
            exact r6.sh _ _ hb
          · obtain ⟨h0, c, i1, b1, s1, n1, cells, h1, h2, h3⟩ := r6.hd.at_ x e
            refine ⟨h0, c, i1, b1, s1, n1, cells, ?_, h2, h3⟩
            have z : x ≠ L := fun q => by
              rw [q] at e
              exact na e
            show (if x = L then none else H6 x) = _
            rw [if_neg z]
            exact h1
      cases b with
      | false =>
        show ∃ _, _
        obtain ⟨_, H7, e7, h7, g7, r7⟩ := atL (g3.trans g5) r5
        exact ⟨Hs5, H7, acc, accD, e7, h7, g7, r7, rl.mono (g3.s.trans g5.s), Nat.le_succ_of_le hacc, w5⟩
      | true =>
        refine he.run Hs5 ρ4 σ4 H5 _ qe _ l r5 w5 fun y vy Hs6 H6 w6 g6 r6 p6 => ?_
        obtain ⟨eL, H7, e7, h7, g7, r7⟩ := atL (g3.trans (g5.trans g6)) r6
        refine ⟨acc, eL, by omega, Hs6, H7, acc ++ [vy], accD ++ [y], ?_, h7, g7, r7, (rl.mono (g3.s.trans (g5.s.trans g6.s))).append (.cons p6 .nil), ?_, ?_⟩
        · rw [e7, upd_upd]
        · rw [List.length_append, List.length_singleton]
          omega
        · have e : (fun ys => q (accD ++ [y] ++ ys)) = fun ys => q (accD ++ y :: ys) := by
            funext ys
            rw [List.append_assoc]
            rfl
          rw [e]
          exact w6
  · refine .inl ⟨wk.stop i Hs2 ρ σ _ g2.s bU rU (by omega), ?_⟩
    have e : items.drop i = [] := List.drop_eq_nil_of_le (by omega)
    rw [e] at w2
    have w3 : q (accD ++ []) := w2
    rw [List.append_nil] at w3
    exact k accD L acc Hs2 H3 w3 (g1.trans g2) r2 hL3 rl
end
end Fd
namespace Fd
open PySem PySem.Spec L2
section
variable {C : Ctx}

/-! ### slots that own a list, a dict -/
theorem RS.at_own {Hs H : Hp} {ρ : List En} {σ : L2.St} (r : RS C Hs ρ σ H) {i : Nat} {e0 : En} {p : Addr} (h0 : ρ[i]? = some e0) (o0 : e0.own = true) (s0 : σ[i]? = some (some (.ref p))) :
    ∃ o, H p = some o ∧ PlainO o ∧ (∀ x, o ≠ .own x) ∧ (∀ x, o ≠ .xd x) ∧ Fre C.H0 p := by
  have q0 := r.en i e0 h0
  rw [s0] at q0
  have pl : ∀ {o : HO}, H p = some o → Fre C.H0 p → (∀ ps, o ≠ .tbl ps) → (∀ f, o ≠ .ext f) → (∀ x, o ≠ .own x) → (∀ x, o ≠ .xd x) → ∃ o, H p = some o ∧ PlainO o ∧ (∀ x, o ≠ .own x) ∧ (∀ x, o ≠ .xd x) ∧ Fre C.H0 p := fun {o} h f a b c d => ⟨o, h, ⟨a, b⟩, c, d, f⟩
  cases e0 with
  | no => cases o0
  | sh d => cases o0
  | rl d => cases o0
  | rd d => cases o0
  | xc x p cls d => cases o0
  | clo p => cases o0
  | ol ds => obtain ⟨p', vs, ev, h1, _, h3, _⟩ := q0; cases ev; exact pl h1 h3 (fun _ z => by cases z) (fun _ z => by cases z) (fun _ z => by cases z) (fun _ z => by cases z)
  | od ds => obtain ⟨p', vs, ev, h1, _, h3, _⟩ := q0; cases ev; exact pl h1 h3 (fun _ z => by cases z) (fun _ z => by cases z) (fun _ z => by cases z) (fun _ z => by cases z)
  | odl p' ob vs ds => obtain ⟨ev, h1, _, h3, _⟩ := q0; cases ev; exact pl h1 h3 (fun _ z => by cases z) (fun _ z => by cases z) (fun _ z => by cases z) (fun _ z => by cases z)
  | oh p' ds => obtain ⟨vs, ev, h1, _, h3, _⟩ := q0; cases ev; exact pl h1 h3 (fun _ z => by cases z) (fun _ z => by cases z) (fun _ z => by cases z) (fun _ z => by cases z)
  | oo c p' dx fs => obtain ⟨vs, ev, h1, _, _, h3, _⟩ := q0; cases ev; exact pl h1 h3 (fun _ z => by cases z) (fun _ z => by cases z) (fun _ z => by cases z) (fun _ z => by cases z)
theorem RS.other {Hs H : Hp} {ρ : List En} {σ : L2.St} (r : RS C Hs ρ σ H) {i : Nat} {e0 : En} {p : Addr} (h0 : ρ[i]? = some e0) (o0 : e0.own = true) (s0 : σ[i]? = some (some (.ref p)))
    {j : Nat} {e : En} (hj : j ≠ i) (he : ρ[j]? = some e) (Hs' H' : Hp) (s : Same Hs Hs') (hn : ∀ b, b ≠ p → Hs b = none → Hs' b = none) (hm : ∀ b o, b ≠ p → H b = some o → H' b = some o) : EnOk C Hs' H' e (σ[j]?) := by
  have q := r.en j e he
  obtain ⟨o1, hp1, _, no1, nx1, f1⟩ := r.at_own h0 o0 s0
  have nown : ∀ x, H p ≠ some (.own x) := fun x z => no1 x (Option.some.inj (hp1.symm.trans z))
  have nxd : ∀ x, H p ≠ some (.xd x) := fun x z => nx1 x (Option.some.inj (hp1.symm.trans z))
  cases e with
  | no => trivial
  | sh d =>
    obtain ⟨v, ev, rp⟩ := q
    exact ⟨v, ev, rp.mono s⟩
  | ol ds =>
    obtain ⟨p', vs, ev, h1, h2, h3, h4, h5⟩ := q
    have ne : p' ≠ p := fun z => by
      subst z
      exact r.sep j i p' _ _ hj he h0 rfl o0 ev s0
    exact ⟨p', vs, ev, hm _ _ ne h1, h2.mono s, h3, hn _ ne h4, h5⟩
  | od ds =>
    obtain ⟨p', vs, ev, h1, h2, h3, h4, h5⟩ := q
    have ne : p' ≠ p := fun z => by
      subst z
      exact r.sep j i p' _ _ hj he h0 rfl o0 ev s0
    exact ⟨p', vs, ev, hm _ _ ne h1, h2.mono s, h3, hn _ ne h4, h5⟩
  | odl p' ob vs ds =>
    obtain ⟨ev, h1, h2, h3, h4, h5⟩ := q
    have ne : p' ≠ p := fun z => by
      subst z
      exact r.sep j i p' _ _ hj he h0 rfl o0 ev s0
    exact ⟨ev, hm _ _ ne h1, h2.mono s, h3, hn _ ne h4, h5⟩
  | oh p' ds =>
    obtain ⟨vs, ev, h1, h2, h3, h4, h5⟩ := q
    have ne : p' ≠ p := fun z => by
      subst z
      exact r.sep j i p' _ _ hj he h0 rfl o0 ev s0
    exact ⟨vs, ev, hm _ _ ne h1, h2.mono s, h3, hn _ ne h4, h5⟩
  | oo c p' dx fs =>
    obtain ⟨vs, ev, h1, hd, h2, h3, h4, h5, h6, h7⟩ := q
    have ne : p' ≠ p := fun z => by
      subst z
      exact r.sep j i p' _ _ hj he h0 rfl o0 ev s0
    have ne2 : dx ≠ p := fun z => by
      subst z
      exact nown _ hd
    exact ⟨vs, ev, hm _ _ ne h1, hm _ _ ne2 hd, h2.mono s, h3, hn _ ne h4, h5, hn _ ne2 h6, h7⟩
  | rl ds =>
    obtain ⟨p', vs, ev, h1, h2, h5, h6⟩ := q
    have ne : p' ≠ p := fun z => by
      subst z
      exact h6 f1
    exact ⟨p', vs, ev, hm _ _ ne h1, h2.mono s, h5, h6⟩
  | rd ds =>
    obtain ⟨p', vs, ev, h1, h2, h5, h6⟩ := q
    have ne : p' ≠ p := fun z => by
      subst z
      exact h6 f1
    exact ⟨p', vs, ev, hm _ _ ne h1, h2.mono s, h5, h6⟩
  | clo p' => exact q
  | xc x p' cls d =>
    obtain ⟨ev, ec, dx, vs, ed, h1, h2, h5⟩ := q
    have ne : dx ≠ p := fun z => by
      subst z
      exact nxd _ h1
    exact ⟨ev, ec, dx, vs, ed, hm _ _ ne h1, h2.mono s, h5⟩
/-- the own object changes (o: what then stands there; e: what the slot then says) -/
theorem RS.change {Hs H : Hp} {ρ : List En} {σ : L2.St} (r : RS C Hs ρ σ H) {i : Nat} {e0 e : En} {p : Addr} {o : HO} (h0 : ρ[i]? = some e0) (o0 : e0.own = true) (s0 : σ[i]? = some (some (.ref p)))
    (f0 : Fre C.H0 p) (fs : Hs p = none) (fa : C.a.p ≠ some p) (he : EnOk C Hs (upd H p o) e (some (some (.ref p)))) : RS C Hs (ρ.set i e) σ (upd H p o) where
  len := by rw [List.length_set, r.len]
  fr := ⟨fun b u n h hu => by
    have z : b ≠ p := fun q => by
      rw [q] at h
      exact f0.not h hu
    rw [upd_ne z]
    exact r.fr.k b u n h hu, fun h => by
    obtain ⟨o1, h1, h2, _⟩ := r.at_own h0 o0 s0
    exact tabs_upd h1 h2 (r.fr.t h)⟩
  sh := fun b u h => by
    have z : b ≠ p := fun q => by
      rw [q, fs] at h
      cases h
    rw [upd_ne z]
    exact r.sh b u h
  sh0 := r.sh0
  new := r.new
  hd := ⟨r.hd.nt, fun x e => by
    obtain ⟨a1, c, i1, b1, s1, n1, cells, a2, a3, a4⟩ := r.hd.at_ x e
    refine ⟨a1, c, i1, b1, s1, n1, cells, ?_, a3, a4⟩
    rw [upd_ne fun q => fa (by rw [← q]; exact e)]
    exact a2⟩
  hd0 := r.hd0
  en := fun j e' hj => by
    by_cases z : i = j
    · subst z
      have hl : i < ρ.length := (List.getElem?_eq_some_iff.mp h0).1
      rw [List.getElem?_set_self hl] at hj
      cases hj
      rw [s0]
      exact he
    · rw [List.getElem?_set_ne z] at hj
      exact r.other h0 o0 s0 (Ne.symm z) hj Hs _ (Same.refl _) (fun _ _ h => h) fun b u n h => by
        rw [upd_ne n]
        exact h
  sep := fun j k q e1 e2 hjk h1 h2 o1 o2 s1 s2 => by
    have hl : i < ρ.length := (List.getElem?_eq_some_iff.mp h0).1
    by_cases z : i = j
    · subst z
      have y : i ≠ k := hjk
      rw [List.getElem?_set_ne y] at h2
      exact r.sep i k q e0 e2 hjk h0 h2 o0 o2 s1 s2
    · by_cases y : i = k
      · subst y
        rw [List.getElem?_set_ne z] at h1
        exact r.sep j i q e1 e0 hjk h1 h0 o1 o0 s1 s2
      · rw [List.getElem?_set_ne z] at h1
        rw [List.getElem?_set_ne y] at h2
        exact r.sep j k q e1 e2 hjk h1 h2 o1 o2 s1 s2
theorem lt_own {Hs H : Hp} {ρ : List En} {σ : L2.St} (r : RS C Hs ρ σ H) {i : Nat} {e0 : En} {p : Addr} (h0 : ρ[i]? = some e0) (o0 : e0.own = true) (s0 : σ[i]? = some (some (.ref p))) : Fre C.H0 p ∧ Hs p = none ∧ C.a.p ≠ some p := by
  have q := r.en i e0 h0
  cases e0 with
  | no => cases o0
  | sh d => cases o0
  | ol ds =>
    obtain ⟨p', vs, ev, h1, h2, h3, h4, h5⟩ := q
    rw [s0] at ev
    cases ev
    exact ⟨h3, h4, h5⟩
  | od ds =>
    obtain ⟨p', vs, ev, h1, h2, h3, h4, h5⟩ := q
    rw [s0] at ev
    cases ev
    exact ⟨h3, h4, h5⟩
  | odl p' ob vs ds =>
    obtain ⟨ev, h1, h2, h3, h4, h5⟩ := q
    rw [s0] at ev
    cases ev
    exact ⟨h3, h4, h5⟩
  | oh p' ds =>
    obtain ⟨vs, ev, h1, h2, h3, h4, h5⟩ := q
    rw [s0] at ev
    cases ev
    exact ⟨h3, h4, h5⟩
  | oo c p' dx fs =>
    obtain ⟨vs, ev, h1, hd, h2, h3, h4, h5, h6, h7⟩ := q
    rw [s0] at ev
    cases ev
    exact ⟨h3, h4, h5⟩
  | rl d => cases o0
  | rd d => cases o0
  | xc x p cls d => cases o0
  | clo p => cases o0
/-- from now on the object at p stands still -/
theorem RS.still {Hs H : Hp} {ρ : List En} {σ : L2.St} (r : RS C Hs ρ σ H) {i : Nat} {e0 : En} {p : Addr} {d : D} {o : HO} (h0 : ρ[i]? = some e0) (o0 : e0.own = true) (s0 : σ[i]? = some (some (.ref p)))
    (hp : H p = some o) (hd : Rep C.K C.a (upd Hs p o) d (.ref p)) : Same Hs (upd Hs p o) ∧ RS C (upd Hs p o) (ρ.set i (.sh d)) σ H := by
  obtain ⟨f0, fs, fa⟩ := lt_own r h0 o0 s0
  have s := same_upd (o := o) fs
  refine ⟨s, ⟨by rw [List.length_set, r.len], r.fr, fun b u h => ?_, r.sh0.trans s, fun b u h => ?_, ⟨nt_upd r.hd.nt (by obtain ⟨o1, g1, g2, _⟩ := r.at_own h0 o0 s0; rw [hp] at g1; cases g1; exact g2.1), fun x e => ?_⟩, r.hd0, fun j e' hj => ?_, fun j k q e1 e2 hjk h1 h2 o1 o2 s1 s2 => ?_⟩⟩
  · by_cases z : b = p
    · subst z
      rw [upd_same] at h
      cases h
      exact hp
    · rw [upd_ne z] at h
      exact r.sh b u h
  · by_cases z : b = p
    · subst z
      exact .inr f0
    · rw [upd_ne z] at h
      exact r.new b u h
  · obtain ⟨a1, c, i1, b1, s1, n1, cells, a2, a3, a4⟩ := r.hd.at_ x e
    refine ⟨?_, c, i1, b1, s1, n1, cells, a2, s _ _ a3, a4⟩
    rw [upd_ne fun q => fa (by rw [← q]; exact e)]
    exact a1
  · have hl : i < ρ.length := (List.getElem?_eq_some_iff.mp h0).1
    by_cases z : i = j
    · subst z
      rw [List.getElem?_set_self hl] at hj
      cases hj
      exact ⟨_, s0, hd⟩
    · rw [List.getElem?_set_ne z] at hj
      exact r.other h0 o0 s0 (Ne.symm z) hj _ H s (fun b n h => by rw [upd_ne n]; exact h) fun b u n h => h
  · have hl : i < ρ.length := (List.getElem?_eq_some_iff.mp h0).1
    by_cases z : i = j
    · subst z
      rw [List.getElem?_set_self hl] at h1
      cases h1
      cases o1
    · by_cases y : i = k
      · subst y
        rw [List.getElem?_set_self hl] at h2
        cases h2
        cases o2
      · rw [List.getElem?_set_ne z] at h1
        rw [List.getElem?_set_ne y] at h2
        exact r.sep j k q e1 e2 hjk h1 h2 o1 o2 s1 s2
/-- a new object that a slot owns -/
theorem RS.take {Hs H : Hp} {ρ : List En} {σ : L2.St} (r : RS C Hs ρ σ H) {i : Nat} {e : En} {p : Addr} {o : HO} (hp : H p = none) (he : EnOk C Hs (upd H p o) e (some (some (.ref p)))) :
    RS C Hs (ρ.set i e) (σ.set i (some (.ref p))) (upd H p o) := by
  have r1 := r.side (o := o) hp
  have np : ∀ (j : Nat) (e' : En), ρ[j]? = some e' → e'.own = true → σ[j]? ≠ some (some (.ref p)) := fun j e' hj oj sj => by
    have q := r.en j e' hj
    cases e' with
    | rl d => cases oj
    | rd d => cases oj
    | xc x p cls d => cases oj
    | clo p => cases oj
    | no => cases oj
    | sh d => cases oj
    | ol ds =>
      obtain ⟨p', vs, ev, h1, _⟩ := q
      rw [sj] at ev
      cases ev
      rw [hp] at h1
      cases h1
    | od ds =>
      obtain ⟨p', vs, ev, h1, _⟩ := q
      rw [sj] at ev
      cases ev
      rw [hp] at h1
      cases h1
    | odl p' ob vs ds =>
      obtain ⟨ev, h1, _⟩ := q
      rw [sj] at ev
      cases ev
      rw [hp] at h1
      cases h1
    | oh p' ds =>
      obtain ⟨vs, ev, h1, _⟩ := q
      rw [sj] at ev
      cases ev
      rw [hp] at h1
      cases h1
    | oo c p' dx fs =>
      obtain ⟨vs, ev, h1, _⟩ := q
      rw [sj] at ev
      cases ev
      rw [hp] at h1
      cases h1
  refine ⟨by rw [List.length_set, List.length_set, r.len], r1.fr, r1.sh, r1.sh0, r1.new, r1.hd, r1.hd0, fun j e' hj => ?_, fun j k q e1 e2 hjk h1 h2 o1 o2 s1 s2 => ?_⟩
  · by_cases z : i = j
    · subst z
      have hl : i < ρ.length := by
        have q := (List.getElem?_eq_some_iff.mp hj).1
        rwa [List.length_set] at q
      rw [List.getElem?_set_self hl] at hj
      cases hj
      rw [List.getElem?_set_self (by rw [← r.len]; exact hl)]
      exact he
    · rw [List.getElem?_set_ne z] at hj ⊢
      exact r1.en j e' hj
  · by_cases z : i = j
    · subst z
      have y : i ≠ k := hjk
      have hl : i < ρ.length := by
        have q := (List.getElem?_eq_some_iff.mp h1).1
        rwa [List.length_set] at q
      rw [List.getElem?_set_self (by rw [← r.len]; exact hl)] at s1
      cases s1
      rw [List.getElem?_set_ne y] at h2 s2
      exact np k e2 h2 o2 s2
    · by_cases y : i = k
      · subst y
        have hl : i < ρ.length := by
          have q := (List.getElem?_eq_some_iff.mp h2).1
          rwa [List.length_set] at q
        rw [List.getElem?_set_self (by rw [← r.len]; exact hl)] at s2
        cases s2
        rw [List.getElem?_set_ne z] at h1 s1
        exact np j e1 h1 o1 s1
      · rw [List.getElem?_set_ne z] at h1 s1
        rw [List.getElem?_set_ne y] at h2 s2
        exact r.sep j k q e1 e2 hjk h1 h2 o1 o2 s1 s2

/-! ### blocks, small statements -/
def sNext : MS := fun ρ sq _ => sq.nx ρ
def sSeq (f g : MS) : MS := fun ρ sq qe => f ρ { sq with nx := fun ρ' => g ρ' sq qe } qe
theorem ds_next : DS C tNext sNext := ⟨fun Hs ρ σ H sq qe E l r w k => k.nx ρ σ Hs H w (Same.refl _) r⟩
theorem ds_seq {t u : TS} {f g : MS} (h1 : DS C t f) (h2 : DS C u g) : DS C (tSeq t u) (sSeq f g) := by
  refine ⟨fun Hs ρ σ H sq qe E l r w k => ?_⟩
  exact h1.run Hs ρ σ H _ qe _ l r w ⟨fun ρ' σ' Hs' H' w' s r' => h2.run Hs' ρ' σ' H' sq qe E l r' w' (k.mono s), k.rt, k.bk, k.ct⟩
def sNever : MS := fun _ _ _ => False
theorem ds_never : DS C tNever sNever := ⟨fun Hs ρ σ H sq qe E l r w k => w.elim⟩
def sBreak : MS := fun ρ sq _ => sq.bk ρ
def sCont : MS := fun ρ sq _ => sq.ct ρ
theorem ds_break : DS C tBreak sBreak := ⟨fun Hs ρ σ H sq qe E l r w k => k.bk ρ σ Hs H w (Same.refl _) r⟩
theorem ds_cont : DS C tCont sCont := ⟨fun Hs ρ σ H sq qe E l r w k => k.ct ρ σ Hs H w (Same.refl _) r⟩
def sDrop (f : ME) : MS := fun ρ sq qe => f ρ (fun _ => sq.nx ρ) qe
theorem ds_drop {t : TE} {f : ME} (h : DT C t f) : DS C (tDrop t) (sDrop f) :=
  ⟨fun Hs ρ σ H sq qe E l r w k => h.run Hs ρ σ H _ qe _ l r w fun d v Hs1 H1 w1 g1 r1 p1 => k.nx ρ σ Hs1 H1 w1 g1.s r1⟩
def sRet (f : ME) : MS := fun ρ sq qe => f ρ (sq.rt ρ) qe
theorem ds_ret {t : TE} {f : ME} (h : DT C t f) : DS C (tRet t) (sRet f) :=
  ⟨fun Hs ρ σ H sq qe E l r w k => h.run Hs ρ σ H _ qe _ l r w fun d v Hs1 H1 w1 g1 r1 p1 => k.rt d v ρ σ Hs1 H1 w1 g1.s r1 p1⟩
def sRetN : MS := fun ρ sq _ => sq.rt ρ .non
theorem ds_retN : DS C tRetN sRetN := ⟨fun Hs ρ σ H sq qe E l r w k => k.rt .non .non ρ σ Hs H w (Same.refl _) r .non⟩
def sIf (c : MT) (f g : MS) : MS := fun ρ sq qe => c ρ (fun b => if b = true then f ρ sq qe else g ρ sq qe) qe
theorem ds_if {c : TT} {t u : TS} {mc : MT} {f g : MS} (hc : DTt C c mc) (h1 : DS C t f) (h2 : DS C u g) : DS C (tIfS c t u) (sIf mc f g) := by
  refine ⟨fun Hs ρ σ H sq qe E l r w k => ?_⟩
  refine hc.run Hs ρ σ H _ qe _ l r w fun b Hs1 H1 w1 g1 r1 => ?_
  cases b with
  | true => exact h1.run Hs1 ρ σ H1 sq qe E l r1 w1 (k.mono g1.s)
  | false => exact h2.run Hs1 ρ σ H1 sq qe E l r1 w1 (k.mono g1.s)
/-- target = e -/
def sAsg (f : ME) (g : MG) : MS := fun ρ sq qe => f ρ (fun d => g d ρ sq.nx) qe
theorem ds_asg {t : TE} {f : ME} {S : List Nat} {tg : TG} {g : MG} (h : DT C t f) (hg : DG C S tg g) : DS C (tAsg t tg) (sAsg f g) :=
  ⟨fun Hs ρ σ H sq qe E l r w k => h.run Hs ρ σ H _ qe _ l r w fun d v Hs1 H1 w1 g1 r1 p1 => hg.run Hs1 ρ σ H1 d v _ _ r1 p1 w1 fun ρ' σ' w' r' _ => k.nx ρ' σ' Hs1 H1 w' g1.s r'⟩
/-- x = a new list, its own -/
def sOwn (i : Nat) (f : MA) : MS := fun ρ sq qe => f ρ (fun ds => sq.nx (ρ.set i (.ol ds))) qe
theorem ds_own {i : Nat} {t : TE} {f : MA} (h : DF C t f) : DS C (tAsg t (gName i)) (sOwn i f) := by
  refine ⟨fun Hs ρ σ H sq qe E l r w k => h.run Hs ρ σ H _ qe _ l r w fun ds p vs Hs1 H1 w1 g1 r1 hp rl => ?_⟩
  exact k.nx _ _ Hs1 _ w1 g1.s (r1.take hp ⟨p, vs, rfl, upd_same, rl, r1.fresh_0 hp, r1.fresh_s hp, r1.fresh_a hp⟩)
/-- x = {}, its own -/
def sOwnD (i : Nat) : MS := fun ρ sq _ => sq.nx (ρ.set i (.od []))
theorem ds_ownD {i : Nat} : DS C (tAsg tDNewK (gName i)) (sOwnD i) := by
  refine ⟨fun Hs ρ σ H sq qe E l r w k => fun p hp => ?_⟩
  exact k.nx _ _ Hs _ w (Same.refl _) (r.take hp ⟨p, [], rfl, upd_same, .nil, r.fresh_0 hp, r.fresh_s hp, r.fresh_a hp⟩)
/-- the own list (dict) of the slot stands still from here on -/
def sStill (i : Nat) (f : MS) : MS := fun ρ sq qe => match ρ[i]? with
  | some (.ol ds) => f (ρ.set i (.sh (.lst ds))) sq qe
  | some (.od ds) => f (ρ.set i (.sh (.dct ds))) sq qe
  | _ => f ρ sq qe
theorem ds_still {i : Nat} {t : TS} {f : MS} (h : DS C t f) : DS C t (sStill i f) := by
  refine ⟨fun Hs ρ σ H sq qe E l r w k => ?_⟩
  unfold sStill at w
  split at w
  · rename_i ds e
    obtain ⟨p, vs, ev, h1, h2, h3, h4, h5⟩ := r.en i _ e
    obtain ⟨s, r'⟩ := r.still (d := .lst ds) e rfl ev h1 (.lst upd_same (h2.mono (same_upd h4)))
    exact h.run _ _ σ H sq qe E l r' w (k.mono s)
  · rename_i ds e
    obtain ⟨p, vs, ev, h1, h2, h3, h4, h5⟩ := r.en i _ e
    obtain ⟨s, r'⟩ := r.still (d := .dct ds) e rfl ev h1 (.dct upd_same (h2.mono (same_upd h4)))
    exact h.run _ _ σ H sq qe E l r' w (k.mono s)
  · exact h.run Hs ρ σ H sq qe E l r w k
/-- a, b = e1, e2 -/
def sPar (i j : Nat) (g : MA) : MS := fun ρ sq qe => g ρ (fun ds => match ds with
  | [d, e] => sq.nx ((ρ.set i (.sh d)).set j (.sh e))
  | _ => False) qe
theorem ds_par {i j : Nat} {t : TA} {g : MA} (h : DA C t g) : DS C (tPar i j t) (sPar i j g) := by
  refine ⟨fun Hs ρ σ H sq qe E l r w k => h.run Hs ρ σ H _ qe _ l r w fun ds vs Hs1 H1 w1 g1 r1 p1 => ?_⟩
  split at w1
  · cases p1 with
    | cons p q =>
      cases q with
      | cons p' q' =>
        cases q'
        exact ⟨_, _, rfl, k.nx _ _ Hs1 H1 w1 g1.s ((r1.set p).set p')⟩
  · exact w1.elim
/-- x op= e, of ints -/
def sAugI (i : Nat) (op : Int → Int → Int) (f : ME) : MS := fun ρ sq qe => match ρ[i]? with
  | some (.sh (.int x)) => f ρ (fun d => match d with
    | .int y => sq.nx (ρ.set i (.sh (.int (op x y))))
    | _ => False) qe
  | _ => False
theorem ds_augI {i : Nat} {op : Int → Int → Int} {t : TE} {f : ME} (h : DT C t f) : DS C (tAug i t (ipI op)) (sAugI i op f) := by
  refine ⟨fun Hs ρ σ H sq qe E l r w k => ?_⟩
  unfold sAugI at w
  split at w
  · rename_i x e
    obtain ⟨v, ev, rp⟩ := r.en i _ e
    cases rp
    refine ⟨_, ev, h.run Hs ρ σ H _ qe _ l r w fun d v Hs1 H1 w1 g1 r1 p1 => ?_⟩
    split at w1
    · cases p1
      exact ⟨_, _, rfl, rfl, k.nx _ _ Hs1 H1 w1 g1.s (r1.set (.int _))⟩
    · exact w1.elim
  · exact w.elim

/-! ### an own list changes -/
/-- x.append(e) -/
def sApp (i : Nat) (f : ME) : MS := fun ρ sq qe => match ρ[i]? with
  | some (.ol ds) => f ρ (fun d => ds.length < sizeLine ∧ sq.nx (ρ.set i (.ol (ds ++ [d])))) qe
  | _ => False
theorem ds_app {i : Nat} {t : TE} {f : ME} (h : DT C t f) : DS C (tDrop (tBM C.K "list" rAppend (tVar i) (tCons t tNil))) (sApp i f) := by
  refine ⟨fun Hs ρ σ H sq qe E l r w k => ?_⟩
  unfold sApp at w
  split at w
  · rename_i ds e
    obtain ⟨p, vs, ev, h1, h2, h3, h4, h5⟩ := r.en i _ e
    refine ⟨_, ev, .inl ⟨rfl, _, SqL.of h1⟩, h.run Hs ρ σ H _ qe _ l r w fun d v Hs1 H1 w1 g1 r1 p1 => ?_⟩
    obtain ⟨p', vs', ev', h1', h2', h3', h4', h5'⟩ := r1.en i _ e
    rw [ev] at ev'
    cases ev'
    refine ⟨p, vs', v, rfl, rfl, h1', by rw [← h2'.length]; exact w1.1, ?_⟩
    exact k.nx _ _ Hs1 _ w1.2 g1.s (r1.change e rfl ev h3' h4' h5' ⟨p, _, rfl, upd_same, h2'.append (.cons p1 .nil), h3', h4', h5'⟩)
  · exact w.elim
/-- x.extend(e) -/
def sExt (i : Nat) (f : ME) : MS := fun ρ sq qe => match ρ[i]? with
  | some (.ol ds) => f ρ (fun d => match d with
    | .lst es => ds.length + es.length ≤ sizeLine ∧ sq.nx (ρ.set i (.ol (ds ++ es)))
    | _ => False) qe
  | _ => False
theorem ds_ext {i : Nat} {t : TE} {f : ME} (h : DB C t f) : DS C (tDrop (tBM C.K "list" rExtend (tVar i) (tCons t tNil))) (sExt i f) := by
  refine ⟨fun Hs ρ σ H sq qe E l r w k => ?_⟩
  unfold sExt at w
  split at w
  · rename_i ds e
    obtain ⟨p, vs, ev, h1, h2, h3, h4, h5⟩ := r.en i _ e
    refine ⟨_, ev, .inl ⟨rfl, _, SqL.of h1⟩, h.run Hs ρ σ H _ qe _ l r w fun d v Hs1 H1 w1 g1 r1 p1 => ?_⟩
    split at w1
    · obtain ⟨b, us, rfl, b1, b2⟩ := p1.lst r1.sh
      obtain ⟨p', vs', ev', h1', h2', h3', h4', h5'⟩ := r1.en i _ e
      rw [ev] at ev'
      cases ev'
      refine ⟨p, b, vs', us, rfl, rfl, h1', b1, by rw [← h2'.length, ← b2.length]; exact w1.1, ?_⟩
      exact k.nx _ _ Hs1 _ w1.2 g1.s (r1.change e rfl ev h3' h4' h5' ⟨p, _, rfl, upd_same, h2'.append b2, h3', h4', h5'⟩)
    · exact w1.elim
  · exact w.elim
/-- x.remove(e), of ints -/
def sRem (i : Nat) (f : ME) : MS := fun ρ sq qe => match ρ[i]? with
  | some (.ol ds) => f ρ (fun d => match d, D.ints ds with
    | .int k, some ns => k ∈ ns ∧ sq.nx (ρ.set i (.ol ((ns.erase k).map .int)))
    | _, _ => False) qe
  | _ => False
theorem erase_at : ∀ {ns : List Int} {k : Int}, k ∈ ns → ∃ j : Nat, ns[j]? = some k ∧ (∀ m : Nat, m < j → ns[m]? ≠ some k) ∧ ns.erase k = ns.eraseIdx j
  | [], _, h => by cases h
  | n :: ns, k, h => by
    by_cases e : n = k
    · subst e
      exact ⟨0, rfl, fun m hm => absurd hm (Nat.not_lt_zero _), by rw [List.erase_cons_head]; rfl⟩
    · have h2 : k ∈ ns := by
        rcases List.mem_cons.mp h with h | h
        · exact absurd h.symm e
        · exact h
      obtain ⟨j, h3, h4, h5⟩ := erase_at h2
      refine ⟨j + 1, by simpa using h3, fun m hm q => ?_, ?_⟩
      · cases m with
        | zero => exact e (Option.some.inj q)
        | succ m => exact h4 m (Nat.lt_of_succ_lt_succ hm) (by simpa using q)
      · rw [List.erase_cons_tail (by simpa using e), h5]
        rfl
theorem ds_rem {i : Nat} {t : TE} {f : ME} (h : DT C t f) : DS C (tDrop (tBM C.K "list" rRemI (tVar i) (tCons t tNil))) (sRem i f) := by
  refine ⟨fun Hs ρ σ H sq qe E l r w k => ?_⟩
  unfold sRem at w
  split at w
  · rename_i ds e
    obtain ⟨p, vs, ev, h1, h2, h3, h4, h5⟩ := r.en i _ e
    refine ⟨_, ev, .inl ⟨rfl, _, SqL.of h1⟩, h.run Hs ρ σ H _ qe _ l r w fun d v Hs1 H1 w1 g1 r1 p1 => ?_⟩
    split at w1
    · rename_i kk ns en
      cases p1
      obtain ⟨p', vs', ev', h1', h2', h3', h4', h5'⟩ := r1.en i _ e
      rw [ev] at ev'
      cases ev'
      have e2 := ints_eq en
      subst e2
      obtain rfl := h2'.ints
      obtain ⟨j, j1, j2, j3⟩ := erase_at w1.1
      refine ⟨p, ns, kk, j, rfl, rfl, h1', j1, j2, ?_⟩
      have w2 := w1.2
      rw [j3] at w2
      exact k.nx _ _ Hs1 _ w2 g1.s (r1.change e rfl ev h3' h4' h5' ⟨p, _, rfl, upd_same, RepL.ofInts _, h3', h4', h5'⟩)
    · exact w1.elim
  · exact w.elim
/-- x[j] = e -/
def sSetI (i : Nat) (fj fe : ME) : MS := fun ρ sq qe => fe ρ (fun d => match ρ[i]? with
  | some (.ol ds) => fj ρ (fun j => match j with
    | .int j => (match ixN ds.length j with
      | some n => sq.nx (ρ.set i (.ol (ds.set n d)))
      | none => False)
    | _ => False) qe
  | _ => False) qe
theorem ds_setI {i : Nat} {tj te : TE} {fj fe : ME} (hj : DT C tj fj) (he : DT C te fe) : DS C (tAsg te (gSub (tVar i) tj rSetL)) (sSetI i fj fe) := by
  refine ⟨fun Hs ρ σ H sq qe E l r w k => he.run Hs ρ σ H _ qe _ l r w fun d v Hs1 H1 w1 g1 r1 p1 => ?_⟩
  split at w1
  · rename_i ds e
    obtain ⟨p, vs, ev, h1, h2, h3, h4, h5⟩ := r1.en i _ e
    refine ⟨_, ev, hj.run Hs1 ρ σ H1 _ qe _ l r1 w1 fun j vj Hs2 H2 w2 g2 r2 p2 => ?_⟩
    split at w2
    · split at w2
      · rename_i n en
        cases p2
        obtain ⟨p', vs', ev', h1', h2', h3', h4', h5'⟩ := r2.en i _ e
        rw [ev] at ev'
        cases ev'
        refine ⟨p, vs', _, n, rfl, rfl, h1', by rw [← h2'.length]; exact en, ?_⟩
        exact k.nx _ _ Hs2 _ w2 (g1.s.trans g2.s) (r2.change e rfl ev h3' h4' h5' ⟨p, _, rfl, upd_same, RepL.set (p1.mono g2.s) n h2', h3', h4', h5'⟩)
      · exact w2.elim
    · exact w2.elim
  · exact w1.elim
/-- y = x.pop(e) -/
def sPopI (j i : Nat) (f : ME) : MS := fun ρ sq qe => match ρ[i]? with
  | some (.ol ds) => f ρ (fun d => match d with
    | .int n => (-(2 ^ 63) ≤ n ∧ n < 2 ^ 63) ∧ (match seqIndex? n ds.length with
      | some m => (match ds[m]? with
        | some x => sq.nx ((ρ.set i (.ol (ds.eraseIdx m))).set j (.sh x))
        | none => False)
      | none => False)
    | _ => False) qe
  | _ => False
theorem ds_popI {j i : Nat} {t : TE} {f : ME} (h : DT C t f) : DS C (tAsg (tBM C.K "list" rPopAt (tVar i) (tCons t tNil)) (gName j)) (sPopI j i f) := by
  refine ⟨fun Hs ρ σ H sq qe E l r w k => ?_⟩
  unfold sPopI at w
  split at w
  · rename_i ds e
    obtain ⟨p, vs, ev, h1, h2, h3, h4, h5⟩ := r.en i _ e
    refine ⟨_, ev, .inl ⟨rfl, _, SqL.of h1⟩, h.run Hs ρ σ H _ qe _ l r w fun d v Hs1 H1 w1 g1 r1 p1 => ?_⟩
    split at w1
    · obtain ⟨⟨a1, a2⟩, w1⟩ := w1
      split at w1
      · rename_i m em
        split at w1
        · rename_i x ex
          cases p1
          obtain ⟨p', vs', ev', h1', h2', h3', h4', h5'⟩ := r1.en i _ e
          rw [ev] at ev'
          cases ev'
          obtain ⟨v, hv, rv⟩ := h2'.getD ex
          refine ⟨p, vs', _, m, v, rfl, rfl, h1', a1, a2, by rw [← h2'.length]; exact em, hv, ?_⟩
          exact k.nx _ _ Hs1 _ w1 g1.s ((r1.change (e := .ol (ds.eraseIdx m)) (o := .lst (vs'.eraseIdx m)) e rfl ev h3' h4' h5' ⟨p, _, rfl, upd_same, h2'.eraseIdx m, h3', h4', h5'⟩).set rv)
        · exact w1.elim
      · exact w1.elim
    · exact w1.elim
  · exact w.elim
/-- y = x.pop() -/
def sPop (j i : Nat) : MS := fun ρ sq _ => match ρ[i]? with
  | some (.ol ds) => (match ds[ds.length - 1]? with
    | some x => sq.nx ((ρ.set i (.ol ds.dropLast)).set j (.sh x))
    | none => False)
  | _ => False
theorem ds_pop {j i : Nat} : DS C (tAsg (tBM0 C.K "list" rPop (tVar i)) (gName j)) (sPop j i) := by
  refine ⟨fun Hs ρ σ H sq qe E l r w k => ?_⟩
  unfold sPop at w
  split at w
  · rename_i ds e
    obtain ⟨p, vs, ev, h1, h2, h3, h4, h5⟩ := r.en i _ e
    split at w
    · rename_i x ex
      obtain ⟨v, hv, rv⟩ := h2.getD ex
      rw [h2.length] at hv
      refine ⟨_, ev, .inl ⟨rfl, _, SqL.of h1⟩, p, vs, v, rfl, rfl, h1, hv, ?_⟩
      exact k.nx _ _ Hs _ w (Same.refl _) ((r.change (e := .ol ds.dropLast) (o := .lst vs.dropLast) e rfl ev h3 h4 h5 ⟨p, _, rfl, upd_same, h2.dropLast, h3, h4, h5⟩).set rv)
    · exact w.elim
  · exact w.elim

/-! ### for, while -/
def forL (g : MG) (body : MS) : List D → List En → SQ → QE → Prop
  | [], ρ, sq, _ => sq.nx ρ
  | d :: ds, ρ, sq, qe => g d ρ fun ρ1 => body ρ1 { nx := fun ρ2 => forL g body ds ρ2 sq qe, rt := sq.rt, bk := sq.nx, ct := fun ρ2 => forL g body ds ρ2 sq qe } qe
def sFor (f : MA) (g : MG) (body : MS) : MS := fun ρ sq qe => f ρ (fun items => forL g body items ρ sq qe) qe
theorem ds_for {wi : TI} {tg : TG} {tb : TS} {f : MA} {S : List Nat} {g : MG} {body : MS} (hi : DI C wi f) (hg : DG C S tg g) (hb : DS C tb body) : DS C (tFor wi tg tb) (sFor f g body) := by
  refine ⟨fun Hs ρ σ H sq qe E l r w k => ?_⟩
  refine hi.run Hs ρ σ H _ qe _ l r w fun items J Hs1 H1 w1 g1 r1 wk => ?_
  refine ⟨fun i m σ2 H2 => m = items.length - i ∧ i ≤ items.length ∧ ∃ Hs2 ρ2, Same Hs1 Hs2 ∧ RS C Hs2 ρ2 σ2 H2 ∧ forL g body (items.drop i) ρ2 sq qe, ⟨items.length, by simp, Nat.zero_le _, Hs1, ρ, Same.refl _, r1, w1⟩, ?_⟩
  rintro i m σ2 H2 ⟨rfl, hle, Hs2, ρ2, s2, r2, w2⟩
  by_cases hlt : i < items.length
  · refine .inr ⟨wk.go i Hs2 ρ2 σ2 H2 s2 r2 hlt, ?_⟩
    rw [List.drop_eq_getElem_cons hlt] at w2
    refine ⟨fun σ' H' => ∃ Hs' ρ', Same Hs1 Hs' ∧ RS C Hs' ρ' σ' H' ∧ forL g body (items.drop (i + 1)) ρ' sq qe, fun σ' H' h' => ⟨items.length - (i + 1), by omega, rfl, hlt, h'⟩, fun x H' hy => ?_⟩
    obtain ⟨Hs3, g3, r3, px⟩ := wk.yld i Hs2 ρ2 σ2 H2 _ x H' s2 r2 (List.getElem?_eq_getElem hlt) hy
    refine hg.run Hs3 ρ2 σ2 H' _ _ _ _ r3 px w2 fun ρ4 σ4 w4 r4 _ => ?_
    have s13 := s2.trans g3.s
    refine hb.run Hs3 ρ4 σ4 H' _ qe _ l r4 w4 ⟨fun ρ' σ' Hs' H' w' s' r' => ⟨Hs', ρ', s13.trans s', r', w'⟩, fun d v ρ' σ' Hs' H' w' s' => k.rt d v ρ' σ' Hs' H' w' (g1.s.trans (s13.trans s')),
      fun ρ' σ' Hs' H' w' s' => k.nx ρ' σ' Hs' H' w' (g1.s.trans (s13.trans s')), fun ρ' σ' Hs' H' w' s' r' => ⟨Hs', ρ', s13.trans s', r', w'⟩⟩
  · rw [List.drop_eq_nil_of_le (by omega)] at w2
    exact .inl ⟨wk.stop i Hs2 ρ2 σ2 H2 s2 r2 (by omega), k.nx ρ2 σ2 Hs2 H2 w2 (g1.s.trans s2) r2⟩
def whN (c : MT) (body : MS) : Nat → List En → SQ → QE → Prop
  | 0, _, _, _ => False
  | n + 1, ρ, sq, qe => c ρ (fun b => if b = true then body ρ { nx := fun ρ2 => whN c body n ρ2 sq qe, rt := sq.rt, bk := sq.nx, ct := fun ρ2 => whN c body n ρ2 sq qe } qe else sq.nx ρ) qe
def sWhile (c : MT) (body : MS) : MS := fun ρ sq qe => ∃ n, whN c body n ρ sq qe
theorem ds_while {tc : TT} {tb : TS} {c : MT} {body : MS} (hc : DTt C tc c) (hb : DS C tb body) : DS C (tWhile tc tb) (sWhile c body) := by
  refine ⟨fun Hs ρ σ H sq qe E l r w k => ?_⟩
  obtain ⟨n, w⟩ := w
  refine ⟨fun m σ2 H2 => ∃ Hs2 ρ2, Same Hs Hs2 ∧ RS C Hs2 ρ2 σ2 H2 ∧ whN c body m ρ2 sq qe, ⟨n, Hs, ρ, Same.refl _, r, w⟩, ?_⟩
  rintro m σ2 H2 ⟨Hs2, ρ2, s2, r2, w2⟩
  cases m with
  | zero => exact w2.elim
  | succ m =>
    refine hc.run Hs2 ρ2 σ2 H2 _ qe _ l r2 w2 fun b Hs3 H3 w3 g3 r3 => ?_
    cases b with
    | false => exact k.nx ρ2 σ2 Hs3 H3 w3 (s2.trans g3.s) r3
    | true =>
      have s13 := s2.trans g3.s
      rw [if_pos rfl]
      refine ⟨fun σ' H' => ∃ Hs' ρ', Same Hs Hs' ∧ RS C Hs' ρ' σ' H' ∧ whN c body m ρ' sq qe, fun σ' H' h' => ⟨m, Nat.lt_succ_self _, h'⟩, ?_⟩
      refine hb.run Hs3 ρ2 σ2 H3 _ qe _ l r3 w3 ⟨fun ρ' σ' Hs' H' w' s' r' => ⟨Hs', ρ', s13.trans s', r', w'⟩, fun d v ρ' σ' Hs' H' w' s' => k.rt d v ρ' σ' Hs' H' w' (s13.trans s'),
        fun ρ' σ' Hs' H' w' s' => k.nx ρ' σ' Hs' H' w' (s13.trans s'), fun ρ' σ' Hs' H' w' s' r' => ⟨Hs', ρ', s13.trans s', r', w'⟩⟩

/-! ### defs and their calls -/
/-- what a def does, by its slots: n parameters, k more names -/
def mBody (k : Nat) (f : MS) : M := fun ds q qe => f (ds.map .sh ++ List.replicate k .no) ⟨fun _ => q .non, fun _ => q, fun _ => False, fun _ => False⟩ qe
/-- the promise of a def that raises nothing -/
def spOf (K : PySem.W.Frag) (n : Nat) (m : M) : Sp := fun vs H Q _ => ∃ (a : Hd) (Hs : Hp) (ds : List D) (q : D → Prop), vs.length = n ∧ Same Hs H ∧ HandOk a Hs H ∧ RepL K a Hs ds vs ∧ m ds q (fun _ => False) ∧
  ∀ d v Hs' H', q d → Gr a Hs H Hs' H' → Same Hs' H' → HandOk a Hs' H' → Rep K a Hs' d v → Q v H'
def eCall (m : M) (g : MA) : ME := fun ρ q qe => g ρ (fun ds => m ds q qe) qe
/-- the number of the arguments -/
structure DAn (C : Ctx) (n : Nat) (t : TA) (f : MA) : Prop where
  run : ∀ Hs ρ σ H q qe Q, (∀ x, qe x → C.W x) → RS C Hs ρ σ H → f ρ q qe →
    (∀ ds vs Hs' H', q ds → Gr C.a Hs H Hs' H' → RS C Hs' ρ σ H' → RepL C.K C.a Hs' ds vs → vs.length = n → Q vs H') → t σ H Q
theorem dan_nil : DAn C 0 tNil aNil := ⟨fun Hs ρ σ H q qe Q l r w k => k [] [] Hs H w Gr.refl r .nil rfl⟩
theorem dan_cons {n : Nat} {t : TE} {u : TA} {f : ME} {g : MA} (h : DT C t f) (h2 : DAn C n u g) : DAn C (n + 1) (tCons t u) (aCons f g) := by
  refine ⟨fun Hs ρ σ H q qe Q l r w k => ?_⟩
  refine h.run Hs ρ σ H _ qe _ l r w fun d v Hs1 H1 w1 g1 r1 p1 => ?_
  exact h2.run Hs1 ρ σ H1 _ qe _ l r1 w1 fun ds vs Hs2 H2 w2 g2 r2 p2 e => k _ _ Hs2 H2 w2 (g1.trans g2) r2 (.cons (p1.mono g2.s) p2) (congrArg (· + 1) e)
theorem dt_call {n : Nat} {m : M} {t : TA} {g : MA} (hW : ∀ x, ¬ C.W x) (h : DAn C n t g) : DT C (tCall (spOf C.K n m) [] E0 t) (eCall m g) := by
  refine ⟨fun Hs ρ σ H q qe Q l r w k => ?_⟩
  have e : qe = fun _ => False := by
    funext x
    exact propext ⟨fun h => hW x (l x h), fun h => h.elim⟩
  subst e
  refine h.run Hs ρ σ H _ _ _ l r w fun ds vs Hs1 H1 w1 g1 r1 p1 hl => ?_
  rw [List.append_nil]
  refine ⟨C.a, Hs1, ds, q, hl, r1.sh, r1.hd, p1, w1, fun d v Hs2 H2 e g2 s2 h2 p2 => ?_⟩
  exact k d v Hs2 H2 e (g1.trans g2) (r1.grow g2 s2 h2) p2
theorem start_get {N : List Str} {vs : List V} {i : Nat} : (L2.start N vs)[i]? = if i < vs.length then (vs[i]?).map some else if i < N.length then some none else none := by
  unfold L2.start
  by_cases h : i < vs.length
  · rw [if_pos h, List.getElem?_append_left (by rw [List.length_map]; exact h), List.getElem?_map]
  · rw [if_neg h, List.getElem?_append_right (by rw [List.length_map]; omega), List.length_map, List.getElem?_replicate]
    by_cases h2 : i < N.length
    · rw [if_pos h2, if_pos (by omega)]
    · rw [if_neg h2, if_neg (by omega)]
theorem rs_start {K : PySem.W.Frag} {a : Hd} {Hs H : Hp} {ds : List D} {vs : List V} {N : List Str} {k : Nat} {W : EX → Prop} (s : Same Hs H) (hd : HandOk a Hs H) (r : RepL K a Hs ds vs) (hN : N.length = vs.length + k) :
    RS ⟨K, a, H, Hs, W⟩ Hs (ds.map .sh ++ List.replicate k .no) (L2.start N vs) H where
  len := by
    unfold L2.start
    rw [List.length_append, List.length_append, List.length_map, List.length_map, List.length_replicate, List.length_replicate, r.length]
    omega
  fr := SB.refl
  sh := s
  sh0 := Same.refl _
  new := fun b o h => .inl h
  hd := hd
  hd0 := fun x e => by
    obtain ⟨_, c, i, b, z, n, cells, h1, _⟩ := hd.at_ x e
    exact fun q => q.not h1 fun _ q => by cases q
  en := fun i e he => by
    by_cases h : i < ds.length
    · rw [List.getElem?_append_left (by rw [List.length_map]; exact h), List.getElem?_map, List.getElem?_eq_getElem h] at he
      cases he
      obtain ⟨v, hv, rv⟩ := r.getD (List.getElem?_eq_getElem h)
      rw [start_get, if_pos (by rw [← r.length]; exact h), hv]
      exact ⟨v, rfl, rv⟩
    · rw [List.getElem?_append_right (by rw [List.length_map]; omega), List.length_map, List.getElem?_replicate] at he
      split at he
      · cases he
        trivial
      · cases he
  sep := fun i j p e e' hij h1 h2 o1 o2 s1 s2 => by
    have no : ∀ (i : Nat) (e : En), (ds.map En.sh ++ List.replicate k .no)[i]? = some e → e.own = false := fun i e he => by
      by_cases h : i < ds.length
      · rw [List.getElem?_append_left (by rw [List.length_map]; exact h), List.getElem?_map, List.getElem?_eq_getElem h] at he
        cases he
        rfl
      · rw [List.getElem?_append_right (by rw [List.length_map]; omega), List.length_map, List.getElem?_replicate] at he
        split at he
        · cases he
          rfl
        · cases he
    rw [no i e h1] at o1
    cases o1
/-- a def's body does what its functional reading says -/
theorem body_ok {K : PySem.W.Frag} {t : TS} {f : MS} {n k : Nat} {N : List Str} {vs : List V} {H : Hp} {Q : VK} {E : XK} (hN : N.length = n + k) (ht : ∀ C : Ctx, C.K = K → (∀ x, ¬ C.W x) → DS C t f)
    (h : spOf K n (mBody k f) vs H Q E) : t { nx := fun _ H' => Q .non H', rt := Q } (L2.start N vs) H := by
  obtain ⟨a, Hs, ds, q, hl, s, hd, r, w, kk⟩ := h
  have rs : RS ⟨K, a, H, Hs, fun _ => False⟩ Hs (ds.map .sh ++ List.replicate k .no) (L2.start N vs) H := rs_start s hd r (by rw [hl]; exact hN)
  have fin : ∀ {d : D} {v : V} {ρ' : List En} {σ' : L2.St} {Hs' H' : Hp}, q d → Same Hs Hs' → RS ⟨K, a, H, Hs, fun _ => False⟩ Hs' ρ' σ' H' → Rep K a Hs' d v → Q v H' := fun {d v ρ' σ' Hs' H'} hq s' r' p' =>
    kk d v Hs' H' hq ⟨s', r'.fr, fun b o hb => by
      rcases r'.new b o hb with z | z
      · exact .inl z
      · refine .inr ⟨z, fun e => ?_⟩
        exact r'.hd0 b e z⟩ r'.sh r'.hd p'
  exact (ht ⟨K, a, H, Hs, fun _ => False⟩ rfl fun _ z => z).run Hs _ _ H ⟨fun _ => q .non, fun _ => q, fun _ => False, fun _ => False⟩ (fun _ => False) _ (fun _ z => z) rs w
    ⟨fun ρ' σ' Hs' H' w' s' r' => fin w' s' r' .non, fun d v ρ' σ' Hs' H' w' s' r' p' => fin w' s' r' p', fun _ _ _ _ z => z.elim, fun _ _ _ _ z => z.elim⟩
end
end Fd
/-! enumerate and zip over lists and tuples alike -/
namespace Fd
open PySem PySem.Spec L2

/-- a list (true) or a tuple (false) that is read -/
def SqK (b : Bool) (K : PySem.W.Frag) (H : Hp) (a : Addr) (xs : List V) : Prop := if b = true then SqL K H a xs else SqT K H a xs
def ItK (b : Bool) (h : Heap) (it a : Addr) (i : Nat) : Prop := if b = true then h.IsListIter it a i else h.IsTupleIter it a i
def SrcK (b : Bool) (h : Heap) (a : Addr) (its : Array Value) : Prop := if b = true then h.IsList a its else h.IsTuple a its
def itT (b : Bool) : String := if b = true then "list_iterator" else "tuple_iterator"
theorem ItK.get {b : Bool} {h : Heap} {it a : Addr} {i : Nat} (x : ItK b h it a i) : ∃ o, h.get? it = some o ∧ o.cls = .type (itT b) ∧ ∀ v, o.data ≠ .cell v := by
  cases b with
  | true =>
    obtain ⟨o, e, c, d⟩ := (show h.IsListIter it a i from x)
    exact ⟨o, e, c, fun v z => by rw [d] at z; cases z⟩
  | false =>
    obtain ⟨o, e, c, d⟩ := (show h.IsTupleIter it a i from x)
    exact ⟨o, e, c, fun v z => by rw [d] at z; cases z⟩
theorem ItK.at {b : Bool} {h h' : Heap} {it a : Addr} {i : Nat} (x : ItK b h it a i) (k : ∀ o, h.get? it = some o → h'.get? it = some o) : ItK b h' it a i := by
  cases b with
  | true => exact (show h.IsListIter it a i from x).at k
  | false => exact (show h.IsTupleIter it a i from x).at k
theorem SrcK.get {b : Bool} {h : Heap} {a : Addr} {its : Array Value} (x : SrcK b h a its) : ∃ o, h.get? a = some o ∧ o.cls = .type (if b = true then "list" else "tuple") := by
  cases b with
  | true =>
    obtain ⟨o, e, c, _⟩ := (show h.IsList a its from x)
    exact ⟨o, e, c⟩
  | false =>
    obtain ⟨o, e, c, _⟩ := (show h.IsTuple a its from x)
    exact ⟨o, e, c⟩
theorem src_ne {b : Bool} {h : Heap} {it a : Addr} {i : Nat} {its : Array Value} (x : ItK b h it a i) (y : SrcK b h a its) : a ≠ it := by
  intro e
  subst e
  obtain ⟨o, e1, c1, _⟩ := x.get
  obtain ⟨o2, e2, c2⟩ := y.get
  rw [e1] at e2
  cases e2
  rw [c1] at c2
  cases b with
  | true => exact absurd c2 (by decide)
  | false => exact absurd c2 (by decide)
theorem srcK_of {X : Cx} {pins : List (Addr × Obj)} {σ : L2.St} {H : Hp} {s : Shared} {b : Bool} {a : Addr} {xs : List V} (I : Inv X pins σ H s) (h : SqK b X.K H a xs) : ∃ its : List Value, Vals xs its ∧ SrcK b s.heap a its.toArray := by
  cases b with
  | true =>
    obtain ⟨its, rv, p, _⟩ := I.list (show SqL X.K H a xs from h)
    exact ⟨its, rv, p.isList⟩
  | false =>
    obtain ⟨its, rv, p, _⟩ := I.tuple (show SqT X.K H a xs from h)
    exact ⟨its, rv, p⟩
theorem sqK_inj {X : Cx} {pins : List (Addr × Obj)} {σ : L2.St} {H : Hp} {s : Shared} {b : Bool} {a : Addr} {xs ys : List V} (I : Inv X pins σ H s) (h : SqK b X.K H a xs) (h' : SqK b X.K H a ys) : xs = ys := by
  cases b with
  | true => exact I.list_inj h h'
  | false => exact I.tuple_inj h h'
theorem drawsK {prog : Program} {w : World} {A : Around} (hh : A.handled = none) (b : Bool) (it a : Addr) (hne : a ≠ it) (its : Array Value) :
    Draws prog w A it [it, a] its.size (fun i v => its[i]? = some v) (fun i h => ItK b h it a i ∧ SrcK b h a its) := by
  cases b with
  | true => exact Draws.list hh it a hne its
  | false => exact Draws.tuple hh it a hne its

/-! ### enumerate -/
def IteK (b : Bool) (K : PySem.W.Frag) (a : Addr) : It where
  go := fun i H => ∃ (xs : List V) (x : V), SqK b K H a xs ∧ xs[i]? = some x
  yld := fun i H v H' => ∃ T x o, v = .ref T ∧ H T = none ∧ o.dict = none ∧ H' = upd H T (frT o [.int (i : Nat), x]) ∧ ∀ xs, SqK b K H a xs → xs[i]? = some x
  stop := fun i H => ∃ xs : List V, SqK b K H a xs ∧ xs.length ≤ i
theorem turn_enumK {P : Program} {w : World} {K : PySem.W.Frag} {elts : List Expr} {kk : Nat} {tpos : Pos} (b : Bool) (a e it : Addr) :
    Turn P w K (.Tuple elts kk tpos) (IteK b K a) [e, it] e (fun i h => (∃ old, IsEnum h e it ((i : Nat) : Int) old) ∧ ItK b h it a i ∧ e ≠ it) where
  mem := by simp
  obj := fun i h st c hb => by
    obtain ⟨⟨old, he⟩, hit, _⟩ := st
    have e' : c = e ∨ c = it := by simpa using hb
    rcases e' with z | z
    · rw [z]; exact ⟨_, he, fun v q => nomatch q⟩
    · rw [z]
      obtain ⟨o, e1, _, e2⟩ := hit.get
      exact ⟨o, e1, e2⟩
  keep := fun i h h' st k => by
    obtain ⟨⟨old, he⟩, hi, hne⟩ := st
    exact ⟨⟨old, k e (by simp) _ he⟩, hi.at fun o q => k it (by simp) o q, hne⟩
  item := by
    intro X hP hw hK hc i pins s σ H E I hf st hg
    subst hP hw hK
    obtain ⟨⟨old, he⟩, hit, hne⟩ := st
    obtain ⟨xs, x, hq, hx⟩ := hg
    obtain ⟨its, rv, p⟩ := srcK_of I hq
    obtain ⟨u, hu, ru⟩ := rv.get hx
    have hel : e < s.heap.objs.size := Heap.lt_size he
    have hil : it < s.heap.objs.size := by obtain ⟨_, q, _⟩ := hit.get; exact Heap.lt_size q
    have nai := src_ne hit p
    have hlt : i < its.toArray.size := by
      have q := (List.getElem?_eq_some_iff.mp hu).1
      simpa using q
    have nea : e ∉ [it, a] := fun z => by
      have e' : e = it ∨ e = a := by simpa using z
      rcases e' with z | z
      · exact hne z
      · obtain ⟨o, h1, h2⟩ := p.get
        rw [← z, he] at h1
        cases h1
        cases b with
        | true => exact absurd h2 (by show ¬ (Value.type "enumerate" = Value.type "list"); decide)
        | false => exact absurd h2 (by show ¬ (Value.type "enumerate" = Value.type "tuple"); decide)
    refine wpAny_pyNext_enum_itemD (drawsK (A := X.A.in1) (I.ok.hd hc) b it a nai its.toArray) he ⟨hit, p⟩ hlt hne nea fun y h' tk hy ho st' hT hsz hk => ?_
    have ey : y = u := by
      have q : its.toArray[i]? = some u := by simpa using hu
      rw [hy] at q
      exact Option.some.inj q
    subst ey
    refine ⟨_, rfl, wpAny_letOwnedTupleGo_enum (s := { s with heap := h', toks := tk + 1 }) ho fun h'' he' sb => ?_⟩
    have hT2 : h''.get? s.heap.objs.size = some { cls := .type "tuple", data := .seq #[.int i tk, y] } := (sb.2 _ (Nat.ne_of_gt hel)).trans hT
    have new : ObjOk X.prog X.w (upd H s.heap.objs.size (frT { cls := .type "tuple", data := .seq #[.int i tk, y] } [.int (i : Nat), x])) h'' s.heap.objs.size (frT { cls := .type "tuple", data := .seq #[.int i tk, y] } [.int (i : Nat), x]) :=
      ⟨hT2, by show 2 ≤ sizeLine; decide, [.int i tk, y], .cons ⟨_, rfl⟩ (.cons ru .nil), ⟨_, hT2, rfl, _, rfl⟩⟩
    have I1 : Inv X pins σ (upd H s.heap.objs.size (frT { cls := .type "tuple", data := .seq #[.int i tk, y] } [.int (i : Nat), x])) { s with heap := h'', toks := tk + 1 } :=
      I.turnedNew (ch := [e, it]) (fun c ob hb q => (sb.2 c (fun z => hb (by simp [z]))).trans (hk c ob (fun z => hb (by simp [z])) (fun z => hb (by simp [z])) q)) hf (Nat.le_refl _) new
    refine ⟨.ref s.heap.objs.size, _, I1, rfl, ⟨_, x, _, rfl, I.hok.fresh (Nat.le_refl _), rfl, rfl, fun ys hy => by rw [sqK_inj I hy hq]; exact hx⟩, ⟨⟨y, ?_⟩, st'.1.at fun o q => (sb.2 it (Ne.symm hne)).trans q, hne⟩, fun c hb => ?_⟩
    · have e1 : ((i + 1 : Nat) : Int) = (i : Int) + 1 := by omega
      rw [e1]; exact he'
    · have hb' : c < s.heap.objs.size := by
        have e' : c = e ∨ c = it := by simpa using hb
        rcases e' with z | z
        · rw [z]; exact hel
        · rw [z]; exact hil
      rw [upd_ne (Nat.ne_of_lt hb')]
      exact (hf c hb).1
  done := by
    intro X hP hw hK hc i pins s σ H E I hf st hg
    subst hP hw hK
    obtain ⟨⟨old, he⟩, hit, hne⟩ := st
    obtain ⟨xs, hq, hx⟩ := hg
    obtain ⟨its, rv, p⟩ := srcK_of I hq
    obtain ⟨f0, f1, f2, f3, f4, f5⟩ := hf it (by simp)
    have hl := rv.length
    cases b with
    | true => exact wpAny_pyNext_enum_end (I.ok.hd hc) he hit p (by simp; omega) fun h' eb => ⟨rfl, I.turned (t' := s.toks) (fun c o hb q => eb c o hb q) f0 f1 f3 f4 f5⟩
    | false =>
      have hT : s.TypeIs (.ref e) "enumerate" := ⟨_, he, rfl⟩
      have hn : its.toArray[i]? = none := by simp; omega
      unfold pyNext
      refine wpAny_bind (wpAny_attempt (wpAny_callSpecial?_slot (name := Str.ofString "__next__") hT F.slot_enumerate_next
        (wpAny_call_entry F.slot_enumerate_next hT F.entry_enumerate_next ?_ (F.args_enumerate_next_1 _))))
      show wpAny _ _ (field (.ref e) 2 >>= _) _ _ _
      refine wpAny_bind (wpAny_field he rfl (x := .ref it) rfl ?_)
      refine wpAny_bind (RZ.nextOf_tuple_end (I.ok.hd hc) hit p hn fun h' x he' hx' => ?_)
      obtain ⟨o, ho, hcl⟩ := hx'
      refine wpAny_bind (wpAny_isInstance (T := "StopIteration") (b := true) ⟨o, ho, hcl⟩ isSubtype_stop ?_)
      exact wpAny_pure ⟨rfl, I.turned (t' := s.toks) (fun c o hb q => he' c o hb q) f0 f1 f3 f4 f5⟩
  self := fun A i s Q E st h => by
    obtain ⟨⟨_, he⟩, _⟩ := st
    exact wpAny_pyIter_enum he h
set_option maxHeartbeats 1000000 in
theorem meets_enumT (l : Addr) (items : Array Value) (n : Nat) (dct : Option Addr) (sl : Array (Option Value)) :
    Meets (Builtin.«enumerate.__new__» ⟨[.type "enumerate", .ref l], []⟩) (fun _ R s => s.heap.get? l = some { cls := .type "tuple", dict := dct, data := .seq items n, slots := sl } ∧
      R (.ok (.ret (.ref (s.heap.push { cls := .type "tuple_iterator", data := .fields #[.ref l, .int 0 0] }).objs.size)))
        { s with heap := (s.heap.push { cls := .type "tuple_iterator", data := .fields #[.ref l, .int 0 0] }).push { cls := .type "enumerate", data := .fields #[.none, .bool false, .ref s.heap.objs.size, rawInt 0, .none, .none] } }) :=
  .of_wp fun prog w A R s h => by
    obtain ⟨hp, g, d, tk, os⟩ := s
    obtain ⟨hl, h⟩ := h
    have hsub := sub_enumerate
    have hL : Heap.IsTuple (Shared.heap ⟨hp, g, d, tk, os⟩) l items := ⟨_, hl, rfl, n, rfl⟩
    wp_walk using AutoSeq1.wpAny_loadPart' hl
    refine wpAny_stack_any fun st => wpAny_pure ?_
    split
    · rename_i c _ _ _ _ _
      cases (c == Value.type "enumerate")
      · wp_walk using AutoSeq1.wpAny_loadPart' hl, wpAny_pyIter_tuple hL
        exact ⟨_, rfl, h⟩
      · wp_walk using AutoSeq1.wpAny_loadPart' hl, wpAny_pyIter_tuple hL
        exact ⟨_, rfl, h⟩
    · wp_walk using AutoSeq1.wpAny_loadPart' hl, wpAny_pyIter_tuple hL
      exact ⟨_, rfl, h⟩
theorem call_enumT {prog : Program} {w : World} {A : Around} {E : Value → Shared → Prop} {s : Shared} {l : Addr} {items : Array Value} {Q : Value → Shared → Prop} (hL : s.heap.IsTuple l items)
    (h : ∀ h', IsEnum h' (s.heap.objs.size + 1) s.heap.objs.size 0 .none → h'.IsTupleIter s.heap.objs.size l 0 → h'.objs.size = s.heap.objs.size + 2 →
      (∀ b o, s.heap.get? b = some o → h'.get? b = some o) → Q (.ref (s.heap.objs.size + 1)) { s with heap := h' }) :
    wpAny (model prog w) A (call (.type "enumerate") [.ref l]) Q E s := by
  obtain ⟨⟨c, dct, dt, sl⟩, hl, hc, n, hd⟩ := hL
  replace hc : c = .type "tuple" := hc
  replace hd : dt = .seq items n := hd
  subst hc hd
  refine callType_new F.called_enumerate (by decide) (F.typeCall_enumerate_1 _) (F.newCall_enumerate_1 _) (fun obj => F.args_object_init_2 obj _) F.entry_enumerate_new
    (meets_enumT l items n dct sl) ⟨hl, ?_⟩
  have hz : (s.heap.push { cls := .type "tuple_iterator", data := .fields #[.ref l, .int 0 0] }).objs.size = s.heap.objs.size + 1 := Heap.size_push ..
  show _ ∧ _
  rw [hz]
  have he : IsEnum ((s.heap.push { cls := .type "tuple_iterator", data := .fields #[.ref l, .int 0 0] }).push
      { cls := .type "enumerate", data := .fields #[.none, .bool false, .ref s.heap.objs.size, rawInt 0, .none, .none] }) (s.heap.objs.size + 1) s.heap.objs.size 0 .none := by
    have := Heap.get?_push_size (s.heap.push { cls := .type "tuple_iterator", data := .fields #[.ref l, .int 0 0] })
      (o := { cls := .type "enumerate", data := .fields #[.none, .bool false, .ref s.heap.objs.size, rawInt 0, .none, .none] }) rfl
    rw [hz] at this
    exact this
  refine ⟨⟨_, he, rfl⟩, h _ he ⟨_, Heap.get?_push_of_some _ (Heap.get?_push_size _ rfl), rfl, rfl⟩ (by rw [Heap.size_push, hz]) fun b o x => Heap.get?_push_of_some _ (Heap.get?_push_of_some _ x)⟩
def iEnumK (K : PySem.W.Frag) (te : TE) : TI := fun σ H R => te σ H fun v H1 => ∃ b a xs, v = .ref a ∧ SqK b K H1 a xs ∧ R (IteK b K a) H1
theorem pi_enumK {X : Cx} {e : Expr} {te : TE} {p pos tpos : Pos} {elts : List Expr} {kk : Nat} (hg : Gl X "enumerate") (hm : X.mg "enumerate" = none) (ha : PE X e te) (hs : starEach [e] X.env = (false, eval e X.env) :: starEach [] X.env := by rfl) :
    PI X (.Tuple elts kk tpos) (.Call (.Name "enumerate" p) [e] [] pos) (iEnumK X.K te) := by
  refine ⟨fun pins s σ H R I h => ?_⟩
  have ha2 : PA X [e] (tCons te tNil) := pa_cons ha pa_nil hs
  refine PyProof.Rows.Call_ (ld_blt I hg hm PyProof.Rows.boot_enumerate (PyProof.Rows.callWith_type1 (thn (ha2.run pos pins s σ H (fun vs H1 => ∃ v, vs = [v] ∧ ∃ b a xs, v = .ref a ∧ SqK b X.K H1 a xs ∧ R (IteK b X.K a) H1) I (show te σ H _ from ?_)) fun us s1 ⟨vs, H1, I1, r1, q1⟩ => ?_) hs rfl))
  · have mono : (fun v H1 => ∃ b a xs, v = V.ref a ∧ SqK b X.K H1 a xs ∧ R (IteK b X.K a) H1) = fun x H1 => (fun vs H1 => ∃ v, vs = [v] ∧ ∃ b a xs, v = V.ref a ∧ SqK b X.K H1 a xs ∧ R (IteK b X.K a) H1) [x] H1 := by
      funext x H1
      refine propext ⟨fun z => ⟨x, rfl, z⟩, fun ⟨v, e, z⟩ => ?_⟩
      cases e
      exact z
    unfold iEnumK at h
    rw [mono] at h
    exact h
  · obtain ⟨v, ev, b, a, xs, ex, hq, q⟩ := q1
    subst ev ex
    cases r1 with
    | cons r rr =>
      cases rr
      cases r
      obtain ⟨its, rv, p'⟩ := srcK_of I1 hq
      have fin : ∀ h', IsEnum h' (s1.heap.objs.size + 1) s1.heap.objs.size 0 .none → ItK b h' s1.heap.objs.size a 0 → (∀ c o, s1.heap.get? c = some o → h'.get? c = some o) →
          wpAny (model X.prog X.w) X.A (pyIter (.ref (s1.heap.objs.size + 1))) (PIE X pins σ (.Tuple elts kk tpos) R) X.xe { s1 with heap := h' } := fun h' he hit hk => by
        refine wpAny_pyIter_enum he ?_
        have I2 : Inv X pins σ H1 { s1 with heap := h' } := I1.kept (t' := s1.toks) hk
        refine ⟨s1.heap.objs.size + 1, [s1.heap.objs.size + 1, s1.heap.objs.size], _, _, H1, rfl, I2, turn_enumK b a (s1.heap.objs.size + 1) s1.heap.objs.size, ⟨⟨.none, he⟩, hit, Nat.succ_ne_self _⟩, fun c hb => ?_, q⟩
        have e' : c = s1.heap.objs.size + 1 ∨ c = s1.heap.objs.size := by simpa using hb
        have hle : s1.heap.objs.size ≤ c := by rcases e' with z | z <;> rw [z] <;> omega
        exact I1.fpOk hle (I1.hok.fresh hle)
      cases b with
      | true => exact call_enumerate_list p' fun h' he hit hsz hk => fin h' he hit hk
      | false => exact call_enumT p' fun h' he hit hsz hk => fin h' he hit hk

/-! ### zip -/
def ItzK (b c : Bool) (K : PySem.W.Frag) (a d : Addr) : It where
  go := fun i H => ∃ (xs ys : List V) (x y : V), SqK b K H a xs ∧ SqK c K H d ys ∧ xs[i]? = some x ∧ ys[i]? = some y
  yld := fun i H v H' => ∃ T x y o, v = .ref T ∧ H T = none ∧ o.dict = none ∧ H' = upd H T (frT o [x, y]) ∧ (∀ xs, SqK b K H a xs → xs[i]? = some x) ∧ ∀ ys, SqK c K H d ys → ys[i]? = some y
  stop := fun i H => ∃ xs ys : List V, SqK b K H a xs ∧ SqK c K H d ys ∧ i ≤ xs.length ∧ i ≤ ys.length ∧ (xs.length = i ∨ ys.length = i)
structure Apart5 (z TI TO i1 i2 : Addr) : Prop where
  TIz : TI ≠ z
  TOz : TO ≠ z
  TITO : TI ≠ TO
  TIi1 : TI ≠ i1
  TIi2 : TI ≠ i2
  zi1 : z ≠ i1
  zi2 : z ≠ i2
  TOi1 : TO ≠ i1
  TOi2 : TO ≠ i2
  i12 : i1 ≠ i2
theorem src_type {b : Bool} {h : Heap} {a x : Addr} {its : Array Value} {o : Obj} {n : String} (y : SrcK b h a its) (e : h.get? x = some o) (c : o.cls = .type n) (n1 : n ≠ "list") (n2 : n ≠ "tuple") : x ≠ a := by
  intro z
  subst z
  obtain ⟨o2, e2, c2⟩ := y.get
  rw [e] at e2
  cases e2
  rw [c] at c2
  cases b with
  | true => exact n1 (by injection c2)
  | false => exact n2 (by injection c2)
theorem itT_ne (b : Bool) : itT b ≠ "list" ∧ itT b ≠ "tuple" := by cases b <;> exact ⟨by decide, by decide⟩
theorem turn_zipK {P : Program} {w : World} {K : PySem.W.Frag} {elts : List Expr} {kk : Nat} {tpos : Pos} (b c : Bool) {a d z TI TO i1 i2 : Addr} (D : Apart5 z TI TO i1 i2) (tos : TI ≠ a ∧ TO ≠ a ∧ TI ≠ d ∧ TO ≠ d) :
    Turn P w K (.Tuple elts kk tpos) (ItzK b c K a d) [z, TI, TO, i1, i2] z (fun i h => IsZip h z TI TO .none ∧ IsTupOf2 h TI (.ref i1) (.ref i2) ∧ (∃ x y, IsTupOf2 h TO x y) ∧ ItK b h i1 a i ∧ ItK c h i2 d i) where
  mem := by simp
  obj := fun i h st q hc => by
    obtain ⟨hz, hTI, ⟨x, y, hTO⟩, h1, h2⟩ := st
    have e' : q = z ∨ q = TI ∨ q = TO ∨ q = i1 ∨ q = i2 := by simpa using hc
    rcases e' with e | e | e | e | e
    · rw [e]; exact ⟨_, hz, fun v q => nomatch q⟩
    · rw [e]; exact ⟨_, hTI, fun v q => nomatch q⟩
    · rw [e]; exact ⟨_, hTO, fun v q => nomatch q⟩
    · rw [e]
      obtain ⟨o, e1, _, e2⟩ := h1.get
      exact ⟨o, e1, e2⟩
    · rw [e]
      obtain ⟨o, e1, _, e2⟩ := h2.get
      exact ⟨o, e1, e2⟩
  keep := fun i h h' st k => by
    obtain ⟨hz, hTI, ⟨x, y, hTO⟩, h1, h2⟩ := st
    exact ⟨k z (by simp) _ hz, k TI (by simp) _ hTI, ⟨x, y, k TO (by simp) _ hTO⟩, h1.at fun o q => k i1 (by simp) o q, h2.at fun o q => k i2 (by simp) o q⟩
  item := by
    intro X hP hw hK hc i pins s σ H E I hf st hg
    subst hP hw hK
    obtain ⟨hz, hTI, ⟨x0, y0, hTO⟩, h1, h2⟩ := st
    obtain ⟨xs, ys, x, y, hqx, hqy, hx, hy⟩ := hg
    obtain ⟨its, rv, p⟩ := srcK_of I hqx
    obtain ⟨its2, rv2, p2⟩ := srcK_of I hqy
    obtain ⟨u, hu, ru⟩ := rv.get hx
    obtain ⟨u2, hu2, ru2⟩ := rv2.get hy
    obtain ⟨o1, g1, t1, _⟩ := h1.get
    obtain ⟨o2, g2, t2, _⟩ := h2.get
    have za := src_type p hz rfl (by decide) (by decide)
    have zd := src_type p2 hz rfl (by decide) (by decide)
    have i1d := src_type p2 g1 t1 (itT_ne b).1 (itT_ne b).2
    have i2a := src_type p g2 t2 (itT_ne c).1 (itT_ne c).2
    have S : ZipSep2 z TI TO i1 i2 [i1, a] [i2, d] := by
      refine ⟨D.TIz, D.TOz, D.TITO, D.TIi1, by simp, ?_, ?_, D.TIi2, by simp, ?_, ?_, ?_, ?_⟩
      · simp [D.zi1, za]
      · simp [D.TOi1, tos.2.1]
      · simp [D.zi2, zd]
      · simp [D.TOi2, tos.2.2.2]
      · simp [D.i12, i1d]
      · simp [D.i12.symm, i2a]
    have hlt : i < its.toArray.size := by simpa using (List.getElem?_eq_some_iff.mp hu).1
    have hlt2 : i < its2.toArray.size := by simpa using (List.getElem?_eq_some_iff.mp hu2).1
    have hzl : z < s.heap.objs.size := Heap.lt_size hz
    refine wpAny_pyNext_zipD2_item S (drawsK (A := X.A.in1) (I.ok.hd hc) b i1 a (src_ne h1 p) its.toArray) (drawsK (A := X.A.in1) (I.ok.hd hc) c i2 d (src_ne h2 p2) its2.toArray) hz hTI hTO ⟨h1, p⟩ ⟨h2, p2⟩ hlt hlt2 fun v1 v2 h' tk hv1 hv2 z' TO' st1' st2' hT hsz hk => ?_
    have e1 : v1 = u := by
      have q : its.toArray[i]? = some u := by simpa using hu
      rw [hv1] at q
      exact Option.some.inj q
    have e2 : v2 = u2 := by
      have q : its2.toArray[i]? = some u2 := by simpa using hu2
      rw [hv2] at q
      exact Option.some.inj q
    subst e1 e2
    refine ⟨_, rfl, wpAny_letOwnedTupleGo_zip (s := { s with heap := h', toks := tk }) z' fun h'' z'' sb => ?_⟩
    have hT2 : h''.get? s.heap.objs.size = some { cls := .type "tuple", data := .seq #[v1, v2] } := (sb.2 _ (Nat.ne_of_gt hzl)).trans hT
    have new : ObjOk X.prog X.w (upd H s.heap.objs.size (frT { cls := .type "tuple", data := .seq #[v1, v2] } [x, y])) h'' s.heap.objs.size (frT { cls := .type "tuple", data := .seq #[v1, v2] } [x, y]) :=
      ⟨hT2, by show 2 ≤ sizeLine; decide, [v1, v2], .cons ru (.cons ru2 .nil), ⟨_, hT2, rfl, _, rfl⟩⟩
    have I1 : Inv X pins σ (upd H s.heap.objs.size (frT { cls := .type "tuple", data := .seq #[v1, v2] } [x, y])) { s with heap := h'', toks := tk } :=
      I.turnedNew (t' := tk) (ch := [z, TI, TO, i1, i2]) (fun q o hb e => (sb.2 q (fun q' => hb (by simp [q']))).trans (hk q o (fun q' => hb (by simp [q'])) (fun q' => hb (by simp [q'])) (fun q' => hb (by simp [q'])) (fun q' => hb (by simp [q'])) e)) hf (Nat.le_refl _) new
    refine ⟨.ref s.heap.objs.size, _, I1, rfl, ⟨_, x, y, _, rfl, I.hok.fresh (Nat.le_refl _), rfl, rfl, fun l hl => by rw [sqK_inj I hl hqx]; exact hx, fun l hl => by rw [sqK_inj I hl hqy]; exact hy⟩, ⟨z'', ?_, ⟨v1, v2, ?_⟩, ?_, ?_⟩, fun q hcm => ?_⟩
    · exact (sb.2 _ D.TIz).trans (hk _ _ D.TIz D.TITO D.TIi1 D.TIi2 hTI)
    · exact (sb.2 _ D.TOz).trans TO'
    · exact st1'.1.at fun o q => (sb.2 _ D.zi1.symm).trans q
    · exact st2'.1.at fun o q => (sb.2 _ D.zi2.symm).trans q
    · have hlt : q < s.heap.objs.size := by
        have e' : q = z ∨ q = TI ∨ q = TO ∨ q = i1 ∨ q = i2 := by simpa using hcm
        rcases e' with e | e | e | e | e
        · rw [e]; exact hzl
        · rw [e]; exact Heap.lt_size hTI
        · rw [e]; exact Heap.lt_size hTO
        · rw [e]; exact Heap.lt_size g1
        · rw [e]; exact Heap.lt_size g2
      rw [upd_ne (Nat.ne_of_lt hlt)]
      exact (hf q hcm).1
  done := by
    intro X hP hw hK hc i pins s σ H E I hf st hg
    subst hP hw hK
    obtain ⟨hz, hTI, ⟨x0, y0, hTO⟩, h1, h2⟩ := st
    obtain ⟨xs, ys, hqx, hqy, le1, le2, hend⟩ := hg
    obtain ⟨its, rv, p⟩ := srcK_of I hqx
    obtain ⟨its2, rv2, p2⟩ := srcK_of I hqy
    obtain ⟨o1, g1, t1, _⟩ := h1.get
    obtain ⟨o2, g2, t2, _⟩ := h2.get
    have za := src_type p hz rfl (by decide) (by decide)
    have zd := src_type p2 hz rfl (by decide) (by decide)
    have i1d := src_type p2 g1 t1 (itT_ne b).1 (itT_ne b).2
    have i2a := src_type p g2 t2 (itT_ne c).1 (itT_ne c).2
    have S : ZipSep2 z TI TO i1 i2 [i1, a] [i2, d] := by
      refine ⟨D.TIz, D.TOz, D.TITO, D.TIi1, by simp, ?_, ?_, D.TIi2, by simp, ?_, ?_, ?_, ?_⟩
      · simp [D.zi1, za]
      · simp [D.TOi1, tos.2.1]
      · simp [D.zi2, zd]
      · simp [D.TOi2, tos.2.2.2]
      · simp [D.i12, i1d]
      · simp [D.i12.symm, i2a]
    have l1 : its.toArray.size = xs.length := by simp [rv.length]
    have l2 : its2.toArray.size = ys.length := by simp [rv2.length]
    refine wpAny_pyNext_zipD2_end S (drawsK (A := X.A.in1) (I.ok.hd hc) b i1 a (src_ne h1 p) its.toArray) (drawsK (A := X.A.in1) (I.ok.hd hc) c i2 d (src_ne h2 p2) its2.toArray) hz hTI hTO ⟨h1, p⟩ ⟨h2, p2⟩ (by omega) (by omega) (by omega) fun h' tk hk => ?_
    exact ⟨rfl, I.turnedL (t' := tk) (ch := [z, TI, TO, i1, i2]) (fun q o hb e =>
      hk q o (fun q' => hb (by simp [q'])) (fun q' => hb (by simp [q'])) (fun q' => hb (by simp [q'])) (fun q' => hb (by simp [q'])) e) hf⟩
  self := fun A i s Q E st h => wpAny_pyIter_zip st.1 h

abbrev zh1 (b : Bool) (h : Heap) (a : Addr) : Heap := h.push { cls := .type (itT b), data := .fields #[.ref a, .int 0 0] }
abbrev zh2 (b c : Bool) (h : Heap) (a d : Addr) : Heap := (zh1 b h a).push { cls := .type (itT c), data := .fields #[.ref d, .int 0 0] }
abbrev zh3 (b c : Bool) (h : Heap) (a d : Addr) : Heap := (zh2 b c h a d).push { cls := .type "tuple", data := .seq #[.ref h.objs.size, .ref (zh1 b h a).objs.size] }
abbrev zh4 (b c : Bool) (h : Heap) (a d : Addr) : Heap := (zh3 b c h a d).push { cls := .type "tuple", data := .seq #[.none, .none] }
abbrev zh5 (b c : Bool) (h : Heap) (a d : Addr) : Heap := (zh4 b c h a d).push { cls := .type "zip", data := .fields #[.none, .bool false, .bool false, .ref (zh2 b c h a d).objs.size, .ref (zh3 b c h a d).objs.size] }
theorem iterK {prog : Program} {w : World} {A : Around} {E : Value → Shared → Prop} {s : Shared} {b : Bool} {a : Addr} {its : Array Value} {Q : Value → Shared → Prop} (h : SrcK b s.heap a its)
    (q : Q (.ref s.heap.objs.size) { s with heap := zh1 b s.heap a }) : wpAny (model prog w) A (pyIter (.ref a)) Q E s := by
  cases b with
  | true => exact wpAny_pyIter_list h q
  | false => exact wpAny_pyIter_tuple h q
theorem srcK_push {b : Bool} {h : Heap} {a : Addr} {its : Array Value} (x : SrcK b h a its) (o : Obj) : SrcK b (h.push o) a its := by
  cases b with
  | true => exact Heap.IsList.push x o
  | false => exact Heap.IsTuple.push x o
theorem meets_zipK (b c : Bool) (a d : Addr) (xs ys : Array Value) :
    Meets (Builtin.«zip.__new__» ⟨[.type "zip", .ref a, .ref d], []⟩) (fun _ R s => SrcK b s.heap a xs ∧ SrcK c s.heap d ys ∧
      R (.ok (.ret (.ref (zh4 b c s.heap a d).objs.size))) { s with heap := zh5 b c s.heap a d }) :=
  .of_wp fun prog w A R s h => by
    obtain ⟨hp, g, dr, tk, os⟩ := s
    obtain ⟨hl1, hl2, h⟩ := h
    have hsub := sub_zip
    have hL1 : SrcK b (Shared.heap ⟨hp, g, dr, tk, os⟩) a xs := hl1
    have hL2 : SrcK c (Shared.heap ⟨zh1 b hp a, g, dr, tk, os⟩) d ys := srcK_push hl2 _
    wp_walk using iterK hL1, iterK hL2
    exact ⟨_, rfl, h⟩
theorem itK_new {b : Bool} {h : Heap} {it a : Addr} (e : h.get? it = some { cls := .type (itT b), data := .fields #[.ref a, .int 0 0] }) : ItK b h it a 0 := by
  cases b with
  | true => exact ⟨_, e, rfl, rfl⟩
  | false => exact ⟨_, e, rfl, rfl⟩
theorem call_zipK {prog : Program} {w : World} {A : Around} {E : Value → Shared → Prop} {s : Shared} {b c : Bool} {a d : Addr} {xs ys : Array Value} {Q : Value → Shared → Prop} (hl1 : SrcK b s.heap a xs) (hl2 : SrcK c s.heap d ys)
    (h : ∀ h', IsZip h' (s.heap.objs.size + 4) (s.heap.objs.size + 2) (s.heap.objs.size + 3) .none → IsTupOf2 h' (s.heap.objs.size + 2) (.ref s.heap.objs.size) (.ref (s.heap.objs.size + 1)) →
      IsTupOf2 h' (s.heap.objs.size + 3) .none .none → ItK b h' s.heap.objs.size a 0 → ItK c h' (s.heap.objs.size + 1) d 0 →
      (∀ x o, s.heap.get? x = some o → h'.get? x = some o) → Q (.ref (s.heap.objs.size + 4)) { s with heap := h' }) :
    wpAny (model prog w) A (call (.type "zip") [.ref a, .ref d]) Q E s := by
  refine callType_new F.called_zip (by decide) (F.typeCall_zip_2 _ _) (F.newCall_zip_2 _ _) (fun obj => F.args_object_init_3 obj _ _) F.entry_zip_new
    (meets_zipK b c a d xs ys) ⟨hl1, hl2, ?_⟩
  have z1 : (zh1 b s.heap a).objs.size = s.heap.objs.size + 1 := Heap.size_push ..
  have z2 : (zh2 b c s.heap a d).objs.size = s.heap.objs.size + 2 := by rw [Heap.size_push, z1]
  have z3 : (zh3 b c s.heap a d).objs.size = s.heap.objs.size + 3 := by rw [Heap.size_push, z2]
  have z4 : (zh4 b c s.heap a d).objs.size = s.heap.objs.size + 4 := by rw [Heap.size_push, z3]
  have g5 : (zh5 b c s.heap a d).get? (zh4 b c s.heap a d).objs.size = some _ := Heap.get?_push_size _ rfl
  have g4 : (zh5 b c s.heap a d).get? (zh3 b c s.heap a d).objs.size = some _ := Heap.get?_push_of_some _ (Heap.get?_push_size _ rfl)
  have g3 : (zh5 b c s.heap a d).get? (zh2 b c s.heap a d).objs.size = some _ := Heap.get?_push_of_some _ (Heap.get?_push_of_some _ (Heap.get?_push_size _ rfl))
  have g2 : (zh5 b c s.heap a d).get? (zh1 b s.heap a).objs.size = some _ := Heap.get?_push_of_some _ (Heap.get?_push_of_some _ (Heap.get?_push_of_some _ (Heap.get?_push_size _ rfl)))
  have g1 : (zh5 b c s.heap a d).get? s.heap.objs.size = some _ := Heap.get?_push_of_some _ (Heap.get?_push_of_some _ (Heap.get?_push_of_some _ (Heap.get?_push_of_some _ (Heap.get?_push_size _ rfl))))
  show _ ∧ _
  rw [z2, z3, z4] at g5
  rw [z1, z2] at g3
  rw [z3] at g4
  rw [z1] at g2
  rw [z4]
  exact ⟨⟨_, g5, rfl⟩, h _ g5 g3 g4 (itK_new g1) (itK_new g2) fun x o y =>
    Heap.get?_push_of_some _ (Heap.get?_push_of_some _ (Heap.get?_push_of_some _ (Heap.get?_push_of_some _ (Heap.get?_push_of_some _ y))))⟩
theorem apart5 (n : Nat) : Apart5 (n + 4) (n + 2) (n + 3) n (n + 1) := by
  constructor <;> (show ¬ ((_ : Nat) = (_ : Nat))) <;> omega
theorem apart_src {n a d : Nat} (h : a < n) (h' : d < n) : n + 2 ≠ a ∧ n + 3 ≠ a ∧ n + 2 ≠ d ∧ n + 3 ≠ d := ⟨by omega, by omega, by omega, by omega⟩
def iZipK (K : PySem.W.Frag) (te tf : TE) : TI := fun σ H R => te σ H fun v H1 => tf σ H1 fun u H2 => ∃ b c a d xs ys, v = .ref a ∧ u = .ref d ∧ SqK b K H2 a xs ∧ SqK c K H2 d ys ∧ R (ItzK b c K a d) H2
theorem pi_zipK {X : Cx} {e f : Expr} {te tf : TE} {p pos tpos : Pos} {elts : List Expr} {kk : Nat} (hg : Gl X "zip") (hm : X.mg "zip" = none) (ha : PE X e te) (hb : PE X f tf)
    (hs : starEach [e, f] X.env = (false, eval e X.env) :: starEach [f] X.env := by rfl) (hs2 : starEach [f] X.env = (false, eval f X.env) :: starEach [] X.env := by rfl) (hpl : (backTo pos (starEach [f] X.env)).any (·.1) = false := by rfl) :
    PI X (.Tuple elts kk tpos) (.Call (.Name "zip" p) [e, f] [] pos) (iZipK X.K te tf) := by
  refine ⟨fun pins s σ H R I h => ?_⟩
  have ha2 : PA X [e, f] (tCons te (tCons tf tNil)) := pa_cons ha (pa_cons hb pa_nil hs2) hs
  have h2 : tCons te (tCons tf tNil) σ H (fun vs H2 => match vs with
    | [v, u] => ∃ b c a d xs ys, v = V.ref a ∧ u = V.ref d ∧ SqK b X.K H2 a xs ∧ SqK c X.K H2 d ys ∧ R (ItzK b c X.K a d) H2
    | _ => False) := h
  refine PyProof.Rows.Call_ (ld_blt I hg hm PyProof.Rows.boot_zip (PyProof.Rows.callWith_type1 (thn (ha2.run pos pins s σ H _ I h2) fun us s1 ⟨vs, H1, I1, r1, q1⟩ => ?_) hs hpl))
  dsimp only at q1
  split at q1
  · obtain ⟨b, c, a, d, xs, ys, rfl, rfl, hqx, hqy, q⟩ := q1
    cases r1 with
    | cons r rr =>
      cases rr with
      | cons r' rr =>
        cases rr
        cases r
        cases r'
        obtain ⟨its, rv, p1⟩ := srcK_of I1 hqx
        obtain ⟨its2, rv2, p2⟩ := srcK_of I1 hqy
        have la : a < s1.heap.objs.size := by
          obtain ⟨o, e, _⟩ := p1.get
          exact Heap.lt_size e
        have ld : d < s1.heap.objs.size := by
          obtain ⟨o, e, _⟩ := p2.get
          exact Heap.lt_size e
        refine call_zipK p1 p2 fun h' hz hTI hTO h1 h2 hk => wpAny_pyIter_zip hz ?_
        have I2 : Inv X pins σ H1 { s1 with heap := h' } := I1.kept (t' := s1.toks) hk
        refine ⟨s1.heap.objs.size + 4, [s1.heap.objs.size + 4, s1.heap.objs.size + 2, s1.heap.objs.size + 3, s1.heap.objs.size, s1.heap.objs.size + 1], _, _, H1, rfl, I2,
          turn_zipK b c (apart5 s1.heap.objs.size) (apart_src la ld), ⟨hz, hTI, ⟨_, _, hTO⟩, h1, h2⟩, fun x hx => ?_, q⟩
        have e' : x = s1.heap.objs.size + 4 ∨ x = s1.heap.objs.size + 2 ∨ x = s1.heap.objs.size + 3 ∨ x = s1.heap.objs.size ∨ x = s1.heap.objs.size + 1 := by simpa using hx
        have hle : s1.heap.objs.size ≤ x := by rcases e' with z | z | z | z | z <;> rw [z] <;> omega
        exact I1.fpOk hle (I1.hok.fresh hle)
  · exact q1.elim

/-! ### their functional readings -/
section
variable {C : Ctx}
/-- a list or a tuple, read where it is borrowed -/
theorem sqK_rep {Hs H : Hp} {d : D} {v : V} {xs : List D} (s : Same Hs H) (h : RepB C.K C.a Hs H d v) (e : d = .lst xs ∨ d = .tup xs) : ∃ b a vs, v = .ref a ∧ RepL C.K C.a Hs xs vs ∧ (∀ H', SB C.a H H' → Same Hs H' → SqK b C.K H' a vs) := by
  rcases e with e | e
  · subst e
    cases h with
    | sh h =>
      cases h with
      | lst h1 h2 => exact ⟨true, _, _, rfl, h2, fun H' _ s' => SqL.of (s' _ _ h1)⟩
    | ol h1 h2 h3 => exact ⟨true, _, _, rfl, h2, fun H' b _ => SqL.of (b.k _ _ h3 h1 fun _ z => by cases z)⟩
  · subst e
    cases h with
    | sh h =>
      cases h with
      | tup h1 _ h2 => exact ⟨false, _, _, rfl, h2, fun H' _ s' => same_sqT s' h1⟩
def enumD : Nat → List D → List D
  | _, [] => []
  | n, x :: xs => .tup [.int (n : Nat), x] :: enumD (n + 1) xs
theorem enumD_length : ∀ (n : Nat) (xs : List D), (enumD n xs).length = xs.length
  | _, [] => rfl
  | n, _ :: xs => congrArg (· + 1) (enumD_length (n + 1) xs)
theorem enumD_get : ∀ (n : Nat) (xs : List D) (i : Nat), (enumD n xs)[i]? = (xs[i]?).map fun x => D.tup [.int ((n + i : Nat) : Nat), x]
  | _, [], i => by simp [enumD]
  | n, x :: xs, 0 => by simp [enumD]
  | n, x :: xs, i + 1 => by
    show (enumD (n + 1) xs)[i]? = (xs[i]?).map _
    rw [enumD_get (n + 1) xs i, show n + 1 + i = n + (i + 1) by omega]
def fEnum (f : ME) : MA := fun ρ q qe => f ρ (fun d => match d with
  | .lst xs => q (enumD 0 xs)
  | .tup xs => q (enumD 0 xs)
  | _ => False) qe
theorem dib_enum {t : TE} {f : ME} (h : DB C t f) : DIB C (iEnumK C.K t) (fEnum f) := by
  refine ⟨fun Hs ρ σ H q qe R l r w k => ?_⟩
  refine h.run Hs ρ σ H _ qe _ l r w fun d v Hs1 H1 w1 g1 r1 p1 => ?_
  have key : ∀ xs : List D, (d = .lst xs ∨ d = .tup xs) → q (enumD 0 xs) → ∃ b a vs, v = .ref a ∧ SqK b C.K H1 a vs ∧ R (IteK b C.K a) H1 := fun xs e w2 => by
    obtain ⟨b, a, vs, ev, rl, hk⟩ := sqK_rep r1.sh p1 e
    refine ⟨b, a, vs, ev, hk H1 SB.refl r1.sh, k (enumD 0 xs) _ Hs1 H1 w2 g1 r1 ⟨fun i Hs2 ρ2 σ2 H2 s b2 r2 hi => ?_, fun i Hs2 ρ2 σ2 H2 s b2 r2 hi => ?_, fun i Hs2 ρ2 σ2 H2 x y H' s b2 r2 hx hy => ?_⟩⟩
    · rw [enumD_length] at hi
      have h2 : i < vs.length := by rw [← rl.length]; exact hi
      exact ⟨vs, vs[i], hk H2 b2 (s.trans r2.sh), List.getElem?_eq_getElem h2⟩
    · rw [enumD_length] at hi
      exact ⟨vs, hk H2 b2 (s.trans r2.sh), by rw [← rl.length]; exact Nat.le_of_eq hi.symm⟩
    · obtain ⟨T, z, ot, rfl, hT, hot, rfl, hz⟩ := hy
      obtain ⟨x', e', rx⟩ := rl.get (hz vs (hk H2 b2 (s.trans r2.sh)))
      rw [enumD_get, e'] at hx
      cases hx
      refine ⟨_, r2.gr_new hT, r2.alloc hT, .tup sqT_fr (ndT_fr hot) (.cons ?_ (.cons ((rx.mono s).mono (same_upd (r2.fresh_s hT))) .nil))⟩
      rw [Nat.zero_add]
      exact .int _
  split at w1
  · exact key _ (.inl rfl) w1
  · exact key _ (.inr rfl) w1
  · exact w1.elim
theorem di_enum {t : TE} {f : ME} (h : DT C t f) : DI C (iEnumK C.K t) (fEnum f) := by
  refine ⟨fun Hs ρ σ H q qe R l r w k => ?_⟩
  refine h.run Hs ρ σ H _ qe _ l r w fun d v Hs1 H1 w1 g1 r1 p1 => ?_
  have key : ∀ xs : List D, (d = .lst xs ∨ d = .tup xs) → q (enumD 0 xs) → ∃ b a vs, v = .ref a ∧ SqK b C.K H1 a vs ∧ R (IteK b C.K a) H1 := fun xs e w2 => by
    have key2 : ∃ b a vs, v = .ref a ∧ RepL C.K C.a Hs1 xs vs ∧ (∀ H', Same Hs1 H' → SqK b C.K H' a vs) := by
      rcases e with e | e
      · subst e
        cases p1 with
        | lst h1 h2 => exact ⟨true, _, _, rfl, h2, fun H' s' => SqL.of (s' _ _ h1)⟩
      · subst e
        cases p1 with
        | tup h1 _ h2 => exact ⟨false, _, _, rfl, h2, fun H' s' => same_sqT s' h1⟩
    obtain ⟨b, a, vs, ev, rl, hk⟩ := key2
    refine ⟨b, a, vs, ev, hk H1 r1.sh, k (enumD 0 xs) _ Hs1 H1 w2 g1 r1 ⟨fun i Hs2 ρ2 σ2 H2 s r2 hi => ?_, fun i Hs2 ρ2 σ2 H2 s r2 hi => ?_, fun i Hs2 ρ2 σ2 H2 x y H' s r2 hx hy => ?_⟩⟩
    · rw [enumD_length] at hi
      have h2 : i < vs.length := by rw [← rl.length]; exact hi
      exact ⟨vs, vs[i], hk H2 (s.trans r2.sh), List.getElem?_eq_getElem h2⟩
    · rw [enumD_length] at hi
      exact ⟨vs, hk H2 (s.trans r2.sh), by rw [← rl.length]; exact Nat.le_of_eq hi.symm⟩
    · obtain ⟨T, z, ot, rfl, hT, hot, rfl, hz⟩ := hy
      obtain ⟨x', e', rx⟩ := rl.get (hz vs (hk H2 (s.trans r2.sh)))
      rw [enumD_get, e'] at hx
      cases hx
      refine ⟨_, r2.gr_new hT, r2.alloc hT, .tup sqT_fr (ndT_fr hot) (.cons ?_ (.cons ((rx.mono s).mono (same_upd (r2.fresh_s hT))) .nil))⟩
      rw [Nat.zero_add]
      exact .int _
  split at w1
  · exact key _ (.inl rfl) w1
  · exact key _ (.inr rfl) w1
  · exact w1.elim
def zipD (xs ys : List D) : List D := List.zipWith (fun x y => D.tup [x, y]) xs ys
def D.items : D → Option (List D)
  | .lst xs => some xs
  | .tup xs => some xs
  | _ => none
theorem items_eq {d : D} {xs : List D} (h : d.items = some xs) : d = .lst xs ∨ d = .tup xs := by
  cases d with
  | lst ys => cases h; exact .inl rfl
  | tup ys => cases h; exact .inr rfl
  | _ => cases h
def fZip (f g : ME) : MA := fun ρ q qe => f ρ (fun d => g ρ (fun e => match d.items, e.items with
  | some xs, some ys => q (zipD xs ys)
  | _, _ => False) qe) qe
theorem zipD_length (xs ys : List D) : (zipD xs ys).length = min xs.length ys.length := List.length_zipWith
theorem zipD_get {xs ys : List D} {i : Nat} {z : D} (h : (zipD xs ys)[i]? = some z) : ∃ x y, xs[i]? = some x ∧ ys[i]? = some y ∧ z = .tup [x, y] := by
  unfold zipD at h
  rw [List.getElem?_zipWith] at h
  cases hx : xs[i]? with
  | none => rw [hx] at h; cases hy : ys[i]? <;> rw [hy] at h <;> cases h
  | some x =>
    cases hy : ys[i]? with
    | none => rw [hx, hy] at h; cases h
    | some y =>
      rw [hx, hy] at h
      cases h
      exact ⟨x, y, rfl, rfl, rfl⟩
theorem dib_zip {t u : TE} {f g : ME} (h : DB C t f) (h' : DB C u g) : DIB C (iZipK C.K t u) (fZip f g) := by
  refine ⟨fun Hs ρ σ H q qe R l r w k => ?_⟩
  refine h.run Hs ρ σ H _ qe _ l r w fun d v Hs1 H1 w1 g1 r1 p1 => ?_
  refine h'.run Hs1 ρ σ H1 _ qe _ l r1 w1 fun e u Hs2 H2 w2 g2 r2 p2 => ?_
  split at w2
  · rename_i xs ys ex ey
    obtain ⟨b, a, vs, ev, rl, hk⟩ := sqK_rep r2.sh (p1.mono g2.s g2.b) (items_eq ex)
    obtain ⟨c, a', vs', ev', rl', hk'⟩ := sqK_rep r2.sh p2 (items_eq ey)
    refine ⟨b, c, a, a', vs, vs', ev, ev', hk H2 SB.refl r2.sh, hk' H2 SB.refl r2.sh, k _ _ Hs2 H2 w2 (g1.trans g2) r2 ⟨fun i Hs3 ρ3 σ3 H3 s b3 r3 hi => ?_, fun i Hs3 ρ3 σ3 H3 s b3 r3 hi => ?_, fun i Hs3 ρ3 σ3 H3 x y H' s b3 r3 hx hy => ?_⟩⟩
    · rw [zipD_length, rl.length, rl'.length] at hi
      have h1 : i < vs.length := by omega
      have h2 : i < vs'.length := by omega
      exact ⟨vs, vs', vs[i], vs'[i], hk H3 b3 (s.trans r3.sh), hk' H3 b3 (s.trans r3.sh), List.getElem?_eq_getElem h1, List.getElem?_eq_getElem h2⟩
    · rw [zipD_length, rl.length, rl'.length] at hi
      exact ⟨vs, vs', hk H3 b3 (s.trans r3.sh), hk' H3 b3 (s.trans r3.sh), by omega, by omega, by omega⟩
    · obtain ⟨T, z1, z2, ot, rfl, hT, hot, rfl, hz1, hz2⟩ := hy
      obtain ⟨x1, x2, e1, e2, rfl⟩ := zipD_get hx
      obtain ⟨y1, f1, ry1⟩ := rl.get (hz1 vs (hk H3 b3 (s.trans r3.sh)))
      obtain ⟨y2, f2, ry2⟩ := rl'.get (hz2 vs' (hk' H3 b3 (s.trans r3.sh)))
      rw [e1] at f1
      rw [e2] at f2
      cases f1
      cases f2
      have sm := same_upd (o := frT ot [z1, z2]) (r3.fresh_s hT)
      exact ⟨_, r3.gr_new hT, r3.alloc hT, .tup sqT_fr (ndT_fr hot) (.cons ((ry1.mono s).mono sm) (.cons ((ry2.mono s).mono sm) .nil))⟩
  · exact w2.elim
end
end Fd
/-! dicts of one's own; several stores at once -/
namespace Fd
open PySem PySem.Spec L2
section
variable {C : Ctx}
def keyD : D → Option Key
  | .int i => some (.inl i)
  | .str s => some (.inr s)
  | _ => none
theorem keyD_v {K : PySem.W.Frag} {a : Hd} {H : Hp} {d : D} {v : V} {k : Key} (h : Rep K a H d v) (e : keyD d = some k) : v = kV k := by
  cases h <;> first | (cases e; rfl) | cases e
def getD' (kvs : List (Key × D)) (k : Key) : Option D := (kvs.find? fun kv => decide (kv.1 = k)).map (·.2)
def putD (kvs : List (Key × D)) (k : Key) (d : D) : List (Key × D) :=
  if (kvs.any fun kv => decide (kv.1 = k)) = true then kvs.map (fun kv => if kv.1 = k then (kv.1, d) else kv) else kvs ++ [(k, d)]
theorem repK_get {K : PySem.W.Frag} {a : Hd} {H : Hp} {k : Key} : ∀ {kvs : List (Key × D)} {vs : List (Key × V)}, RepK K a H kvs vs → (∀ d, getD' kvs k = some d → ∃ v, valV vs k = some v ∧ Rep K a H d v) ∧ (getD' kvs k = none → valV vs k = none)
  | _, _, .nil => ⟨fun d e => (by cases e), fun _ => rfl⟩
  | _, _, .cons (k := k') (d := d') (v := v') (ds := ds) (vs := vs) h r => by
    obtain ⟨i1, i2⟩ := repK_get (k := k) r
    by_cases e : k' = k
    · have e1 : getD' ((k', d') :: ds) k = some d' := by simp [getD', List.find?_cons, e]
      have e2 : valV ((k', v') :: vs) k = some v' := by simp [valV, List.find?_cons, e]
      rw [e1, e2]
      exact ⟨fun d q => by cases q; exact ⟨v', rfl, h⟩, fun q => by cases q⟩
    · have e1 : getD' ((k', d') :: ds) k = getD' ds k := by simp [getD', List.find?_cons, e]
      have e2 : valV ((k', v') :: vs) k = valV vs k := by simp [valV, List.find?_cons, e]
      rw [e1, e2]
      exact ⟨i1, i2⟩
theorem repK_any {K : PySem.W.Frag} {a : Hd} {H : Hp} {k : Key} : ∀ {kvs : List (Key × D)} {vs : List (Key × V)}, RepK K a H kvs vs → (kvs.any fun kv => decide (kv.1 = k)) = vs.any fun kv => decide (kv.1 = k)
  | _, _, .nil => rfl
  | _, _, .cons h r => by rw [List.any_cons, List.any_cons, repK_any r]
theorem repK_map {K : PySem.W.Frag} {a : Hd} {H : Hp} {k : Key} {d : D} {v : V} (q : Rep K a H d v) : ∀ {kvs : List (Key × D)} {vs : List (Key × V)}, RepK K a H kvs vs → RepK K a H (kvs.map fun kv => if kv.1 = k then (kv.1, d) else kv) (vs.map fun kv => if kv.1 = k then (kv.1, v) else kv)
  | _, _, .nil => .nil
  | _, _, .cons (k := k') h r => by
    rw [List.map_cons, List.map_cons]
    by_cases e : k' = k
    · rw [if_pos e, if_pos e]
      exact .cons q (repK_map q r)
    · rw [if_neg e, if_neg e]
      exact .cons h (repK_map q r)
theorem repK_app {K : PySem.W.Frag} {a : Hd} {H : Hp} : ∀ {kvs es : List (Key × D)} {vs ws : List (Key × V)}, RepK K a H kvs vs → RepK K a H es ws → RepK K a H (kvs ++ es) (vs ++ ws)
  | _, _, _, _, .nil, q => q
  | _, _, _, _, .cons h r, q => .cons h (repK_app r q)
theorem repK_put {K : PySem.W.Frag} {a : Hd} {H : Hp} {k : Key} {d : D} {v : V} (q : Rep K a H d v) {kvs : List (Key × D)} {vs : List (Key × V)} (r : RepK K a H kvs vs) : RepK K a H (putD kvs k d) (putK vs k v) := by
  unfold putD putK
  rw [← repK_any (k := k) r]
  split
  · exact repK_map q r
  · exact repK_app r (.cons q .nil)
theorem repK_key {K : PySem.W.Frag} {a : Hd} {H : Hp} : ∀ {kvs : List (Key × D)} {vs : List (Key × V)} {i : Nat} {k : Key} {v : V}, RepK K a H kvs vs → vs[i]? = some (k, v) → ∃ d, kvs[i]? = some (k, d)
  | _, _, i, _, _, .nil, e => by simp at e
  | _, _, 0, k, v, .cons h r, e => by
    have e2 := Option.some.inj e
    cases e2
    exact ⟨_, rfl⟩
  | _, _, i + 1, k, v, .cons h r, e => by
    obtain ⟨d, h2⟩ := repK_key (i := i) r (by simpa using e)
    exact ⟨d, by simpa using h2⟩
def Key.d : Key → D
  | .inl i => .int i
  | .inr s => .str s
theorem key_rep {K : PySem.W.Frag} {a : Hd} {H : Hp} : ∀ k : Key, Rep K a H (Key.d k) (kV k)
  | .inl i => .int i
  | .inr s => .str s

/-- x[k] = e, x a dict of one's own -/
def sPutD (i : Nat) (fk fe : ME) : MS := fun ρ sq qe => fe ρ (fun d => match ρ[i]? with
  | some (.od kvs) => fk ρ (fun k => match keyD k with
    | some k => kvs.length < sizeLine ∧ sq.nx (ρ.set i (.od (putD kvs k d)))
    | none => False) qe
  | _ => False) qe
theorem ds_putD {i : Nat} {tk te : TE} {fk fe : ME} (hk : DT C tk fk) (he : DT C te fe) : DS C (sDPut (tVar i) tk te) (sPutD i fk fe) := by
  refine ⟨fun Hs ρ σ H sq qe E l r w k => he.run Hs ρ σ H _ qe _ l r w fun d v Hs1 H1 w1 g1 r1 p1 => ?_⟩
  split at w1
  · rename_i kvs e
    obtain ⟨p, vs, ev, h1, h2, h3, h4, h5⟩ := r1.en i _ e
    refine ⟨_, ev, hk.run Hs1 ρ σ H1 _ qe _ l r1 w1 fun kd vk Hs2 H2 w2 g2 r2 p2 => ?_⟩
    split at w2
    · rename_i kk ek
      obtain rfl := keyD_v p2 ek
      obtain ⟨p', vs', ev', h1', h2', h3', h4', h5'⟩ := r2.en i _ e
      rw [ev] at ev'
      cases ev'
      refine ⟨p, _, rfl, DPut.k h1' (by rw [← h2'.length]; exact w2.1), ?_⟩
      exact k.nx _ _ Hs2 _ w2.2 (g1.s.trans g2.s) (r2.change e rfl ev h3' h4' h5' ⟨p, _, rfl, upd_same, repK_put (p1.mono g2.s) h2', h3', h4', h5'⟩)
    · exact w2.elim
  · exact w1.elim
/-- x[k], x a dict in a slot -/
def dOf (ρ : List En) (i : Nat) : Option (List (Key × D)) := match ρ[i]? with
  | some (.od kvs) => some kvs
  | some (.odl _ _ _ kvs) => some kvs
  | some (.sh (.dct kvs)) => some kvs
  | _ => none
theorem dOf_rd {Hs H : Hp} {ρ : List En} {σ : L2.St} (r : RS C Hs ρ σ H) {i : Nat} {kvs : List (Key × D)} (e : dOf ρ i = some kvs) : ∃ p vs, σ[i]? = some (some (.ref p)) ∧ (∀ Hs' H', Gr C.a Hs H Hs' H' → RS C Hs' ρ σ H' → Rd H' p (.dK vs)) ∧ RepK C.K C.a Hs kvs vs := by
  unfold dOf at e
  split at e
  · rename_i ks en
    cases e
    obtain ⟨p, vs, ev, h1, h2, h3, h4, h5⟩ := r.en i _ en
    exact ⟨p, vs, ev, fun Hs' H' g r' => .inl (g.b.k _ _ h5 h1 fun _ z => by cases z), h2⟩
  · rename_i p ob vs ks en
    cases e
    obtain ⟨ev, h1, h2, h3, h4, h5⟩ := r.en i _ en
    exact ⟨p, vs, ev, fun Hs' H' g r' => .inr ⟨ob, g.b.k _ _ h5 h1 fun _ z => by cases z⟩, h2⟩
  · rename_i ks en
    cases e
    obtain ⟨v, ev, rp⟩ := r.en i _ en
    cases rp with
    | dct h1 h2 => exact ⟨_, _, ev, fun Hs' H' g r' => .inl (r'.sh _ _ (g.s _ _ h1)), h2⟩
  · cases e
def eGetD (i : Nat) (fk : ME) : ME := fun ρ q qe => match dOf ρ i with
  | some kvs => fk ρ (fun k => match keyD k with
    | some k => (match getD' kvs k with
      | some d => q d
      | none => False)
    | none => False) qe
  | none => False
theorem dt_getD {i : Nat} {tk : TE} {fk : ME} (hk : DT C tk fk) : DT C (tDGet (tVar i) tk) (eGetD i fk) := by
  refine ⟨fun Hs ρ σ H q qe Q l r w k => ?_⟩
  unfold eGetD at w
  split at w
  · rename_i kvs e
    obtain ⟨p, vs, ev, rd, rk⟩ := dOf_rd r e
    refine ⟨_, ev, hk.run Hs ρ σ H _ qe _ l r w fun kd vk Hs1 H1 w1 g1 r1 p1 => ?_⟩
    split at w1
    · rename_i kk ek
      split at w1
      · rename_i d ed
        obtain rfl := keyD_v p1 ek
        obtain ⟨v, e1, h2⟩ := (repK_get rk).1 d ed
        exact ⟨p, v, rfl, .inl ⟨vs, kk, rd Hs1 H1 g1 r1, rfl, e1.symm⟩, k d v Hs1 H1 w1 g1 r1 (h2.mono g1.s)⟩
      · exact w1.elim
    · exact w1.elim
  · exact w.elim
/-- k in x, k not in x -/
def eInD (neg : Bool) (i : Nat) (fk : ME) : ME := fun ρ q qe => fk ρ (fun k => match keyD k, dOf ρ i with
  | some k, some kvs => q (.bl (if neg then !(getD' kvs k).isSome else (getD' kvs k).isSome))
  | _, _ => False) qe
theorem dt_inD {i : Nat} {tk : TE} {fk : ME} (hk : DT C tk fk) : DT C (tDIn tk (tVar i)) (eInD false i fk) := by
  refine ⟨fun Hs ρ σ H q qe Q l r w k => ?_⟩
  refine hk.run Hs ρ σ H _ qe _ l r w fun kd vk Hs1 H1 w1 g1 r1 p1 => ?_
  split at w1
  · rename_i kk kvs ek e
    obtain rfl := keyD_v p1 ek
    obtain ⟨p, vs, ev, rd, rk⟩ := dOf_rd r1 e
    refine ⟨_, ev, p, valV vs kk, rfl, .inl ⟨vs, kk, rd Hs1 H1 Gr.refl r1, rfl, rfl⟩, ?_⟩
    have e2 : (valV vs kk).isSome = (getD' kvs kk).isSome := by
      cases h : getD' kvs kk with
      | none => rw [(repK_get rk).2 h]; rfl
      | some d =>
        obtain ⟨v, e1, _⟩ := (repK_get rk).1 d h
        rw [e1]; rfl
    rw [e2]
    exact k _ _ Hs1 H1 w1 g1 r1 (.bl _)
  · exact w1.elim
theorem dt_notInD {i : Nat} {tk : TE} {fk : ME} (hk : DT C tk fk) : DT C (tDNotIn tk (tVar i)) (eInD true i fk) := by
  refine ⟨fun Hs ρ σ H q qe Q l r w k => ?_⟩
  refine hk.run Hs ρ σ H _ qe _ l r w fun kd vk Hs1 H1 w1 g1 r1 p1 => ?_
  split at w1
  · rename_i kk kvs ek e
    obtain rfl := keyD_v p1 ek
    obtain ⟨p, vs, ev, rd, rk⟩ := dOf_rd r1 e
    refine ⟨_, ev, p, valV vs kk, rfl, .inl ⟨vs, kk, rd Hs1 H1 Gr.refl r1, rfl, rfl⟩, ?_⟩
    have e2 : (valV vs kk).isSome = (getD' kvs kk).isSome := by
      cases h : getD' kvs kk with
      | none => rw [(repK_get rk).2 h]; rfl
      | some d =>
        obtain ⟨v, e1, _⟩ := (repK_get rk).1 d h
        rw [e1]; rfl
    rw [e2]
    exact k _ _ Hs1 H1 w1 g1 r1 (.bl _)
  · exact w1.elim
/-- a dict as a test in a comparison: (pt_cmp) -/
theorem dtt_valB {t : TE} {f : ME} (h : DT C t f) : DTt C (tB t) (mVal f) := by
  refine ⟨fun Hs ρ σ H q qe Q l r w k => ?_⟩
  refine h.run Hs ρ σ H _ qe _ l r w fun d v Hs1 H1 w1 g1 r1 p1 => ?_
  split at w1
  · cases p1
    exact ⟨_, rfl, k _ Hs1 H1 w1 g1 r1⟩
  · exact w1.elim

def keysD (kvs : List (Key × D)) : List D := kvs.map fun kv => Key.d kv.1
/-- the loop's body keeps the dict's slot (looked at in every turn) -/
def forKL (g : MG) (body : MS) (i : Nat) (e : En) : List D → List En → SQ → QE → Prop
  | [], ρ, sq, _ => sq.nx ρ
  | d :: ds, ρ, sq, qe => g d ρ fun ρ1 => body ρ1 { nx := fun ρ2 => ρ2[i]? = some e ∧ forKL g body i e ds ρ2 sq qe, rt := fun _ _ => False, bk := fun _ => False, ct := fun ρ2 => ρ2[i]? = some e ∧ forKL g body i e ds ρ2 sq qe } qe
def sForD (i : Nat) (g : MG) (body : MS) : MS := fun ρ sq qe => match ρ[i]? with
  | some (.od kvs) => ∀ p ob vs, forKL g body i (.odl p ob vs kvs) (keysD kvs) (ρ.set i (.odl p ob vs kvs))
    { nx := fun ρ' => sq.nx (ρ'.set i (.od kvs)), rt := fun _ _ => False, bk := fun _ => False, ct := fun _ => False } qe
  | _ => False
theorem RS.relock {Hs H : Hp} {ρ : List En} {σ : L2.St} (r : RS C Hs ρ σ H) {i : Nat} {e0 e : En} {p : Addr} {o : HO} (h0 : ρ[i]? = some e0) (o0 : e0.own = true) (s0 : σ[i]? = some (some (.ref p)))
    (he : EnOk C Hs (upd H p o) e (some (some (.ref p)))) : RS C Hs (ρ.set i e) σ (upd H p o) := by
  obtain ⟨a, b, c⟩ := lt_own r h0 o0 s0
  exact r.change h0 o0 s0 a b c he
theorem set_get {ρ : List En} {i : Nat} {e e' : En} (h : ρ[i]? = some e) : (ρ.set i e')[i]? = some e' := List.getElem?_set_self (List.getElem?_eq_some_iff.mp h).1
theorem ds_forD {i : Nat} {tg : TG} {tb : TS} {S : List Nat} {g : MG} {body : MS} (hg : DG C S tg g) (hS : i ∉ S) (hb : DS C tb body) : DS C (tLock (tFor (iKeys (tVar i)) tg tb)) (sForD i g body) := by
  refine ⟨fun Hs ρ σ H sq qe E l r w k => ?_⟩
  unfold sForD at w
  split at w
  · rename_i kvs e
    obtain ⟨p, vs, ev, h1, h2, h3, h4, h5⟩ := r.en i _ e
    refine ⟨p, .dK vs, h1, trivial, fun ob => ?_⟩
    have w := w p ob vs
    have r1 : RS C Hs (ρ.set i (.odl p ob vs kvs)) σ (upd H p (.frz ob (.dK vs))) := r.relock e rfl ev ⟨rfl, upd_same, h2, h3, h4, h5⟩
    refine ⟨_, ev, p, ob, rfl, .inl ⟨vs, upd_same, ?_⟩⟩
    have hl : (keysD kvs).length = vs.length := by
      unfold keysD
      rw [List.length_map, h2.length]
    refine ⟨fun n m σ2 H2 => m = vs.length - n ∧ n ≤ vs.length ∧ ∃ Hs2 ρ2, Same Hs Hs2 ∧ RS C Hs2 ρ2 σ2 H2 ∧ ρ2[i]? = some (.odl p ob vs kvs) ∧ forKL g body i (.odl p ob vs kvs) ((keysD kvs).drop n) ρ2
      { nx := fun ρ' => sq.nx (ρ'.set i (.od kvs)), rt := fun _ _ => False, bk := fun _ => False, ct := fun _ => False } qe, ⟨vs.length, by simp, Nat.zero_le _, Hs, _, Same.refl _, r1, set_get e, w⟩, ?_⟩
    rintro n m σ2 H2 ⟨rfl, hle, Hs2, ρ2, s2, r2, e2, w2⟩
    obtain ⟨ev2, k1, k2, k3, k4, k5⟩ := r2.en i _ e2
    by_cases hlt : n < vs.length
    · refine .inr ⟨⟨k1, hlt⟩, ?_⟩
      rw [List.drop_eq_getElem_cons (by rw [hl]; exact hlt)] at w2
      refine ⟨fun σ' H' => ∃ Hs' ρ', Same Hs Hs' ∧ RS C Hs' ρ' σ' H' ∧ ρ'[i]? = some (.odl p ob vs kvs) ∧ forKL g body i (.odl p ob vs kvs) ((keysD kvs).drop (n + 1)) ρ'
        { nx := fun ρ' => sq.nx (ρ'.set i (.od kvs)), rt := fun _ _ => False, bk := fun _ => False, ct := fun _ => False } qe, fun σ' H' h' => ⟨vs.length - (n + 1), by omega, rfl, hlt, h'⟩, fun x H' hy => ?_⟩
      obtain ⟨rfl, kk, vv, hkk, rfl⟩ := hy
      obtain ⟨dd, hdd⟩ := repK_key k2 hkk
      have ed : (keysD kvs)[n]'(by rw [hl]; exact hlt) = Key.d kk := by
        obtain ⟨h7, h8⟩ := List.getElem?_eq_some_iff.mp hdd
        unfold keysD
        rw [List.getElem_map, h8]
      rw [ed] at w2
      refine hg.run Hs2 ρ2 σ2 H' _ _ _ _ r2 (key_rep kk) w2 fun ρ4 σ4 w4 r4 _ => ?_
      exact hb.run Hs2 ρ4 σ4 H' _ qe _ l r4 w4 ⟨fun ρ' σ' Hs' H' w' s' r' => ⟨Hs', ρ', s2.trans s', r', w'.1, w'.2⟩, fun _ _ _ _ _ _ w' => w'.elim, fun _ _ _ _ w' => w'.elim, fun ρ' σ' Hs' H' w' s' r' => ⟨Hs', ρ', s2.trans s', r', w'.1, w'.2⟩⟩
    · rw [List.drop_eq_nil_of_le (by rw [hl]; omega)] at w2
      refine .inl ⟨⟨k1, by omega⟩, k1, ?_⟩
      exact k.nx _ _ Hs2 _ w2 s2 (r2.relock e2 rfl ev2 ⟨p, vs, rfl, upd_same, k2, k3, k4, k5⟩)
  · exact w.elim

/-! ### several stores at once -/
/-- a value that comes to a slot -/
abbrev MN := List En → (List En → Prop) → QE → Prop
structure DN (C : Ctx) (n : Nat) (t : TA) (f : MN) : Prop where
  run : ∀ Hs ρ σ H q qe Q, (∀ x, qe x → C.W x) → RS C Hs ρ σ H → f ρ q qe →
    (∀ es vs Hs' H', q es → Gr C.a Hs H Hs' H' → RS C Hs' ρ σ H' → es.length = n → vs.length = n →
      (∀ (i : Nat) (e : En) (v : V), es[i]? = some e → vs[i]? = some v → EnOk C Hs' H' e (some (some v)) ∧ (e.own = true → ∃ p, v = .ref p ∧ Fre H p)) →
      (∀ (i j : Nat) (e e' : En) (v : V), i ≠ j → es[i]? = some e → es[j]? = some e' → e.own = true → e'.own = true → vs[i]? = some v → vs[j]? = some v → False) → Q vs H') → t σ H Q
def nNil : MN := fun _ q _ => q []
def nSh (f : ME) (g : MN) : MN := fun ρ q qe => f ρ (fun d => g ρ (fun es => q (.sh d :: es)) qe) qe
def nOl (f : MA) (g : MN) : MN := fun ρ q qe => f ρ (fun ds => g ρ (fun es => q (.ol ds :: es)) qe) qe
def nOd (g : MN) : MN := fun ρ q qe => g ρ (fun es => q (.od [] :: es)) qe
theorem dn_nil : DN C 0 tNil nNil := ⟨fun Hs ρ σ H q qe Q l r w k => k [] [] Hs H w Gr.refl r rfl rfl (fun i e v h => by simp at h) fun i j e e' v _ h => by simp at h⟩
theorem dn_sh {n : Nat} {t : TE} {u : TA} {f : ME} {g : MN} (h : DT C t f) (h2 : DN C n u g) : DN C (n + 1) (tCons t u) (nSh f g) := by
  refine ⟨fun Hs ρ σ H q qe Q l r w k => ?_⟩
  refine h.run Hs ρ σ H _ qe _ l r w fun d v Hs1 H1 w1 g1 r1 p1 => ?_
  refine h2.run Hs1 ρ σ H1 _ qe _ l r1 w1 fun es vs Hs2 H2 w2 g2 r2 l1 l2 ok ne => ?_
  refine k _ _ Hs2 H2 w2 (g1.trans g2) r2 (congrArg (· + 1) l1) (congrArg (· + 1) l2) (fun i e v' he hv => ?_) fun i j e e' v' hij he he' o o' hv hv' => ?_
  · cases i with
    | zero =>
      cases Option.some.inj he
      cases Option.some.inj hv
      exact ⟨⟨v, rfl, p1.mono g2.s⟩, fun z => by cases z⟩
    | succ i =>
      obtain ⟨a, b⟩ := ok i e v' (by simpa using he) (by simpa using hv)
      refine ⟨a, fun z => ?_⟩
      obtain ⟨p, e1, e2⟩ := b z
      refine ⟨p, e1, ?_⟩
      subst e1
      have na : C.a.p ≠ some p := r1.fre_a e2
      exact g1.b.free na e2
  · cases i with
    | zero =>
      cases Option.some.inj he
      cases o
    | succ i =>
      cases j with
      | zero =>
        cases Option.some.inj he'
        cases o'
      | succ j => exact ne i j e e' v' (by omega) (by simpa using he) (by simpa using he') o o' (by simpa using hv) (by simpa using hv')
theorem dn_own {n : Nat} {t : TE} {u : TA} {en : En} {v : V} {o : HO} {Hs1 H1 Hs2 H2 Hs H : Hp} {ρ : List En} {σ : L2.St} {p : Addr} (hv : v = .ref p) (hp : H1 p = none) (g1 : Gr C.a Hs H Hs1 H1) (r1 : RS C Hs1 ρ σ H1) (g2 : Gr C.a Hs1 (upd H1 p o) Hs2 H2)
    (ok : EnOk C Hs1 (upd H1 p o) en (some (some (.ref p)))) (ow : en.own = true) (r2 : RS C Hs2 ρ σ H2) {es : List En} {vs : List V}
    (ok2 : ∀ (i : Nat) (e : En) (v : V), es[i]? = some e → vs[i]? = some v → EnOk C Hs2 H2 e (some (some v)) ∧ (e.own = true → ∃ p', v = .ref p' ∧ Fre (upd H1 p o) p'))
    (ne : ∀ (i j : Nat) (e e' : En) (v : V), i ≠ j → es[i]? = some e → es[j]? = some e' → e.own = true → e'.own = true → vs[i]? = some v → vs[j]? = some v → False) (ho : ∀ ps, o ≠ .tbl ps := by intro ps z; cases z) :
    (∀ (i : Nat) (e : En) (v' : V), (en :: es)[i]? = some e → (v :: vs)[i]? = some v' → EnOk C Hs2 H2 e (some (some v')) ∧ (e.own = true → ∃ p', v' = .ref p' ∧ Fre H p')) ∧
    (∀ (i j : Nat) (e e' : En) (v' : V), i ≠ j → (en :: es)[i]? = some e → (en :: es)[j]? = some e' → e.own = true → e'.own = true → (v :: vs)[i]? = some v' → (v :: vs)[j]? = some v' → False) := by
  subst hv
  have na : C.a.p ≠ some p := r1.fresh_a hp
  have up : ∀ q, Fre (upd H1 p o) q → Fre H1 q ∧ q ≠ p := fun q h => by
    by_cases z : q = p
    · rw [z] at h
      exact (h.not upd_same ho).elim
    · exact ⟨fun u hu => h u (by rw [upd_ne z]; exact hu), z⟩
  have ok3 : EnOk C Hs2 H2 en (some (some (.ref p))) := ok.mono g2.s g2.b fun q _ h3 h4 => by
    cases z : Hs2 q with
    | none => rfl
    | some u =>
      rcases g2.n q u z with y | y
      · rw [h4] at y
        cases y
      · exact absurd y.1 h3
  refine ⟨fun i e v' he hv => ?_, fun i j e e' v' hij he he' o o' hv hv' => ?_⟩
  · cases i with
    | zero =>
      cases Option.some.inj he
      cases Option.some.inj hv
      exact ⟨ok3, fun _ => ⟨p, rfl, g1.b.free na (.of hp)⟩⟩
    | succ i =>
      obtain ⟨a, b⟩ := ok2 i e v' (by simpa using he) (by simpa using hv)
      refine ⟨a, fun z => ?_⟩
      obtain ⟨q, e1, e2⟩ := b z
      exact ⟨q, e1, g1.b.free (r1.fre_a (up q e2).1) (up q e2).1⟩
  · cases i with
    | zero =>
      cases j with
      | zero => exact hij rfl
      | succ j =>
        cases Option.some.inj hv
        obtain ⟨q, e1, e2⟩ := (ok2 j e' _ (by simpa using he') (by simpa using hv')).2 o'
        cases e1
        exact (up p e2).2 rfl
    | succ i =>
      cases j with
      | zero =>
        cases Option.some.inj hv'
        obtain ⟨q, e1, e2⟩ := (ok2 i e _ (by simpa using he) (by simpa using hv)).2 o
        cases e1
        exact (up p e2).2 rfl
      | succ j => exact ne i j e e' v' (by omega) (by simpa using he) (by simpa using he') o o' (by simpa using hv) (by simpa using hv')
theorem dn_ol {n : Nat} {t : TE} {u : TA} {f : MA} {g : MN} (h : DF C t f) (h2 : DN C n u g) : DN C (n + 1) (tCons t u) (nOl f g) := by
  refine ⟨fun Hs ρ σ H q qe Q l r w k => ?_⟩
  refine h.run Hs ρ σ H _ qe _ l r w fun ds p vs1 Hs1 H1 w1 g1 r1 hp rl => ?_
  have r1' := r1.side (o := .lst vs1) hp
  have gs := r1.gr_side (o := .lst vs1) hp
  refine h2.run Hs1 ρ σ _ _ qe _ l r1' w1 fun es vs Hs2 H2 w2 g2 r2 l1 l2 ok ne => ?_
  obtain ⟨a, b⟩ := dn_own (n := n) (t := t) (u := u) (en := .ol ds) rfl hp g1 r1 g2 ⟨p, vs1, rfl, upd_same, rl, r1.fresh_0 hp, r1.fresh_s hp, r1.fresh_a hp⟩ rfl r2 ok ne
  exact k _ _ Hs2 H2 w2 (g1.trans (gs.trans g2)) r2 (congrArg (· + 1) l1) (congrArg (· + 1) l2) a b
theorem dn_od {n : Nat} {u : TA} {g : MN} (h2 : DN C n u g) : DN C (n + 1) (tCons tDNewK u) (nOd g) := by
  refine ⟨fun Hs ρ σ H q qe Q l r w k => fun p hp => ?_⟩
  have r1' := r.side (o := .dK []) hp
  have gs := r.gr_side (o := .dK []) hp
  refine h2.run Hs ρ σ _ _ qe _ l r1' w fun es vs Hs2 H2 w2 g2 r2 l1 l2 ok ne => ?_
  obtain ⟨a, b⟩ := dn_own (n := n) (t := tDNewK) (u := u) (en := .od []) rfl hp Gr.refl r g2 ⟨p, [], rfl, upd_same, .nil, r.fresh_0 hp, r.fresh_s hp, r.fresh_a hp⟩ rfl r2 ok ne
  exact k _ _ Hs2 H2 w2 (gs.trans g2) r2 (congrArg (· + 1) l1) (congrArg (· + 1) l2) a b
theorem RS.put {Hs H : Hp} {ρ : List En} {σ : L2.St} (r : RS C Hs ρ σ H) {i : Nat} {e : En} {v : V} (he : EnOk C Hs H e (some (some v)))
    (hn : e.own = true → ∀ (k : Nat) (e' : En), k ≠ i → ρ[k]? = some e' → e'.own = true → σ[k]? ≠ some (some v)) : RS C Hs (ρ.set i e) (σ.set i (some v)) H where
  len := by rw [List.length_set, List.length_set, r.len]
  fr := r.fr
  sh := r.sh
  sh0 := r.sh0
  new := r.new
  hd := r.hd
  hd0 := r.hd0
  en := fun j e' hj => by
    by_cases z : i = j
    · subst z
      have hl : i < ρ.length := by
        have q := (List.getElem?_eq_some_iff.mp hj).1
        rwa [List.length_set] at q
      rw [List.getElem?_set_self hl] at hj
      cases hj
      rw [List.getElem?_set_self (by rw [← r.len]; exact hl)]
      exact he
    · rw [List.getElem?_set_ne z] at hj ⊢
      exact r.en j e' hj
  sep := fun j k p e1 e2 hjk h1 h2 o1 o2 s1 s2 => by
    by_cases z : i = j
    · subst z
      have y : i ≠ k := hjk
      have hl : i < ρ.length := by
        have q := (List.getElem?_eq_some_iff.mp h1).1
        rwa [List.length_set] at q
      rw [List.getElem?_set_self hl] at h1
      cases h1
      rw [List.getElem?_set_self (by rw [← r.len]; exact hl)] at s1
      cases s1
      rw [List.getElem?_set_ne y] at h2 s2
      exact hn o1 k e2 (Ne.symm y) h2 o2 s2
    · by_cases y : i = k
      · subst y
        have hl : i < ρ.length := by
          have q := (List.getElem?_eq_some_iff.mp h2).1
          rwa [List.length_set] at q
        rw [List.getElem?_set_self hl] at h2
        cases h2
        rw [List.getElem?_set_self (by rw [← r.len]; exact hl)] at s2
        cases s2
        rw [List.getElem?_set_ne z] at h1 s1
        exact hn o2 j e1 (Ne.symm z) h1 o1 s1
      · rw [List.getElem?_set_ne z] at h1 s1
        rw [List.getElem?_set_ne y] at h2 s2
        exact r.sep j k p e1 e2 hjk h1 h2 o1 o2 s1 s2
def setAll {α : Type} : List α → List Nat → List α → List α
  | xs, i :: is, e :: es => setAll (xs.set i e) is es
  | xs, _, _ => xs
theorem RS.putAll {Hs H : Hp} : ∀ {is : List Nat} {es : List En} {vs : List V} {ρ : List En} {σ : L2.St}, RS C Hs ρ σ H → es.length = is.length → vs.length = is.length → is.Nodup →
    (∀ (i : Nat) (e : En) (v : V), es[i]? = some e → vs[i]? = some v → EnOk C Hs H e (some (some v)) ∧ (e.own = true → ∀ (k : Nat) (e' : En), ρ[k]? = some e' → e'.own = true → σ[k]? ≠ some (some v))) →
    (∀ (i j : Nat) (e e' : En) (v : V), i ≠ j → es[i]? = some e → es[j]? = some e' → e.own = true → e'.own = true → vs[i]? = some v → vs[j]? = some v → False) →
    RS C Hs (setAll ρ is es) (setAll σ is (vs.map some)) H
  | [], es, vs, ρ, σ, r, _, _, _, _, _ => by
    cases es <;> cases vs <;> exact r
  | i :: is, [], vs, ρ, σ, r, h, _, _, _, _ => by cases h
  | i :: is, e :: es, [], ρ, σ, r, _, h, _, _, _ => by cases h
  | i :: is, e :: es, v :: vs, ρ, σ, r, h1, h2, nd, ok, ne => by
    have nd' := List.nodup_cons.mp nd
    show RS C Hs (setAll (ρ.set i e) is es) (setAll (σ.set i (some v)) is (vs.map some)) H
    refine RS.putAll (r.put (ok 0 e v rfl rfl).1 fun o k e' hk => (ok 0 e v rfl rfl).2 o k e') (by simpa using h1) (by simpa using h2) nd'.2 (fun j ej vj hj hvj => ?_) fun j k ej ek vj hjk hj hk oj ok' hvj hvk =>
      ne (j + 1) (k + 1) ej ek vj (by omega) (by simpa using hj) (by simpa using hk) oj ok' (by simpa using hvj) (by simpa using hvk)
    obtain ⟨a, b⟩ := ok (j + 1) ej vj (by simpa using hj) (by simpa using hvj)
    refine ⟨a, fun o k e' hk ok' hs => ?_⟩
    by_cases z : i = k
    · subst z
      have hl : i < ρ.length := by
        have q := (List.getElem?_eq_some_iff.mp hk).1
        rwa [List.length_set] at q
      rw [List.getElem?_set_self hl] at hk
      cases hk
      rw [List.getElem?_set_self (by rw [← r.len]; exact hl)] at hs
      cases hs
      exact ne 0 (j + 1) e ej v (by omega) rfl (by simpa using hj) ok' o rfl (by simpa using hvj)
    · rw [List.getElem?_set_ne z] at hk hs
      exact b o k e' hk ok' hs
def sMany (is : List Nat) (f : MN) : MS := fun ρ sq qe => f ρ (fun es => sq.nx (setAll ρ is es)) qe
def gNames : List Nat → TGs
  | [] => gNil
  | i :: is => gCons (gName i) (gNames is)
theorem gNames_run : ∀ {is : List Nat} {vs : List V} {σ : L2.St} {H : Hp} {Q : L2.St → Hp → Prop}, vs.length = is.length → Q (setAll σ is (vs.map some)) H → gNames is vs σ H Q
  | [], [], _, _, _, _, h => ⟨rfl, h⟩
  | [], _ :: _, _, _, _, h, _ => by cases h
  | i :: is, [], _, _, _, h, _ => by cases h
  | i :: is, v :: vs, σ, H, Q, h, q => ⟨v, vs, rfl, gNames_run (is := is) (vs := vs) (by simpa using h) q⟩
theorem many_ok {n : Nat} {Hs H Hs' H' : Hp} {ρ : List En} {σ : L2.St} {is : List Nat} {es : List En} {vs : List V} (r : RS C Hs ρ σ H) (r' : RS C Hs' ρ σ H') (hi : is.length = n) (nd : is.Nodup) (l1 : es.length = n) (l2 : vs.length = n)
    (ok : ∀ (i : Nat) (e : En) (v : V), es[i]? = some e → vs[i]? = some v → EnOk C Hs' H' e (some (some v)) ∧ (e.own = true → ∃ p, v = .ref p ∧ Fre H p))
    (ne : ∀ (i j : Nat) (e e' : En) (v : V), i ≠ j → es[i]? = some e → es[j]? = some e' → e.own = true → e'.own = true → vs[i]? = some v → vs[j]? = some v → False) : RS C Hs' (setAll ρ is es) (setAll σ is (vs.map some)) H' := by
  refine r'.putAll (l1.trans hi.symm) (l2.trans hi.symm) nd (fun i e v he hv => ⟨(ok i e v he hv).1, fun o k e' hk ok' hs => ?_⟩) ne
  obtain ⟨p, e1, e2⟩ := (ok i e v he hv).2 o
  subst e1
  have q := r.en k e' hk
  cases e' with
  | no => cases ok'
  | sh d => cases ok'
  | ol ds =>
    obtain ⟨p', us, ev, h1, _⟩ := q
    rw [hs] at ev
    cases ev
    exact e2.not h1 fun _ z => by cases z
  | od ds =>
    obtain ⟨p', us, ev, h1, _⟩ := q
    rw [hs] at ev
    cases ev
    exact e2.not h1 fun _ z => by cases z
  | odl p' ob us ds =>
    obtain ⟨ev, h1, _⟩ := q
    rw [hs] at ev
    cases ev
    exact e2.not h1 fun _ z => by cases z
  | oh p' ds =>
    obtain ⟨us, ev, h1, _⟩ := q
    rw [hs] at ev
    cases ev
    exact e2.not h1 fun _ z => by cases z
  | oo c p' dx fs =>
    obtain ⟨us, ev, h1, _⟩ := q
    rw [hs] at ev
    cases ev
    exact e2.not h1 fun _ z => by cases z
  | rl d => cases ok'
  | rd d => cases ok'
  | xc x p cls d => cases ok'
  | clo p => cases ok'
/-- a, b, .. = (e1, e2, ..), by a tuple -/
theorem ds_many {n : Nat} {is : List Nat} {t : TA} {f : MN} (h : DN C n t f) (hi : is.length = n) (nd : is.Nodup) (hz : n ≤ sizeLine) : DS C (tAsg (tTup t) (gTup C.K n (gNames is))) (sMany is f) := by
  refine ⟨fun Hs ρ σ H sq qe E l r w k => ?_⟩
  refine h.run Hs ρ σ H _ qe _ l r w fun es vs Hs1 H1 w1 g1 r1 l1 l2 ok ne => ⟨by rw [l2]; exact hz, fun p hp => ?_⟩
  have r2 := r1.side (o := .tup vs) hp
  have g2 := r1.gr_side (o := .tup vs) hp
  refine ⟨p, vs, rfl, SqT.of upd_same, l2, gNames_run (l2.trans hi.symm) ?_⟩
  refine k.nx _ _ Hs1 _ w1 g1.s (many_ok r r2 hi nd l1 l2 (fun i e v he hv => ⟨?_, (ok i e v he hv).2⟩) ne)
  exact (ok i e v he hv).1.mono (Same.refl _) g2.b fun _ _ _ h => h
/-- .. without one -/
def tParN (is : List Nat) (ta : TA) : TS := fun E σ H => ta σ H fun vs H1 => vs.length = is.length ∧ E.nx (setAll σ is (vs.map some)) H1
theorem ds_parN {n : Nat} {is : List Nat} {t : TA} {f : MN} (h : DN C n t f) (hi : is.length = n) (nd : is.Nodup) : DS C (tParN is t) (sMany is f) := by
  refine ⟨fun Hs ρ σ H sq qe E l r w k => ?_⟩
  refine h.run Hs ρ σ H _ qe _ l r w fun es vs Hs1 H1 w1 g1 r1 l1 l2 ok ne => ⟨l2.trans hi.symm, ?_⟩
  exact k.nx _ _ Hs1 _ w1 g1.s (many_ok r r1 hi nd l1 l2 ok ne)
end
end Fd
/-! defs by their names, objects made, the hand of draws, the law's end -/
namespace Fd
open PySem PySem.Spec L2

/-- a def that may be called: x's promise is spOf of m -/
structure Cal (P : Program) (w : World) (K : PySem.W.Frag) (mg : Str → Option Value) (base : Heap) (k : Nat) (x : Str) (n : Nat) (m : M) : Prop where
  ex : ∃ fd ps, FnOk P w K mg base CX0 k (He.ga K x) fd ps (spOf K n m) ∧ Binds K fd ps []
  kp : PySem.W.keepIn K (.ref (He.ga K x)) = true
  g : mg x = some (.ref (He.ga K x))
theorem pe_cal {X : Cx} {k n : Nat} {m : M} {x : Str} {p pos : Pos} {e : Expr} {es : List Expr} {t : TA} (c : Cal X.prog X.w X.K X.mg X.base k x n m) (hr : Room k X.A) (hg : Gl X x) (ha : PA X (e :: es) t)
    (hdb : (x == ("__debug__" : Str)) = false := by decide) (he : starEach (e :: es) X.env = (false, eval e X.env) :: starEach es X.env := by rfl) (hpl : (backTo pos (starEach es X.env)).any (·.1) = false := by rfl) :
    PE X (.Call (.Name x p) (e :: es) [] pos) (tCall (spOf X.K n m) [] E0 t) := by
  obtain ⟨fd, ps, F, b⟩ := c.ex
  exact pe_call F hr hg c.g c.kp b .nil pass0 ha hdb he hpl
/-- a def's text does what its functional reading says -/
theorem cal_of {P : Program} {w : World} {K : PySem.W.Frag} {mg : Str → Option Value} {base : Heap} {x : Str} {st : Stmt} {N ps : List Str} {n k j : Nat} {f : MS}
    (F : ∃ fd, FunD K x x (defArgs st) (defBody st) (defScope st) [] [] (He.ga K x) fd) (g : mg x = some (.ref (He.ga K x))) (S : FnScope N ps (defScope st)) (hn : ps.length = n) (hN : N.length = n + j)
    (hb : ∀ (cdv : Value) (A : Around) (outer : List Env) (s : Shared) (H : Hp) (E : XK), Room k (A.deeper (PyProof.Rows.envOfC x (defScope st) s.heap.objs.size (He.ga K x) cdv)) →
      ∃ t, PSs (cxOf CX0 P w K mg base N x (defScope st) (He.ga K x) cdv A outer s H E).nox (defBody st) t ∧ ∀ C : Ctx, C.K = K → (∀ x, ¬ C.W x) → DS C t f)
    (bd : ∀ (kV doc pm : Value) (an : Option Addr) (cdv ct : Value) (us : List Value), us.length = ps.length → bindArgs (PySem.W.fnOf x x (defArgs st) (defBody st) (defScope st) .none kV doc pm an cdv ct) ⟨us, []⟩ = pure (ps.zip us)) :
    Cal P w K mg base (k + 1) x n (mBody j f) := by
  obtain ⟨fd, F⟩ := F
  refine ⟨⟨fd, ps, F.ok S (fun vs H Q E h => ?_) (fun cdv A outer s H vs Q E hr h => ?_), F.bindsN bd⟩, F.kp, g⟩
  · obtain ⟨a, Hs, ds, q, hl, _⟩ := h
    rw [hl, hn]
  · obtain ⟨t, h1, h2⟩ := hb cdv A outer s H E hr
    exact ⟨t, h1.nox, body_ok hN h2 h⟩
/-- two readings that agree -/
theorem Cal.imp {P : Program} {w : World} {K : PySem.W.Frag} {mg : Str → Option Value} {base : Heap} {k n : Nat} {x : Str} {m m' : M} (c : Cal P w K mg base k x n m) (h : ∀ ds q, m' ds q (fun _ => False) → m ds q (fun _ => False)) : Cal P w K mg base k x n m' := by
  obtain ⟨fd, ps, F, b⟩ := c.ex
  refine ⟨⟨fd, ps, F.imp fun vs H Q E z => ?_, b⟩, c.kp, c.g⟩
  obtain ⟨a, Hs, ds, q, h1, h2, h3, h4, h5, h6⟩ := z
  exact ⟨a, Hs, ds, q, h1, h2, h3, h4, h ds q h5, h6⟩
theorem Cal.mono {P : Program} {w : World} {K : PySem.W.Frag} {mg : Str → Option Value} {base : Heap} {k l n : Nat} {x : Str} {m : M} (c : Cal P w K mg base k x n m) (h : k ≤ l) : Cal P w K mg base l x n m := by
  obtain ⟨fd, ps, F, b⟩ := c.ex
  exact ⟨⟨fd, ps, F.mono h, b⟩, c.kp, c.g⟩

/-! ### fields stored, objects made -/
def putFD (f : Str) (d : D) : List (Str × D) → List (Str × D)
  | [] => [(f, d)]
  | (g, w) :: r => if g = f then (g, d) :: r else (g, w) :: putFD f d r
theorem repF_put {K : PySem.W.Frag} {a : Hd} {H : Hp} {f : Str} {d : D} {v : V} (q : Rep K a H d v) : ∀ {ds : List (Str × D)} {vs : List (Str × V)}, RepF K a H ds vs → RepF K a H (putFD f d ds) (putF f v vs)
  | _, _, .nil => .cons q .nil
  | _, _, .cons (k := k) h r => by
    unfold putFD putF
    by_cases e : k = f
    · rw [if_pos e, if_pos e]
      exact .cons q r
    · rw [if_neg e, if_neg e]
      exact .cons h (repF_put q r)
theorem RepF.length {K : PySem.W.Frag} {a : Hd} {H : Hp} : ∀ {ds : List (Str × D)} {vs : List (Str × V)}, RepF K a H ds vs → ds.length = vs.length
  | _, _, .nil => rfl
  | _, _, .cons _ r => congrArg (· + 1) (RepF.length r)
def gFld (K : PySem.W.Frag) (ta : TE) (f : Str) : TG := fun v σ H Q => ta σ H fun x H1 => ∃ a C dx fs, x = .ref a ∧ H1 a = some (.ins C dx fs) ∧ Cls K C ∧ NoAttr K C f ∧ fs.length < 1000 ∧ Q σ (upd H1 a (.ins C dx (putF f v fs)))
theorem pg_fld {X : Cx} {o : Expr} {f : Str} {pos : Pos} {ta : TE} (ho : PE X o ta) : PG X (.Attribute o f pos) (gFld X.K ta f) := by
  refine ⟨fun pins s σ H v u Q I r h => ?_⟩
  rw [assign_Attribute]
  refine wpAny_bind (wpAny_holding (thn (ho.run pins s σ H _ I h) fun ov s1 ⟨x, H1, I1, rx, a, C, dx, fs, ex, ea, c, n, l, q⟩ => ?_))
  subst ex
  obtain rfl : ov = Value.ref a := rx
  refine wpAny_bind (wpAny_standAt (wpAny_bind (wpAny_holding (setattr_ok I1 ea c n l r fun s3 I3 => ?_))))
  exact wpAny_release ⟨σ, _, I3, q⟩
section
variable {C : Ctx}
theorem RS.fld {Hs H : Hp} {ρ : List En} {σ : L2.St} (r : RS C Hs ρ σ H) {i : Nat} {c f : Str} {p dx : Addr} {fs : List (Str × D)} {d : D} {v : V} (e : ρ[i]? = some (.oo c p dx fs)) (h : Rep C.K C.a Hs d v) :
    ∃ vs, σ[i]? = some (some (.ref p)) ∧ H p = some (.ins (He.ga C.K c) dx vs) ∧ vs.length = fs.length ∧ RS C Hs (ρ.set i (.oo c p dx (putFD f d fs))) σ (upd H p (.ins (He.ga C.K c) dx (putF f v vs))) := by
  obtain ⟨vs, ev, h1, hd, h2, h3, h4, h5, h6, h7⟩ := r.en i _ e
  refine ⟨vs, ev, h1, h2.length.symm, r.change e rfl ev h3 h4 h5 ⟨_, rfl, upd_same, ?_, repF_put h h2, h3, h4, h5, h6, h7⟩⟩
  rw [upd_ne fun z => by rw [z, h1] at hd; cases hd]
  exact hd
/-- self.f = e -/
def sSelf (c : Str) (i : Nat) (f : Str) (fe : ME) : MS := fun ρ sq qe => fe ρ (fun d => match ρ[i]? with
  | some (.oo c' p dx fs) => c' = c ∧ fs.length < 1000 ∧ sq.nx (ρ.set i (.oo c p dx (putFD f d fs)))
  | _ => False) qe
theorem ds_self {i : Nat} {f c : Str} {te : TE} {fe : ME} (ok : FldOk C.K [c] f) (he : DT C te fe) : DS C (sFld C.K (tVar i) te f) (sSelf c i f fe) := by
  refine ⟨fun Hs ρ σ H sq qe E l r w k => he.run Hs ρ σ H _ qe _ l r w fun d v Hs1 H1 w1 g1 r1 p1 => ?_⟩
  split at w1
  · rename_i c' p dx fs e
    obtain ⟨rfl, w1⟩ := w1
    obtain ⟨vs, ev, h1, hl, r2⟩ := r1.fld (f := f) e p1
    exact ⟨_, ev, p, _, dx, vs, rfl, h1, (ok _ (List.mem_singleton.mpr rfl)).1, (ok _ (List.mem_singleton.mpr rfl)).2, by rw [hl]; exact w1.1, k.nx _ _ Hs1 _ w1.2 g1.s r2⟩
  · exact w1.elim
/-- self.f, self.g = (e1, e2) -/
def sSelf2 (c : Str) (i : Nat) (f1 f2 : Str) (g : MA) : MS := fun ρ sq qe => g ρ (fun ds => match ds with
  | [d1, d2] => (match ρ[i]? with
    | some (.oo c' p dx fs) => c' = c ∧ fs.length < 1000 ∧ (putFD f1 d1 fs).length < 1000 ∧ sq.nx (ρ.set i (.oo c p dx (putFD f2 d2 (putFD f1 d1 fs))))
    | _ => False)
  | _ => False) qe
theorem ds_self2 {i : Nat} {f1 f2 c : Str} {t : TA} {g : MA} (ok1 : FldOk C.K [c] f1) (ok2 : FldOk C.K [c] f2) (h : DA C t g) :
    DS C (tAsg (tTup t) (gTup C.K 2 (gCons (gFld C.K (tVar i) f1) (gCons (gFld C.K (tVar i) f2) gNil)))) (sSelf2 c i f1 f2 g) := by
  refine ⟨fun Hs ρ σ H sq qe E l r w k => h.run Hs ρ σ H _ qe _ l r w fun ds vs Hs1 H1 w1 g1 r1 p1 => ?_⟩
  split at w1
  · cases p1 with
    | cons p1 q =>
      cases q with
      | cons p2 q =>
        cases q
        refine ⟨by show 2 ≤ sizeLine; decide, fun a ha => ?_⟩
        rename_i v1 v2
        split at w1
        · rename_i c' p dx fs e
          obtain ⟨rfl, l1, l2, w2⟩ := w1
          have ra : RS C Hs1 ρ σ (upd H1 a (.tup [v1, v2])) := r1.side ha
          obtain ⟨us, ev, h1, hl, r2⟩ := ra.fld (f := f1) e p1
          obtain ⟨us', ev', h1', hl', r3⟩ := r2.fld (i := i) (f := f2) (List.getElem?_set_self (List.getElem?_eq_some_iff.mp e).1) p2
          have e3 : us' = putF f1 v1 us := by
            rw [upd_same] at h1'
            injection h1' with h1'
            injection h1' with _ _ h1'
            exact h1'.symm
          subst e3
          refine ⟨a, _, rfl, SqT.of upd_same, rfl, v1, _, rfl, ⟨_, ev, p, _, dx, us, rfl, h1, (ok1 _ (List.mem_singleton.mpr rfl)).1, (ok1 _ (List.mem_singleton.mpr rfl)).2, by rw [hl]; exact l1, ?_⟩⟩
          refine ⟨v2, [], rfl, ⟨_, ev, p, _, dx, _, rfl, h1', (ok2 _ (List.mem_singleton.mpr rfl)).1, (ok2 _ (List.mem_singleton.mpr rfl)).2, by rw [hl']; exact l2, ⟨rfl, ?_⟩⟩⟩
          rw [List.set_set] at r3
          exact k.nx _ _ Hs1 _ w2 g1.s r3
        · exact w1.elim
  · exact w1.elim
end
/-- the promise of an __init__ -/
abbrev MI := List D → (List (Str × D) → Prop) → QE → Prop
def spInit (K : PySem.W.Frag) (c : Str) (n : Nat) (m : MI) : Sp := fun vs H Q _ => ∃ (a : Hd) (Hs H1 : Hp) (x dx : Addr) (us : List V) (ds : List D) (q : List (Str × D) → Prop), vs = .ref x :: us ∧ us.length = n ∧ H = upd (upd H1 dx (.own x)) x (.ins (He.ga K c) dx []) ∧
  H1 x = none ∧ H1 dx = none ∧ dx ≠ x ∧ Same Hs H1 ∧ HandOk a Hs H1 ∧ RepL K a Hs ds us ∧ m ds q (fun _ => False) ∧
  ∀ fs fs' Hs' H', q fs → Gr a Hs H1 Hs' H' → Same Hs' H' → HandOk a Hs' H' → H' x = some (.ins (He.ga K c) dx fs') → H' dx = some (.own x) → RepF K a Hs' fs fs' → Hs' x = none → Hs' dx = none → Q .non H'
def mInit (c : Str) (k : Nat) (f : MS) : MI := fun ds q qe => ∀ x dx : Addr, f (.oo c x dx [] :: (ds.map .sh ++ List.replicate k .no)) ⟨fun ρ => ∃ fs, ρ[0]? = some (.oo c x dx fs) ∧ q fs, fun _ _ => False, fun _ => False, fun _ => False⟩ qe
theorem init_ok {K : PySem.W.Frag} {t : TS} {f : MS} {c : Str} {n k : Nat} {N : List Str} {vs : List V} {H : Hp} {Q : VK} {E : XK} (hN : N.length = n + 1 + k) (ht : ∀ C : Ctx, C.K = K → (∀ x, ¬ C.W x) → DS C t f)
    (h : spInit K c n (mInit c k f) vs H Q E) : t { nx := fun _ H' => Q .non H', rt := Q } (L2.start N vs) H := by
  obtain ⟨a, Hs, H1, x, dx, us, ds, q, rfl, hl, rfl, hx, hdx, ne, s, hd, r, w, kk⟩ := h
  have r0 : RS ⟨K, a, H1, Hs, fun _ => False⟩ Hs (ds.map .sh ++ List.replicate k .no) (us.map some ++ List.replicate k none) H1 := by
    have z := rs_start (N := N.drop 1) (k := k) (W := fun _ => False) s hd r (by rw [List.length_drop, hN, hl]; omega)
    have e : L2.start (N.drop 1) us = us.map some ++ List.replicate k none := by
      unfold L2.start
      rw [List.length_drop, hN, hl, show n + 1 + k - 1 - n = k by omega]
    rw [e] at z
    exact z
  have hx' : (upd H1 dx (.own x)) x = none := by rw [upd_ne (Ne.symm ne)]; exact hx
  have r1 : RS ⟨K, a, H1, Hs, fun _ => False⟩ Hs (ds.map .sh ++ List.replicate k .no) (us.map some ++ List.replicate k none) (upd (upd H1 dx (.own x)) x (.ins (He.ga K c) dx [])) := (r0.side hdx).side hx'
  have ax : a.p ≠ some x := r0.fresh_a hx
  have adx : a.p ≠ some dx := r0.fresh_a hdx
  have e1 : L2.start N (.ref x :: us) = some (.ref x) :: (us.map some ++ List.replicate k none) := by
    unfold L2.start
    rw [List.map_cons, List.length_cons, hN, hl, show n + 1 + k - (n + 1) = k by omega]
    rfl
  have nold : ∀ (j : Nat) (e : En), (ds.map En.sh ++ List.replicate k .no)[j]? = some e → e.own = false := fun j e he => by
    by_cases h : j < ds.length
    · rw [List.getElem?_append_left (by rw [List.length_map]; exact h), List.getElem?_map, List.getElem?_eq_getElem h] at he
      cases he
      rfl
    · rw [List.getElem?_append_right (by rw [List.length_map]; omega), List.length_map, List.getElem?_replicate] at he
      split at he
      · cases he
        rfl
      · cases he
  have r2 : RS ⟨K, a, H1, Hs, fun _ => False⟩ Hs (.oo c x dx [] :: (ds.map .sh ++ List.replicate k .no)) (some (.ref x) :: (us.map some ++ List.replicate k none)) (upd (upd H1 dx (.own x)) x (.ins (He.ga K c) dx [])) := by
    refine ⟨congrArg (· + 1) r1.len, r1.fr, r1.sh, r1.sh0, r1.new, r1.hd, r1.hd0, fun i e he => ?_, fun i j p e e' hij he he' o o' hs hs' => ?_⟩
    · cases i with
      | zero =>
        cases he
        exact ⟨[], rfl, upd_same, by rw [upd_ne ne, upd_same], .nil, .of hx, r0.fresh_s hx, ax, r0.fresh_s hdx, adx⟩
      | succ i => exact r1.en i e he
    · cases i with
      | zero =>
        cases j with
        | zero => exact hij rfl
        | succ j => rw [nold j e' he'] at o'; cases o'
      | succ i => rw [nold i e he] at o; cases o
  rw [e1]
  refine (ht ⟨K, a, H1, Hs, fun _ => False⟩ rfl fun _ z => z).run Hs _ _ _ _ (fun _ => False) _ (fun _ z => z) r2 (w x dx) ⟨fun ρ' σ' Hs' H' w' s' r' => ?_, fun _ _ _ _ _ _ z => z.elim, fun _ _ _ _ z => z.elim, fun _ _ _ _ z => z.elim⟩
  obtain ⟨fs, e2, hq⟩ := w'
  obtain ⟨vs, ev, h1, h2, h3, h4, h5, h6, h7, h8⟩ := r'.en 0 _ e2
  refine kk fs vs Hs' H' hq ⟨s', r'.fr, fun b o hb => ?_⟩ r'.sh r'.hd h1 h2 h3 h5 h7
  rcases r'.new b o hb with z | z
  · exact .inl z
  · exact .inr ⟨z, fun e => r'.hd0 b e z⟩
/-- C(..) of such a class -/
def eMake (c : Str) (m : MI) (g : MA) : ME := fun ρ q qe => g ρ (fun ds => m ds (fun fs => q (.obj c fs)) qe) qe
theorem dt_make {C : Ctx} {c : Str} {n : Nat} {m : MI} {t : TA} {g : MA} (hW : ∀ x, ¬ C.W x) (h : DAn C n t g) : DT C (tMake (He.ga C.K c) (spInit C.K c n m) [] E0 t) (eMake c m g) := by
  refine ⟨fun Hs ρ σ H q qe Q l r w k => ?_⟩
  have e : qe = fun _ => False := by
    funext x
    exact propext ⟨fun h => hW x (l x h), fun h => h.elim⟩
  subst e
  refine h.run Hs ρ σ H _ _ _ l r w fun ds vs Hs1 H1 w1 g1 r1 p1 hl x dx hx hdx ne => ?_
  rw [List.append_nil]
  refine ⟨C.a, Hs1, H1, x, dx, vs, ds, fun fs => q (.obj c fs), rfl, hl, rfl, hx, hdx, ne, r1.sh, r1.hd, p1, w1, fun fs fs' Hs2 H2 hq g2 s2 h2 hX hD hF nX nD => ⟨rfl, ?_⟩⟩
  have ax := r1.fresh_a hx
  have ad := r1.fresh_a hdx
  have r2 := r1.grow g2 s2 h2
  have nX2 : (upd Hs2 dx (.own x)) x = none := by rw [upd_ne (Ne.symm ne)]; exact nX
  have sm : Same Hs2 (upd (upd Hs2 dx (.own x)) x (.ins (He.ga C.K c) dx fs')) := (same_upd nD).trans (same_upd nX2)
  have gg : Gr C.a Hs1 H1 (upd (upd Hs2 dx (.own x)) x (.ins (He.ga C.K c) dx fs')) H2 := ⟨g2.s.trans sm, g2.b, fun b o hb => by
    by_cases z : b = x
    · rw [z]; exact .inr ⟨.of hx, ax⟩
    · rw [upd_ne z] at hb
      by_cases y : b = dx
      · rw [y]; exact .inr ⟨.of hdx, ad⟩
      · rw [upd_ne y] at hb
        exact g2.n b o hb⟩
  have s3 : Same (upd (upd Hs2 dx (.own x)) x (.ins (He.ga C.K c) dx fs')) H2 := fun b o hb => by
    by_cases z : b = x
    · subst z
      rw [upd_same] at hb
      cases hb
      exact hX
    · rw [upd_ne z] at hb
      by_cases y : b = dx
      · subst y
        rw [upd_same] at hb
        cases hb
        exact hD
      · rw [upd_ne y] at hb
        exact s2 b o hb
  have h3 : HandOk C.a (upd (upd Hs2 dx (.own x)) x (.ins (He.ga C.K c) dx fs')) H2 := ⟨nt_upd (nt_upd h2.nt fun _ z => by cases z) fun _ z => (by cases z), fun y e => by
    obtain ⟨a1, cc, i1, b1, s1, n1, cells, a2, a3, a4⟩ := h2.at_ y e
    refine ⟨?_, cc, i1, b1, s1, n1, cells, a2, sm _ _ a3, a4⟩
    rw [upd_ne fun z => ax (by rw [← z]; exact e), upd_ne fun z => ad (by rw [← z]; exact e)]
    exact a1⟩
  exact k (.obj c fs) (.ref x) _ H2 hq (g1.trans gg) (r1.grow gg s3 h3) (.obj upd_same (by rw [upd_ne ne, upd_same]) (hF.mono sm))
/-- a class that may be made -/
structure Mak (P : Program) (w : World) (K : PySem.W.Frag) (mg : Str → Option Value) (base : Heap) (k : Nat) (c : Str) (n : Nat) (m : MI) : Prop where
  ex : ∃ f fd ps, Mk K (He.ga K c) f ∧ FnOk P w K mg base CX0 k f fd ps (spInit K c n m) ∧ Binds K fd ps []
  g : mg c = some (.ref (He.ga K c))
theorem pe_mak {X : Cx} {k n : Nat} {m : MI} {c : Str} {p pos : Pos} {e : Expr} {es : List Expr} {t : TA} (cc : Mak X.prog X.w X.K X.mg X.base k c n m) (hr : Room (k + 1) X.A) (hg : Gl X c) (ha : PA X (e :: es) t)
    (hdb : (c == ("__debug__" : Str)) = false := by decide) (he : starEach (e :: es) X.env = (false, eval e X.env) :: starEach es X.env := by rfl) (hpl : (backTo pos (starEach es X.env)).any (·.1) = false := by rfl) :
    PE X (.Call (.Name c p) (e :: es) [] pos) (tMake (He.ga X.K c) (spInit X.K c n m) [] E0 t) := by
  obtain ⟨f, fd, ps, M, F, b⟩ := cc.ex
  exact pe_make M F hr hg cc.g b .nil pass0 ha hdb he hpl
theorem mak_of {P : Program} {w : World} {K : PySem.W.Frag} {mg : Str → Option Value} {base : Heap} {c q : Str} {fa : Addr} {st : Stmt} {N ps : List Str} {n k j : Nat} {f : MS}
    (M : Mk K (He.ga K c) fa) (F : ∃ fd, FunD K "__init__" q (defArgs st) (defBody st) (defScope st) [] [] fa fd) (g : mg c = some (.ref (He.ga K c))) (S : FnScope N ps (defScope st)) (hn : ps.length = n + 1) (hN : N.length = n + 1 + j)
    (hb : ∀ (cdv : Value) (A : Around) (outer : List Env) (s : Shared) (H : Hp) (E : XK), Room k (A.deeper (PyProof.Rows.envOfC q (defScope st) s.heap.objs.size fa cdv)) →
      ∃ t, PSs (cxOf CX0 P w K mg base N q (defScope st) fa cdv A outer s H E).nox (defBody st) t ∧ ∀ C : Ctx, C.K = K → (∀ x, ¬ C.W x) → DS C t f)
    (bd : ∀ (kV doc pm : Value) (an : Option Addr) (cdv ct : Value) (us : List Value), us.length = ps.length → bindArgs (PySem.W.fnOf "__init__" q (defArgs st) (defBody st) (defScope st) .none kV doc pm an cdv ct) ⟨us, []⟩ = pure (ps.zip us)) :
    Mak P w K mg base (k + 1) c n (mInit c j f) := by
  obtain ⟨fd, F⟩ := F
  refine ⟨⟨fa, fd, ps, M, F.ok S (fun vs H Q E h => ?_) (fun cdv A outer s H vs Q E hr h => ?_), F.bindsN bd⟩, g⟩
  · obtain ⟨a, Hs, H1, x, dx, us, ds, q, rfl, hl, _⟩ := h
    rw [List.length_cons, hl, hn]
  · obtain ⟨t, h1, h2⟩ := hb cdv A outer s H E hr
    exact ⟨t, h1.nox, init_ok hN h2 h⟩
end Fd
/-! the hand that draws numbers; the law -/
namespace Fd
open PySem PySem.Spec L2
section
variable {C : Ctx}
/-- hand[j] = e -/
def sSetH (i : Nat) (fj fe : ME) : MS := fun ρ sq qe => fe ρ (fun d => match ρ[i]? with
  | some (.oh p ds) => fj ρ (fun j => match j with
    | .int j => (match ixN ds.length j with
      | some n => sq.nx (ρ.set i (.oh p (ds.set n d)))
      | none => False)
    | _ => False) qe
  | _ => False) qe
theorem ds_setH {i : Nat} {tj te : TE} {fj fe : ME} (hj : DT C tj fj) (he : DT C te fe) : DS C (tAsg te (gSub (tVar i) tj rSetL)) (sSetH i fj fe) := by
  refine ⟨fun Hs ρ σ H sq qe E l r w k => he.run Hs ρ σ H _ qe _ l r w fun d v Hs1 H1 w1 g1 r1 p1 => ?_⟩
  split at w1
  · rename_i p ds e
    obtain ⟨vs, ev, h1, h2, h3, h4, h5⟩ := r1.en i _ e
    refine ⟨_, ev, hj.run Hs1 ρ σ H1 _ qe _ l r1 w1 fun j vj Hs2 H2 w2 g2 r2 p2 => ?_⟩
    split at w2
    · split at w2
      · rename_i n en
        cases p2
        obtain ⟨vs', ev', h1', h2', h3', h4', h5'⟩ := r2.en i _ e
        refine ⟨p, vs', _, n, rfl, rfl, h1', by rw [← h2'.length]; exact en, ?_⟩
        exact k.nx _ _ Hs2 _ w2 (g1.s.trans g2.s) (r2.change e rfl ev h3' h4' h5' ⟨_, rfl, upd_same, RepL.set (p1.mono g2.s) n h2', h3', h4', h5'⟩)
      · exact w2.elim
    · exact w2.elim
  · exact w1.elim
end
/-- a draw: any number below -/
def mDraw : M := fun ds q _ => match ds with
  | [.hand, .int k] => (0 < k ∧ k < 1073741824) ∧ ∀ j : Int, 0 ≤ j → j < k → q (.int j)
  | _ => False
/-- the hand's five items -/
def handD (cells : List Int) (i b s n : Int) : List D := [.lst (cells.map .int), .int i, .int b, .int s, .int n]
def HandEnd (x : Addr) (k : Int) (ρ : List En) (d : D) : Prop := (∃ j, d = .int j ∧ 0 ≤ j ∧ j < k) ∧ ∃ cells i b s n, ρ[0]? = some (.oh x (handD cells i b s n)) ∧ 0 ≤ i ∧ cells.length ≤ 63
theorem draw_ok {K : PySem.W.Frag} {t : TS} {f : MS} {j : Nat} {N : List Str} {vs : List V} {H : Hp} {Q : VK} {E : XK} (hN : N.length = 2 + j) (ht : ∀ C : Ctx, C.K = K → (∀ x, ¬ C.W x) → DS C t f)
    (hf : ∀ (x : Addr) (cells : List Int) (i b s n k : Int), 0 ≤ i → cells.length ≤ 63 → 0 < k → k < 1073741824 →
      f (.oh x (handD cells i b s n) :: .sh (.int k) :: List.replicate j .no) ⟨fun _ => False, HandEnd x k, fun _ => False, fun _ => False⟩ (fun _ => False))
    (h : spOf K 2 mDraw vs H Q E) : t { nx := fun _ H' => Q .non H', rt := Q } (L2.start N vs) H := by
  obtain ⟨a, Hs, ds, q, hl, s, hd, r, w, kk⟩ := h
  unfold mDraw at w
  split at w
  · rename_i k
    obtain ⟨⟨k0, k1⟩, w⟩ := w
    cases r with
    | cons r1 r =>
      cases r with
      | cons r2 r =>
        cases r
        cases r2
        cases r1 with
        | hand ea =>
          rename_i x
          obtain ⟨hx, c, i, b, z, n, cells, h1, h2, h3, h4⟩ := hd.at_ x ea
          have est : L2.start N [V.ref x, V.int k] = some (.ref x) :: some (.int k) :: List.replicate j none := by
            unfold L2.start
            rw [hN]
            show _ = [some (V.ref x), some (V.int k)] ++ List.replicate j none
            rw [show 2 + j - [V.ref x, V.int k].length = j by show 2 + j - 2 = j; omega]
            rfl
          rw [est]
          have cx : c ≠ x := fun z => by
            rw [z, hx] at h2
            cases h2
          have rs : RS ⟨K, ⟨none, a.T⟩, fun b => if b = x then none else H b, Hs, fun _ => False⟩ Hs (.oh x (handD cells i b z n) :: .sh (.int k) :: List.replicate j .no) (some (.ref x) :: some (.int k) :: List.replicate j none) H := by
            have sub : ∀ b' o, (fun b => if b = x then none else H b) b' = some o → H b' = some o := fun b' o hb => by
              have hb2 : (if b' = x then none else H b') = some o := hb
              split at hb2
              · cases hb2
              · exact hb2
            refine ⟨by simp, ⟨fun b' o _ hb _ => sub b' o hb, fun t => t.ext sub⟩, s, Same.refl _, fun b' o hb => .inl hb, ⟨hd.nt, fun y e => (by cases e)⟩, fun y e => (by cases e), fun m e he => ?_, fun m m' p e e' hm he he' o o' hs hs' => ?_⟩
            · cases m with
              | zero =>
                cases he
                exact ⟨_, rfl, h1, .cons (.lst h2 (RepL.ofInts _)) (.cons (.int _) (.cons (.int _) (.cons (.int _) (.cons (.int _) .nil)))), (.of (by show (if x = x then none else H x) = none; rw [if_pos rfl])), hx, fun z => by cases z⟩
              | succ m =>
                cases m with
                | zero =>
                  cases he
                  exact ⟨_, rfl, .int _⟩
                | succ m =>
                  have he2 : (List.replicate j En.no)[m]? = some e := he
                  rw [List.getElem?_replicate] at he2
                  split at he2
                  · cases he2; trivial
                  · cases he2
            · have no : ∀ (m : Nat) (e : En), m ≠ 0 → (En.oh x (handD cells i b z n) :: En.sh (.int k) :: List.replicate j En.no)[m]? = some e → e.own = false := fun m e hm he => by
                cases m with
                | zero => exact absurd rfl hm
                | succ m =>
                  cases m with
                  | zero => cases he; rfl
                  | succ m =>
                    have he2 : (List.replicate j En.no)[m]? = some e := he
                    rw [List.getElem?_replicate] at he2
                    split at he2
                    · cases he2; rfl
                    · cases he2
              by_cases y : m = 0
              · rw [no m' e' (fun y' => hm (y.trans y'.symm)) he'] at o'
                cases o'
              · rw [no m e y he] at o
                cases o
          refine (ht _ rfl fun _ z => z).run Hs _ _ H _ (fun _ => False) _ (fun _ z => z) rs (hf x cells i b z n k h3 h4 k0 k1) ⟨fun _ _ _ _ z => z.elim, fun d v ρ' σ' Hs' H' w' s' r' p' => ?_, fun _ _ _ _ z => z.elim, fun _ _ _ _ z => z.elim⟩
          obtain ⟨⟨jj, rfl, j0, j1⟩, cells', i', b', s2, n', e0, i0, cl⟩ := w'
          cases p'
          obtain ⟨us, ev, q1, q2, q3, q4, q5⟩ := r'.en 0 _ e0
          have sb : SB a H H' := ⟨fun b o nb hb ho => by
            have z : b ≠ x := fun z => nb (by rw [z]; exact ea)
            exact r'.fr.k b o (by intro z; cases z) (by show (if b = x then none else H b) = some o; rw [if_neg z]; exact hb) ho, fun t => r'.fr.t (tabs_out h1 ⟨fun _ z => (by cases z), fun _ z => (by cases z)⟩ t)⟩
          have new : ∀ b o, Hs' b = some o → Hs b = some o ∨ (Fre H b ∧ a.p ≠ some b) := fun b o hb => by
            have nbx : b ≠ x := fun z => by
              rw [z, q4] at hb
              cases hb
            rcases r'.new b o hb with z | z
            · exact .inl z
            · exact .inr ⟨fun u hu => z u (by show (if b = x then none else H b) = some u; rw [if_neg nbx]; exact hu), fun e => nbx (by rw [ea] at e; cases e; rfl)⟩
          refine kk (.int jj) (.int jj) Hs' H' (w jj j0 j1) ⟨s', sb, new⟩ r'.sh ⟨r'.hd.nt, fun y ey => ?_⟩ (.int jj)
          rw [ea] at ey
          cases ey
          cases q2 with
          | cons p1 q2 => cases q2 with
            | cons p2 q2 => cases q2 with
              | cons p3 q2 => cases q2 with
                | cons p4 q2 => cases q2 with
                  | cons p5 q2 =>
                    cases q2
                    cases p2
                    cases p3
                    cases p4
                    cases p5
                    cases p1 with
                    | lst p1 p6 =>
                      obtain rfl := p6.ints
                      exact ⟨q4, _, i', b', s2, n', cells', q1, p1, i0, cl⟩
  · exact w.elim
theorem cal_draw {P : Program} {w : World} {K : PySem.W.Frag} {mg : Str → Option Value} {base : Heap} {x : Str} {st : Stmt} {N ps : List Str} {k j : Nat} {f : MS}
    (F : ∃ fd, FunD K x x (defArgs st) (defBody st) (defScope st) [] [] (He.ga K x) fd) (g : mg x = some (.ref (He.ga K x))) (S : FnScope N ps (defScope st)) (hn : ps.length = 2) (hN : N.length = 2 + j)
    (hb : ∀ (cdv : Value) (A : Around) (outer : List Env) (s : Shared) (H : Hp) (E : XK), Room k (A.deeper (PyProof.Rows.envOfC x (defScope st) s.heap.objs.size (He.ga K x) cdv)) →
      ∃ t, PSs (cxOf CX0 P w K mg base N x (defScope st) (He.ga K x) cdv A outer s H E).nox (defBody st) t ∧ ∀ C : Ctx, C.K = K → (∀ x, ¬ C.W x) → DS C t f)
    (hf : ∀ (x : Addr) (cells : List Int) (i b s n k : Int), 0 ≤ i → cells.length ≤ 63 → 0 < k → k < 1073741824 →
      f (.oh x (handD cells i b s n) :: .sh (.int k) :: List.replicate j .no) ⟨fun _ => False, HandEnd x k, fun _ => False, fun _ => False⟩ (fun _ => False))
    (bd : ∀ (kV doc pm : Value) (an : Option Addr) (cdv ct : Value) (us : List Value), us.length = ps.length → bindArgs (PySem.W.fnOf x x (defArgs st) (defBody st) (defScope st) .none kV doc pm an cdv ct) ⟨us, []⟩ = pure (ps.zip us)) :
    Cal P w K mg base (k + 1) x 2 mDraw := by
  obtain ⟨fd, F⟩ := F
  refine ⟨⟨fd, ps, F.ok S (fun vs H Q E h => ?_) (fun cdv A outer s H vs Q E hr h => ?_), F.bindsN bd⟩, F.kp, g⟩
  · obtain ⟨a, Hs, ds, q, hl, _⟩ := h
    rw [hl, hn]
  · obtain ⟨t, h1, h2⟩ := hb cdv A outer s H E hr
    exact ⟨t, h1.nox, draw_ok hN h2 hf h⟩

/-! ### the law -/
def spLaw (K : PySem.W.Frag) (T : List (Addr × Str)) : Sp := fun vs H Q _ => ∃ (p : Addr) (ns : List Int), vs = [.ref p] ∧ ns.length ≤ 63 ∧ SqL K H p (ns.map V.int) ∧ LamX.Tabs T H ∧ ∀ H', Q (.bl true) H'
/-- the heap without its tables -/
def noT (H : Hp) : Hp := fun b => match H b with
  | some (.tbl _) => none
  | o => o
theorem noT_eq {H : Hp} {b : Addr} {o : HO} (h : noT H b = some o) : H b = some o ∧ ∀ ps, o ≠ .tbl ps := by
  unfold noT at h
  split at h
  · cases h
  · rename_i n
    exact ⟨h, fun ps e => n ps (by rw [h, e])⟩
theorem noT_of {H : Hp} {b : Addr} {o : HO} (h : H b = some o) (n : ∀ ps, o ≠ .tbl ps) : noT H b = some o := by
  unfold noT
  rw [h]
  cases o <;> first | rfl | exact (n _ rfl).elim
theorem noT_sql {K : PySem.W.Frag} {H : Hp} {p : Addr} {vs : List V} (h : SqL K H p vs) : SqL K (noT H) p vs := by
  rcases h with (h | ⟨o, h⟩) | h
  · exact .inl (.inl (noT_of h fun _ z => by cases z))
  · exact .inl (.inr ⟨o, noT_of h fun _ z => by cases z⟩)
  · exact .inr h
/-- hand = hand(script), then the rest over such a hand -/
theorem law_ok {K : PySem.W.Frag} {m : M} {t : TS} {f : MS} {i j : Nat} {N : List Str} {vs : List V} {H : Hp} {Q : VK} {E : XK} (hN : N.length = 1 + j) (hi : 0 < i)
    (hm : ∀ ns : List Int, ns.length ≤ 63 → m [.scr ns] (fun d => ∃ cells s, d = .lst (handD cells 0 0 s 0) ∧ cells.length ≤ 63) (fun _ => False))
    {T : List (Addr × Str)} (ht : ∀ C : Ctx, C.K = K → (∀ x, ¬ C.W x) → C.a.T = T → LamX.Tabs C.a.T C.H0 → DS C t f)
    (hf : f ((List.replicate (1 + j) .no).set i (.sh .hand)) ⟨fun _ => False, fun _ d => d = .bl true, fun _ => False, fun _ => False⟩ (fun _ => False))
    (h : spLaw K T vs H Q E) : tSeq (tAsg (tCall (spOf K 1 m) [] E0 (tCons (tVar 0) tNil)) (gName i)) t { nx := fun _ H' => Q .non H', rt := Q } (L2.start N vs) H := by
  obtain ⟨p, ns, rfl, hl, hp, hT, hQ⟩ := h
  have est : L2.start N [V.ref p] = some (.ref p) :: List.replicate j none := by
    unfold L2.start
    rw [hN, show 1 + j - [V.ref p].length = j by show 1 + j - 1 = j; omega]
    rfl
  rw [est]
  refine ⟨.ref p, rfl, ⟨none, T⟩, noT H, [.scr ns], _, rfl, fun b o h => (noT_eq h).1, ⟨fun b ps h => (noT_eq h).2 ps rfl, fun y e => (by cases e)⟩, .cons (.scr (noT_sql hp)) .nil, hm ns hl, fun d v Hs' H' hq g s hd rp => ?_⟩
  obtain ⟨cells, sd, rfl, hc⟩ := hq
  cases rp with
  | lst hx rl =>
    rename_i x us
    cases rl with
    | cons p1 rl => cases rl with
      | cons p2 rl => cases rl with
        | cons p3 rl => cases rl with
          | cons p4 rl => cases rl with
            | cons p5 rl =>
              cases rl
              cases p2
              cases p3
              cases p4
              cases p5
              cases p1 with
              | lst hcc p6 =>
                rename_i c vs
                obtain rfl := p6.ints
                have ncx : c ≠ x := fun z => by
                  rw [z, hx] at hcc
                  injection hcc with hcc
                  injection hcc with hcc
                  cases cells with
                  | nil => cases hcc
                  | cons k r =>
                    rw [List.map_cons] at hcc
                    injection hcc with z1 _
                    cases z1
                have rs : RS ⟨K, ⟨some x, T⟩, H', fun b => if b = c then some (.lst (cells.map V.int)) else none, fun _ => False⟩ (fun b => if b = c then some (.lst (cells.map V.int)) else none)
                    ((List.replicate (1 + j) En.no).set i (.sh .hand)) ((some (.ref p) :: List.replicate j none).set i (some (.ref x))) H' := by
                  refine ⟨by simp; omega, SB.refl, fun b o hb => ?_, Same.refl _, fun b o hb => .inl hb, ⟨fun b ps hb => ?_, fun y e => ?_⟩, fun y e => ?_, fun m e he => ?_, fun m m' q e e' hm he he' o o' _ _ => ?_⟩
                  · have hb2 : (if b = c then some (HO.lst (cells.map V.int)) else none) = some o := hb
                    split at hb2
                    · rename_i z
                      rw [← hb2, z]
                      exact s _ _ hcc
                    · cases hb2
                  · have hb2 : (if b = c then some (HO.lst (cells.map V.int)) else none) = some (.tbl ps) := hb
                    split at hb2
                    · cases hb2
                    · cases hb2
                  · cases e
                    refine ⟨?_, c, 0, 0, sd, 0, cells, s _ _ hx, ?_, Int.le_refl _, hc⟩
                    · show (if x = c then _ else none) = none
                      rw [if_neg (Ne.symm ncx)]
                    · show (if c = c then _ else none) = _
                      rw [if_pos rfl]
                  · cases e
                    exact fun z => z.not (s _ _ hx) fun _ z => by cases z
                  · by_cases z : i = m
                    · subst z
                      have hlm : i < (List.replicate (1 + j) En.no).length := by
                        have q := (List.getElem?_eq_some_iff.mp he).1
                        rwa [List.length_set] at q
                      rw [List.getElem?_set_self hlm] at he
                      cases he
                      rw [List.length_replicate] at hlm
                      rw [List.getElem?_set_self (by simp; omega)]
                      exact ⟨_, rfl, .hand rfl⟩
                    · rw [List.getElem?_set_ne z, List.getElem?_replicate] at he
                      split at he
                      · cases he; trivial
                      · cases he
                  · have no : ∀ (m : Nat) (e : En), ((List.replicate (1 + j) En.no).set i (.sh .hand))[m]? = some e → e.own = false := fun m e he => by
                      by_cases z : i = m
                      · subst z
                        have hlm : i < (List.replicate (1 + j) En.no).length := by
                          have q := (List.getElem?_eq_some_iff.mp he).1
                          rwa [List.length_set] at q
                        rw [List.getElem?_set_self hlm] at he
                        cases he
                        rfl
                      · rw [List.getElem?_set_ne z, List.getElem?_replicate] at he
                        split at he
                        · cases he; rfl
                        · cases he
                    rw [no m e he] at o
                    cases o
                refine (ht _ rfl (fun _ z => z) rfl (g.b.t hT)).run _ _ _ H' _ (fun _ => False) _ (fun _ z => z) rs hf ⟨fun _ _ _ _ z => z.elim, fun d v ρ' σ' Hs2 H2 w' s' r' p' => ?_, fun _ _ _ _ z => z.elim, fun _ _ _ _ z => z.elim⟩
                have w2 : d = .bl true := w'
                subst w2
                cases p'
                exact hQ H2
end Fd
namespace Fd
open PySem PySem.Spec L2
/-! ### short words for the printed proofs -/
abbrev tTru (K : PySem.W.Frag) (t : TE) : TT := fun σ H Q => t σ H fun x H' => ∃ k, TruV K x H' k ∧ Q k H'
theorem pt_tru {X : Cx} {a : Expr} {t : TE} (h : PE X a t) (he : ∀ whole, isTrue a X.env whole = (do let v ← whole; standAt a.pos; holding [v] (truthy v)) := by intro _; rfl) : PT X a (tTru X.K t) := pt_truth h he
theorem pe_gint {X : Cx} {x : Str} {i : Int} {pos : Pos} (hg : Gl X x) (h : ∃ t, X.mg x = some (.int i t)) (hd : (x == ("__debug__" : Str)) = false := by decide) : PE X (.Name x pos) (tC (.int i)) := by
  obtain ⟨t, h⟩ := h
  exact pe_glob hg h ⟨_, rfl⟩ hd
theorem sl_anyX {X : Cx} : SlR X (rSlAny X.K) := SlR.or (SlR.or sl_list sl_tupF) C8.sl_txt
theorem bt_len : bootBuiltins "len" = some (.builtin "len") := PySem.boot_len
theorem bt_sum : bootBuiltins "sum" = some (.builtin "sum") := by decide +kernel
theorem bt_max : bootBuiltins "max" = some (.builtin "max") := by decide +kernel
theorem bt_min : bootBuiltins "min" = some (.builtin "min") := by decide +kernel
theorem bt_all : bootBuiltins "all" = some (.builtin "all") := by decide +kernel
theorem bt_any : bootBuiltins "any" = some (.builtin "any") := by decide +kernel
theorem bt_abs : bootBuiltins "abs" = some (.builtin "abs") := by decide +kernel
theorem bt_isinstance : bootBuiltins "isinstance" = some (.builtin "isinstance") := by decide +kernel
theorem bt_sorted : bootBuiltins "sorted" = some (.builtin "sorted") := by decide +kernel
theorem bt_int : bootBuiltins "int" = some (.type "int") := by decide +kernel
theorem bt_bool : bootBuiltins "bool" = some (.type "bool") := by decide +kernel
theorem bt_str : bootBuiltins "str" = some (.type "str") := by decide +kernel
theorem bt_list : bootBuiltins "list" = some (.type "list") := by decide +kernel
theorem bt_tuple : bootBuiltins "tuple" = some (.type "tuple") := by decide +kernel
theorem bt_dict : bootBuiltins "dict" = some (.type "dict") := by decide +kernel
theorem bt_set : bootBuiltins "set" = some (.type "set") := by decide +kernel
end Fd
/-! swapped stores; zip of shared lists -/
namespace Fd
open PySem PySem.Spec L2
theorem tPar2_eq (i j : Nat) (ta : TA) : tPar i j ta = tParN [i, j] ta := by
  funext D σ H
  show ta σ H _ = ta σ H _
  congr 1
  funext vs H1
  refine propext ⟨fun ⟨v, w, e, h⟩ => by subst e; exact ⟨rfl, h⟩, fun ⟨l, h⟩ => ?_⟩
  match vs, l, h with
  | [v, w], _, h => exact ⟨v, w, rfl, h⟩
theorem tPar3_eq (i j l : Nat) (ta : TA) : tPar3 i j l ta = tParN [i, j, l] ta := by
  funext D σ H
  show ta σ H _ = ta σ H _
  congr 1
  funext vs H1
  refine propext ⟨fun ⟨u, v, w, e, h⟩ => by subst e; exact ⟨rfl, h⟩, fun ⟨l, h⟩ => ?_⟩
  match vs, l, h with
  | [u, v, w], _, h => exact ⟨u, v, w, rfl, h⟩
section
variable {X : Cx}
theorem ps_par2 {i j : Nat} {x y : Str} {a b : Expr} {ta : TA} {px py pt pos : Pos} {kt k2 pt2} (hc : X.calm = true) (hN : X.N.Nodup) (hi : X.N[i]? = some x) (hj : X.N[j]? = some y) (hij : i ≠ j)
    (hx : X.env.scope.names.lookup x = some .local) (hy : X.env.scope.names.lookup y = some .local) (ha : PA X [a, b] ta)
    (hw : swappedStores [.Tuple [.Name x px, .Name y py] kt pt] (.Tuple [a, b] k2 pt2) X.env = pure (some [x, y]))
    (hs : swapsWithSole [.Tuple [.Name x px, .Name y py] kt pt] (.Tuple [a, b] k2 pt2) pos.line X.env = pure false := by rfl) :
    PS X (.Assign [.Tuple [.Name x px, .Name y py] kt pt] (.Tuple [a, b] k2 pt2) pos) (tParN [i, j] ta) := by
  rw [← tPar2_eq]
  exact ps_par hc hN hi hj hij hx hy ha hw hs
theorem ps_parT {i j l : Nat} {x y z : Str} {a b c : Expr} {ta : TA} {px py pz pt pos : Pos} {kt k2 pt2} (hc : X.calm = true) (hN : X.N.Nodup) (hi : X.N[i]? = some x) (hj : X.N[j]? = some y) (hl : X.N[l]? = some z) (hd : i ≠ j ∧ i ≠ l ∧ j ≠ l)
    (hx : X.env.scope.names.lookup x = some .local) (hy : X.env.scope.names.lookup y = some .local) (hz : X.env.scope.names.lookup z = some .local) (ha : PA X [a, b, c] ta)
    (hw : swappedStores [.Tuple [.Name x px, .Name y py, .Name z pz] kt pt] (.Tuple [a, b, c] k2 pt2) X.env = pure (some [x, y, z]))
    (hs : swapsWithSole [.Tuple [.Name x px, .Name y py, .Name z pz] kt pt] (.Tuple [a, b, c] k2 pt2) pos.line X.env = pure false := by rfl) :
    PS X (.Assign [.Tuple [.Name x px, .Name y py, .Name z pz] kt pt] (.Tuple [a, b, c] k2 pt2) pos) (tParN [i, j, l] ta) := by
  rw [← tPar3_eq]
  exact ps_par3 hc hN hi hj hl hd.1 hd.2.1 hd.2.2 hx hy hz ha hw hs
end
section
variable {C : Ctx}
theorem sqK_sh {Hs : Hp} {d : D} {v : V} {xs : List D} (p : Rep C.K C.a Hs d v) (e : d = .lst xs ∨ d = .tup xs) :
    ∃ b a vs, v = .ref a ∧ RepL C.K C.a Hs xs vs ∧ (∀ H', Same Hs H' → SqK b C.K H' a vs) := by
  rcases e with e | e
  · subst e
    cases p with
    | lst h1 h2 => exact ⟨true, _, _, rfl, h2, fun H' s' => SqL.of (s' _ _ h1)⟩
  · subst e
    cases p with
    | tup h1 _ h2 => exact ⟨false, _, _, rfl, h2, fun H' s' => same_sqT s' h1⟩
theorem di_zip {t u : TE} {f g : ME} (h : DT C t f) (h' : DT C u g) : DI C (iZipK C.K t u) (fZip f g) := by
  refine ⟨fun Hs ρ σ H q qe R l r w k => ?_⟩
  refine h.run Hs ρ σ H _ qe _ l r w fun d v Hs1 H1 w1 g1 r1 p1 => ?_
  refine h'.run Hs1 ρ σ H1 _ qe _ l r1 w1 fun e u Hs2 H2 w2 g2 r2 p2 => ?_
  split at w2
  · rename_i xs ys ex ey
    obtain ⟨b, a, vs, ev, rl, hk⟩ := sqK_sh (p1.mono g2.s) (items_eq ex)
    obtain ⟨c, a', vs', ev', rl', hk'⟩ := sqK_sh p2 (items_eq ey)
    refine ⟨b, c, a, a', vs, vs', ev, ev', hk H2 r2.sh, hk' H2 r2.sh, k _ _ Hs2 H2 w2 (g1.trans g2) r2 ⟨fun i Hs3 ρ3 σ3 H3 s r3 hi => ?_, fun i Hs3 ρ3 σ3 H3 s r3 hi => ?_, fun i Hs3 ρ3 σ3 H3 x y H' s r3 hx hy => ?_⟩⟩
    · rw [zipD_length, rl.length, rl'.length] at hi
      have h1 : i < vs.length := by omega
      have h2 : i < vs'.length := by omega
      exact ⟨vs, vs', vs[i], vs'[i], hk H3 (s.trans r3.sh), hk' H3 (s.trans r3.sh), List.getElem?_eq_getElem h1, List.getElem?_eq_getElem h2⟩
    · rw [zipD_length, rl.length, rl'.length] at hi
      exact ⟨vs, vs', hk H3 (s.trans r3.sh), hk' H3 (s.trans r3.sh), by omega, by omega, by omega⟩
    · obtain ⟨T, z1, z2, ot, rfl, hT, hot, rfl, hz1, hz2⟩ := hy
      obtain ⟨x1, x2, e1, e2, rfl⟩ := zipD_get hx
      obtain ⟨y1, f1, ry1⟩ := rl.get (hz1 vs (hk H3 (s.trans r3.sh)))
      obtain ⟨y2, f2, ry2⟩ := rl'.get (hz2 vs' (hk' H3 (s.trans r3.sh)))
      rw [e1] at f1
      rw [e2] at f2
      cases f1
      cases f2
      have sm := same_upd (o := frT ot [z1, z2]) (r3.fresh_s hT)
      exact ⟨_, r3.gr_new hT, r3.alloc hT, .tup sqT_fr (ndT_fr hot) (.cons ((ry1.mono s).mono sm) (.cons ((ry2.mono s).mono sm) .nil))⟩
  · exact w2.elim
end
end Fd
namespace Fd
open PySem PySem.Spec L2
theorem dsK {K : PySem.W.Frag} {t : TS} {f : MS} (h : ∀ (a : Hd) (h0 hs0 : Hp) (W : EX → Prop), (∀ x, ¬ W x) → DS ⟨K, a, h0, hs0, W⟩ t f) (C : Ctx) (hK : C.K = K) (hW : ∀ x, ¬ C.W x) : DS C t f := by
  subst hK
  exact h C.a C.H0 C.Hs0 C.W hW
end Fd
namespace Fd
open PySem PySem.Spec L2
abbrev rTupleOf (K : PySem.W.Frag) : List V → Hp → VK → Prop := rTupleF K
abbrev rListOf (K : PySem.W.Frag) : List V → Hp → VK → Prop := fun xs H Q => ∃ p ys, xs = [V.ref p] ∧ (SqL K H p ys ∨ SqT K H p ys) ∧ ∀ l, H l = none → Q (.ref l) (upd H l (.lst ys))
abbrev rInt1 : List V → Hp → VK → Prop := fun xs H Q => (∃ i, xs = [V.int i] ∧ Q (.int i) H) ∨ ∃ k, xs = [V.bl k] ∧ Q (.int (if k then 1 else 0)) H
abbrev rAbs1 : List V → Hp → VK → Prop := fun xs H Q => ∃ i, xs = [V.int i] ∧ Q (.int (if i < 0 then -i else i)) H
section
variable {X : Cx}
theorem callA_tuple : CallR X (.type "tuple") (rTupleOf X.K) := call_tupleF
theorem callA_list : CallR X (.type "list") (rListOf X.K) := call_list_of
theorem callA_int : CallR X (.type "int") rInt1 := call_int1
theorem callA_abs : CallR X (.builtin "abs") rAbs1 := call_abs
end
end Fd
/-! ### more new lists -/
namespace Fd
open PySem PySem.Spec L2
section
variable {C : Ctx}
abbrev O2F := D → D → (List D → Prop) → Prop
structure D2F (C : Ctx) (t : R2) (op : O2F) : Prop where
  run : ∀ Hs ρ σ H x y vx vy q Q, RS C Hs ρ σ H → RepB C.K C.a Hs H x vx → RepB C.K C.a Hs H y vy → op x y q →
    (∀ ds p vs Hs' H', q ds → Gr C.a Hs H Hs' H' → RS C Hs' ρ σ H' → H' p = none → RepL C.K C.a Hs' ds vs → Q (.ref p) (upd H' p (.lst vs))) → t vx vy H Q
def f2 (op : O2F) (fa fb : ME) : MA := fun ρ q qe => fa ρ (fun x => fb ρ (fun y => op x y q) qe) qe
theorem df_op {t : R2} {op : O2F} {ta tb : TE} {fa fb : ME} (h : D2F C t op) (ha : DB C ta fa) (hb : DB C tb fb) : DF C (tOp t ta tb) (f2 op fa fb) := by
  refine ⟨fun Hs ρ σ H q qe Q l r w k => ?_⟩
  refine ha.run Hs ρ σ H _ qe _ l r w fun x vx Hs1 H1 w1 g1 r1 p1 => ?_
  refine hb.run Hs1 ρ σ H1 _ qe _ l r1 w1 fun y vy Hs2 H2 w2 g2 r2 p2 => ?_
  exact h.run Hs2 ρ σ H2 x y vx vy q Q r2 (p1.mono g2.s g2.b) p2 w2 fun ds p vs Hs3 H3 e g3 r3 hp p3 => k ds p vs Hs3 H3 e (g1.trans (g2.trans g3)) r3 hp p3
def dMulF : O2F := fun x y q => match x, y with
  | .lst xs, .int k => (-(2 ^ 63) ≤ k ∧ k < 2 ^ 63 ∧ xs.length * k.toNat ≤ sizeLine) ∧ q (List.replicate k.toNat xs).flatten
  | _, _ => False
theorem d2f_mul : D2F C rMulX dMulF := by
  refine ⟨fun Hs ρ σ H x y vx vy q Q r px py w k => ?_⟩
  unfold dMulF at w
  split at w
  · obtain ⟨p, vs, rfl, h1, h2⟩ := px.lst r.sh
    cases py with
    | sh py =>
      cases py
      exact .inr ⟨p, _, vs, rfl, rfl, h1, w.1.1, w.1.2.1, by rw [← h2.length]; exact w.1.2.2, fun a ha => k _ a _ Hs H w.2 Gr.refl r ha (h2.rep _)⟩
  · exact w.elim
def dAddF : O2F := fun x y q => match x, y with
  | .lst xs, .lst ys => xs.length + ys.length ≤ sizeLine ∧ q (xs ++ ys)
  | _, _ => False
theorem d2f_add : D2F C (rAddX C.K) dAddF := by
  refine ⟨fun Hs ρ σ H x y vx vy q Q r px py w k => ?_⟩
  unfold dAddF at w
  split at w
  · obtain ⟨p, vs, rfl, h1, h2⟩ := px.lst r.sh
    obtain ⟨p', vs', rfl, h1', h2'⟩ := py.lst r.sh
    exact .inr (.inl ⟨p, p', vs, vs', rfl, rfl, h1, h1', by rw [← h2.length, ← h2'.length]; exact w.1, fun a ha => k _ a _ Hs H w.2 Gr.refl r ha (h2.append h2')⟩)
  · exact w.elim
def fSl (f : ME) (lo hi : MO) : MA := fun ρ q qe => f ρ (fun d => lo ρ (fun l => hi ρ (fun u => match d with
  | .lst xs => q (cutD xs l u)
  | _ => False) qe) qe) qe
theorem df_sl {t : TE} {tl th : TO} {f : ME} {lo hi : MO} (h : DB C t f) (hl : DO C tl lo) (hh : DO C th hi) : DF C (tSl (rSlAny C.K) t tl th) (fSl f lo hi) := by
  refine ⟨fun Hs ρ σ H q qe Q l r w k => ?_⟩
  refine h.run Hs ρ σ H _ qe _ l r w fun d v Hs1 H1 w1 g1 r1 p1 => ?_
  refine hl.run Hs1 ρ σ H1 _ qe _ l r1 w1 fun o Hs2 H2 w2 g2 r2 => ?_
  refine hh.run Hs2 ρ σ H2 _ qe _ l r2 w2 fun u Hs3 H3 w3 g3 r3 => ?_
  have p3 := (p1.mono g2.s g2.b).mono g3.s g3.b
  have g13 := g1.trans (g2.trans g3)
  split at w3
  · obtain ⟨p, vs, rfl, h1, h2⟩ := p3.lst r3.sh
    exact .inl (.inl ⟨p, vs, rfl, SqL.of h1, fun a ha => k _ a _ Hs3 H3 w3 g13 r3 ha (h2.cut o u)⟩)
  · exact w3.elim
end
end Fd
/-! the readings, computed -/
namespace Fd
open PySem PySem.Spec L2
/-! items -/
theorem atI_n {α : Type} (xs : List α) (n : Nat) : atI xs (n : Int) = xs[n]? := by
  unfold atI ixN
  rw [if_pos (by omega)]
  by_cases h : (n : Int) < (xs.length : Int)
  · rw [if_pos h, Option.bind_some, Int.toNat_natCast]
  · rw [if_neg h, Option.bind_none, List.getElem?_eq_none (by omega)]
theorem atI_0 {α : Type} (xs : List α) : atI xs 0 = xs[0]? := atI_n xs 0
theorem atI_1 {α : Type} (xs : List α) : atI xs 1 = xs[1]? := atI_n xs 1
theorem atI_2 {α : Type} (xs : List α) : atI xs 2 = xs[2]? := atI_n xs 2
theorem atI_3 {α : Type} (xs : List α) : atI xs 3 = xs[3]? := atI_n xs 3
theorem atI_4 {α : Type} (xs : List α) : atI xs 4 = xs[4]? := atI_n xs 4
theorem atI_5 {α : Type} (xs : List α) : atI xs 5 = xs[5]? := atI_n xs 5
theorem atI_6 {α : Type} (xs : List α) : atI xs 6 = xs[6]? := atI_n xs 6
theorem atI_7 {α : Type} (xs : List α) : atI xs 7 = xs[7]? := atI_n xs 7
theorem atI_8 {α : Type} (xs : List α) : atI xs 8 = xs[8]? := atI_n xs 8
theorem atI_9 {α : Type} (xs : List α) : atI xs 9 = xs[9]? := atI_n xs 9
theorem atI_m1 {α : Type} (xs : List α) : atI xs (-1) = xs.getLast? := by
  unfold atI ixN
  rw [if_neg (by omega), List.getLast?_eq_getElem?]
  by_cases h : (-(xs.length : Int)) ≤ -1
  · rw [if_pos h, Option.bind_some]
    congr 1
    omega
  · rw [if_neg h, Option.bind_none]
    have : xs = [] := List.eq_nil_of_length_eq_zero (by omega)
    subst this
    rfl
theorem ixN_nat (n k : Nat) (h : k < n) : ixN n (k : Int) = some k := by
  unfold ixN
  rw [if_pos (by omega), if_pos (by omega), Int.toNat_natCast]
theorem atI_map {α β : Type} (f : α → β) (xs : List α) (i : Int) : atI (xs.map f) i = (atI xs i).map f := by
  unfold atI
  rw [List.length_map]
  cases ixN xs.length i with
  | none => rfl
  | some j => rw [Option.bind_some, Option.bind_some, List.getElem?_map]
theorem ints_mapF {α : Type} (f : α → Int) (xs : List α) : D.ints (xs.map fun x => D.int (f x)) = some (xs.map f) := by
  induction xs with
  | nil => rfl
  | cons x xs ih => rw [List.map_cons, D.ints, ih]; rfl
theorem bools_mapF {α : Type} (f : α → Bool) (xs : List α) : D.bools (xs.map fun x => D.bl (f x)) = some (xs.map f) := by
  induction xs with
  | nil => rfl
  | cons x xs ih => rw [List.map_cons, D.bools, ih]; rfl
theorem rgD_0 (n : Nat) : rgD 0 (n : Int) = (List.range n).map fun i => D.int (i : Nat) := by
  unfold rgD
  rw [Int.sub_zero, Int.toNat_natCast]
  exact List.map_congr_left fun i _ => by rw [Int.zero_add]
theorem rgD_1 : rgD 0 1 = (List.range 1).map fun i => D.int (i : Nat) := rgD_0 1
theorem rgD_2 : rgD 0 2 = (List.range 2).map fun i => D.int (i : Nat) := rgD_0 2
theorem rgD_3 : rgD 0 3 = (List.range 3).map fun i => D.int (i : Nat) := rgD_0 3
theorem rgD_4 : rgD 0 4 = (List.range 4).map fun i => D.int (i : Nat) := rgD_0 4
theorem rgD_5 : rgD 0 5 = (List.range 5).map fun i => D.int (i : Nat) := rgD_0 5
theorem rgD_6 : rgD 0 6 = (List.range 6).map fun i => D.int (i : Nat) := rgD_0 6
theorem rgD_7 : rgD 0 7 = (List.range 7).map fun i => D.int (i : Nat) := rgD_0 7
theorem rgD_8 : rgD 0 8 = (List.range 8).map fun i => D.int (i : Nat) := rgD_0 8
theorem rgD_9 : rgD 0 9 = (List.range 9).map fun i => D.int (i : Nat) := rgD_0 9
theorem rgD_10 : rgD 0 10 = (List.range 10).map fun i => D.int (i : Nat) := rgD_0 10
theorem rgD_11 : rgD 0 11 = (List.range 11).map fun i => D.int (i : Nat) := rgD_0 11
theorem rgD_12 : rgD 0 12 = (List.range 12).map fun i => D.int (i : Nat) := rgD_0 12
theorem enumD_map {α : Type} (f : α → D) : ∀ (n : Nat) (xs : List α), enumD n (xs.map f) = (xs.zipIdx n).map fun p => D.tup [.int (p.2 : Nat), f p.1]
  | _, [] => rfl
  | n, x :: xs => by
    rw [List.map_cons, enumD, enumD_map f (n + 1) xs]
    rfl
theorem zipD_map {α β : Type} (f : α → D) (g : β → D) (xs : List α) (ys : List β) : zipD (xs.map f) (ys.map g) = (xs.zip ys).map fun p => D.tup [f p.1, g p.2] := by
  unfold zipD
  rw [List.zipWith_map, List.zip_eq_zipWith, List.map_zipWith]
theorem rgB_nat {n : Nat} (h : n < 4611686018427387904) : RgB (n : Int) := by
  unfold RgB
  constructor <;> omega
/-! equal values -/
theorem dats_all : ∀ xs : List D, D.dats xs = xs.all D.dat
  | [] => rfl
  | x :: xs => by rw [D.dats, dats_all xs, List.all_cons]
mutual
/-- no texts; how deep -/
def D.deep : Nat → D → Bool
  | _, .non => true
  | _, .bl _ => true
  | _, .int _ => true
  | n + 1, .tup xs => D.deeps n xs
  | n + 1, .lst xs => D.deeps n xs
  | _, _ => false
def D.deeps : Nat → List D → Bool
  | _, [] => true
  | n, x :: xs => D.deep n x && D.deeps n xs
end
theorem deeps_all (n : Nat) : ∀ xs : List D, D.deeps n xs = xs.all (D.deep n)
  | [] => by simp [D.deeps]
  | x :: xs => by rw [D.deeps, deeps_all n xs, List.all_cons]
mutual
theorem deep_ok : ∀ (n : Nat) (d : D), d.deep n = true → d.dat = true ∧ d.py.canLay0 = true ∧ d.py.depth ≤ n
  | _, .non, _ => ⟨rfl, rfl, Nat.zero_le _⟩
  | _, .bl _, _ => ⟨rfl, rfl, Nat.zero_le _⟩
  | _, .int _, _ => ⟨rfl, rfl, Nat.zero_le _⟩
  | n + 1, .tup xs, h => by
    rw [D.deep] at h
    obtain ⟨a, b, c⟩ := deeps_ok n xs h
    exact ⟨a, b, Nat.succ_le_succ c⟩
  | n + 1, .lst xs, h => by
    rw [D.deep] at h
    obtain ⟨a, b, c⟩ := deeps_ok n xs h
    exact ⟨a, b, Nat.succ_le_succ c⟩
  | 0, .tup _, h => by simp [D.deep] at h
  | 0, .lst _, h => by simp [D.deep] at h
  | _, .str _, h => by simp [D.deep] at h
  | _, .dct _, h => by simp [D.deep] at h
  | _, .obj _ _, h => by simp [D.deep] at h
  | _, .hand, h => by simp [D.deep] at h
  | _, .scr _, h => by simp [D.deep] at h
theorem deeps_ok : ∀ (n : Nat) (ds : List D), D.deeps n ds = true → D.dats ds = true ∧ PyData.canLayAll0 (D.pys ds) = true ∧ PyData.depthAll (D.pys ds) ≤ n
  | _, [], _ => ⟨rfl, rfl, Nat.zero_le _⟩
  | n, x :: xs, h => by
    rw [D.deeps, Bool.and_eq_true] at h
    obtain ⟨a, b, c⟩ := deep_ok n x h.1
    obtain ⟨a', b', c'⟩ := deeps_ok n xs h.2
    refine ⟨?_, ?_, ?_⟩
    · rw [D.dats, a, a']; rfl
    · show (PyData.canLay0 x.py && PyData.canLayAll0 (D.pys xs)) = true
      rw [b, b']; rfl
    · show max (PyData.depth x.py) (PyData.depthAll (D.pys xs)) ≤ n
      omega
end
theorem okq_of {d : D} (h : d.deep 64 = true) : d.okq = true := by
  obtain ⟨a, b, c⟩ := deep_ok 64 d h
  unfold D.okq SeqAt.shaped
  rw [a, b, decide_eq_true c]
  rfl
mutual
theorem deep_up : ∀ (n m : Nat) (d : D), n ≤ m → d.deep n = true → d.deep m = true
  | _, m, .non, _, _ => by cases m <;> rfl
  | _, m, .bl _, _, _ => by cases m <;> rfl
  | _, m, .int _, _, _ => by cases m <;> rfl
  | n + 1, m + 1, .tup xs, h, w => by
    rw [D.deep] at w ⊢
    exact deeps_up n m xs (Nat.le_of_succ_le_succ h) w
  | n + 1, m + 1, .lst xs, h, w => by
    rw [D.deep] at w ⊢
    exact deeps_up n m xs (Nat.le_of_succ_le_succ h) w
  | n + 1, 0, _, h, _ => by omega
  | 0, _, .tup _, _, h => by simp [D.deep] at h
  | 0, _, .lst _, _, h => by simp [D.deep] at h
  | _, _, .str _, _, h => by simp [D.deep] at h
  | _, _, .dct _, _, h => by simp [D.deep] at h
  | _, _, .obj _ _, _, h => by simp [D.deep] at h
  | _, _, .hand, _, h => by simp [D.deep] at h
  | _, _, .scr _, _, h => by simp [D.deep] at h
theorem deeps_up : ∀ (n m : Nat) (ds : List D), n ≤ m → D.deeps n ds = true → D.deeps m ds = true
  | _, _, [], _, _ => by simp [D.deeps]
  | n, m, x :: xs, h, w => by
    rw [D.deeps, Bool.and_eq_true] at w ⊢
    exact ⟨deep_up n m x h w.1, deeps_up n m xs h w.2⟩
end
theorem okq_deep {n : Nat} {d : D} (hn : n ≤ 64) (h : d.deep n = true) : d.okq = true := okq_of (deep_up n 64 d hn h)
theorem okq_int (i : Int) : (D.int i).okq = true := rfl
theorem okq_bl (b : Bool) : (D.bl b).okq = true := rfl
theorem okq_non : D.non.okq = true := rfl
theorem deeps_map {α : Type} {n : Nat} {f : α → D} {xs : List α} (h : ∀ x ∈ xs, (f x).deep n = true) : D.deeps n (xs.map f) = true := by
  rw [deeps_all, List.all_eq_true]
  intro d hd
  obtain ⟨x, hx, rfl⟩ := List.mem_map.mp hd
  exact h x hx
theorem deep_int (n : Nat) (i : Int) : (D.int i).deep n = true := by cases n <;> rfl
theorem deep_bl (n : Nat) (i : Bool) : (D.bl i).deep n = true := by cases n <;> rfl
theorem deep_non (n : Nat) : D.non.deep n = true := by cases n <;> rfl
theorem deep_tup {n : Nat} {xs : List D} (h : D.deeps n xs = true) : (D.tup xs).deep (n + 1) = true := by rw [D.deep]; exact h
theorem deep_lst {n : Nat} {xs : List D} (h : D.deeps n xs = true) : (D.lst xs).deep (n + 1) = true := by rw [D.deep]; exact h
theorem eqv_self {d : D} (h : d.okq = true) : D.eqv d d = true := by
  unfold D.okq at h
  rw [Bool.and_eq_true] at h
  exact SeqAt.eqv_refl _ (SeqAt.canLay_of_shaped h.2)
theorem eqv_int (i j : Int) : D.eqv (.int i) (.int j) = (i == j) := rfl
theorem eqv_bl (i j : Bool) : D.eqv (.bl i) (.bl j) = (i == j) := rfl
theorem eqv_nil (xs : List D) : D.eqv (.lst xs) (.lst []) = xs.isEmpty := by cases xs <;> rfl
theorem dNe_self {d : D} {q : D → Prop} (h : d.okq = true) : dNe d d q = q (.bl false) := by
  unfold dNe
  rw [eqv_self h, h]
  exact propext ⟨fun z => z.2, fun z => ⟨⟨rfl, rfl⟩, z⟩⟩
theorem dEq_self {d : D} {q : D → Prop} (h : d.okq = true) : dEq d d q = q (.bl true) := by
  unfold dEq
  rw [eqv_self h, h]
  exact propext ⟨fun z => z.2, fun z => ⟨⟨rfl, rfl⟩, z⟩⟩
theorem dEq_int (i j : Int) (q : D → Prop) : dEq (.int i) (.int j) q = q (.bl (i == j)) := propext ⟨fun z => z.2, fun z => ⟨⟨rfl, rfl⟩, z⟩⟩
theorem dNe_int (i j : Int) (q : D → Prop) : dNe (.int i) (.int j) q = q (.bl (!(i == j))) := propext ⟨fun z => z.2, fun z => ⟨⟨rfl, rfl⟩, z⟩⟩
theorem dNe_bl (i j : Bool) (q : D → Prop) : dNe (.bl i) (.bl j) q = q (.bl (!(i == j))) := propext ⟨fun z => z.2, fun z => ⟨⟨rfl, rfl⟩, z⟩⟩
theorem dEq_bl (i j : Bool) (q : D → Prop) : dEq (.bl i) (.bl j) q = q (.bl (i == j)) := propext ⟨fun z => z.2, fun z => ⟨⟨rfl, rfl⟩, z⟩⟩
/-! ### comprehensions -/
inductive All2 {α β : Type} (P : α → β → Prop) : List α → List β → Prop
  | nil : All2 P [] []
  | cons {a b as bs} : P a b → All2 P as bs → All2 P (a :: as) (b :: bs)
theorem lc_cons {g : MG} {te : ME} {ρ : List En} {qe : QE} {d : D} {ds : List D} {q : List D → Prop} :
    lcL g mYes te ρ (d :: ds) q qe = g d ρ fun ρ1 => te ρ1 (fun y => lcL g mYes te ρ ds (fun ys => q (y :: ys)) qe) qe := by
  rw [lcL]
  rfl
theorem lc_all {α : Type} {mk : α → D} {P : α → D → Prop} {g : MG} {te : ME} {ρ : List En} {qe : QE} : ∀ {xs : List α} {q : List D → Prop},
    (∀ x ∈ xs, ∀ k : D → Prop, (∀ d, P x d → k d) → g (mk x) ρ fun ρ1 => te ρ1 k qe) → (∀ ds, All2 P xs ds → q ds) → lcL g mYes te ρ (xs.map mk) q qe
  | [], _, _, hq => hq [] .nil
  | x :: xs, q, h, hq => by
    rw [List.map_cons, lc_cons]
    refine h x (List.mem_cons_self ..) _ fun d hd => ?_
    exact lc_all (xs := xs) (fun y hy => h y (List.mem_cons_of_mem _ hy)) fun ds hds => hq _ (.cons hd hds)
theorem lc_map {α : Type} {mk : α → D} (out : α → D) {g : MG} {te : ME} {ρ : List En} {qe : QE} : ∀ {xs : List α} {q : List D → Prop},
    (∀ x ∈ xs, ∀ k : D → Prop, k (out x) → g (mk x) ρ fun ρ1 => te ρ1 k qe) → q (xs.map out) → lcL g mYes te ρ (xs.map mk) q qe
  | [], _, _, hq => hq
  | x :: xs, q, h, hq => by
    rw [List.map_cons, lc_cons]
    refine h x (List.mem_cons_self ..) _ ?_
    exact lc_map (xs := xs) out (fun y hy => h y (List.mem_cons_of_mem _ hy)) hq
theorem lc_filter {α : Type} {mk : α → D} (p : α → Bool) (out : α → D) {g : MG} {tt : MT} {te : ME} {ρ : List En} {qe : QE} : ∀ {xs : List α} {q : List D → Prop},
    (∀ x ∈ xs, ∀ (k : D → Prop) (k' : Prop), (p x = true → k (out x)) → (p x = false → k') → g (mk x) ρ fun ρ1 => tt ρ1 (fun b => if b = true then te ρ1 k qe else k') qe) →
    q ((xs.filter p).map out) → lcL g tt te ρ (xs.map mk) q qe
  | [], _, _, hq => hq
  | x :: xs, q, h, hq => by
    rw [List.map_cons, lcL]
    refine h x (List.mem_cons_self ..) _ _ (fun e => ?_) (fun e => ?_)
    · exact lc_filter (xs := xs) p out (fun y hy => h y (List.mem_cons_of_mem _ hy)) (by rw [List.filter_cons, if_pos e] at hq; exact hq)
    · exact lc_filter (xs := xs) p out (fun y hy => h y (List.mem_cons_of_mem _ hy)) (by rw [List.filter_cons, if_neg (by rw [e]; exact Bool.false_ne_true)] at hq; exact hq)
/-! ### loops -/
/-- a loop; what holds ahead of turn i -/
theorem for_inv {α : Type} {mk : α → D} (I : Nat → List En → Prop) {g : MG} {body : MS} {qe : QE} {sq : SQ} {xs : List α} {ρ : List En} (h0 : I 0 ρ)
    (hs : ∀ (i : Nat) (x : α) (ρ' : List En) (nx : List En → Prop), xs[i]? = some x → I i ρ' → (∀ ρ'', I (i + 1) ρ'' → nx ρ'') → g (mk x) ρ' fun ρ1 => body ρ1 ⟨nx, sq.rt, sq.nx, nx⟩ qe)
    (hn : ∀ ρ', I xs.length ρ' → sq.nx ρ') : forL g body (xs.map mk) ρ sq qe := by
  have key : ∀ (ys : List α) (i : Nat) (ρ' : List En), xs.drop i = ys → I i ρ' → i ≤ xs.length → forL g body (ys.map mk) ρ' sq qe := by
    intro ys
    induction ys with
    | nil =>
      intro i ρ' e hi hl
      have : i = xs.length := by
        have := congrArg List.length e
        rw [List.length_drop, List.length_nil] at this
        omega
      subst this
      exact hn ρ' hi
    | cons y ys ih =>
      intro i ρ' e hi hl
      have hx : xs[i]? = some y := by
        have := List.getElem?_drop (xs := xs) (i := i) (j := 0)
        rw [e] at this
        simpa using this.symm
      have hlt : i < xs.length := (List.getElem?_eq_some_iff.mp hx).1
      rw [List.map_cons, forL]
      refine hs i y ρ' _ hx hi fun ρ'' h'' => ?_
      refine ih (i + 1) ρ'' ?_ h'' hlt
      rw [← List.drop_drop, e]
      rfl
  exact key xs 0 ρ rfl h0 (Nat.zero_le _)
/-- a loop that folds -/
theorem for_fold {α S : Type} {mk : α → D} (enc : S → List En → Prop) (step : S → α → S) (s0 : S) {g : MG} {body : MS} {qe : QE} {sq : SQ} {xs : List α} {ρ : List En} (h0 : enc s0 ρ)
    (hs : ∀ (x : α) (s : S) (ρ' : List En) (nx : List En → Prop), x ∈ xs → enc s ρ' → (∀ ρ'', enc (step s x) ρ'' → nx ρ'') → g (mk x) ρ' fun ρ1 => body ρ1 ⟨nx, sq.rt, sq.nx, nx⟩ qe)
    (hn : ∀ ρ', enc (xs.foldl step s0) ρ' → sq.nx ρ') : forL g body (xs.map mk) ρ sq qe := by
  refine for_inv (fun i ρ' => enc ((xs.take i).foldl step s0) ρ') (by rw [List.take_zero]; exact h0) (fun i x ρ' nx hx hi hk => ?_) (fun ρ' h => hn ρ' (by rw [List.take_length] at h; exact h))
  refine hs x _ ρ' nx (List.mem_of_getElem? hx) hi fun ρ'' h'' => hk ρ'' ?_
  rw [List.take_succ, hx, List.foldl_append]
  exact h''
/-- a loop whose turns may return -/
theorem for_chk {α : Type} {mk : α → D} (I : List En → Prop) (p : α → Bool) {g : MG} {body : MS} {qe : QE} {sq : SQ} : ∀ {xs : List α} {ρ : List En}, I ρ →
    (∀ (x : α) (ρ' : List En) (nx : List En → Prop), x ∈ xs → I ρ' → (p x = true → ∀ ρ'', I ρ'' → nx ρ'') → (p x = false → ∃ y ∈ xs, p y = false) → g (mk x) ρ' fun ρ1 => body ρ1 ⟨nx, sq.rt, sq.nx, nx⟩ qe) →
    (∀ ρ', I ρ' → (∀ x ∈ xs, p x = true) → sq.nx ρ') → forL g body (xs.map mk) ρ sq qe
  | [], ρ, h0, _, hn => hn ρ h0 (fun _ h => by cases h)
  | x :: xs, ρ, h0, hs, hn => by
    rw [List.map_cons, forL]
    refine hs x ρ _ (List.mem_cons_self ..) h0 (fun hp ρ'' h'' => ?_) (fun hp => ⟨x, List.mem_cons_self .., hp⟩)
    refine for_chk I p h'' (fun y ρ' nx hy hi h1 h2 => hs y ρ' nx (List.mem_cons_of_mem _ hy) hi h1 (fun e => ⟨y, List.mem_cons_of_mem _ hy, e⟩)) (fun ρ' hi ha => hn ρ' hi fun z hz => ?_)
    rcases List.mem_cons.mp hz with e | e
    · exact e ▸ hp
    · exact ha z e
theorem len_succ {α : Type} {n : Nat} {l : List α} (h : l.length = n + 1) : ∃ e r, l = e :: r ∧ r.length = n := by
  cases l with
  | nil => cases h
  | cons e r => exact ⟨e, r, rfl, by simpa using h⟩
end Fd
namespace Fd
open PySem PySem.Spec L2
theorem cutD_to {α : Type} (xs : List α) (k : Nat) : cutD xs none (some (k : Int)) = xs.take k := by
  unfold cutD
  rw [HT.sIx_none, HT.sIx_nat, List.drop_zero, Nat.sub_zero]
  exact (List.take_eq_take_min).symm
theorem cutD_from {α : Type} (xs : List α) (k : Nat) : cutD xs (some (k : Int)) none = xs.drop k := by
  unfold cutD
  rw [HT.sIx_none, HT.sIx_nat]
  by_cases h : k ≤ xs.length
  · rw [Nat.min_eq_left h]
    exact List.take_of_length_le (by rw [List.length_drop]; exact Nat.le_refl _)
  · rw [Nat.min_eq_right (by omega), Nat.sub_self, List.take_zero, List.drop_eq_nil_of_le (by omega)]
theorem cutD_ft {α : Type} (xs : List α) (k m : Nat) : cutD xs (some (k : Int)) (some (m : Int)) = (xs.drop k).take (m - k) := by
  unfold cutD
  rw [HT.sIx_nat, HT.sIx_nat]
  by_cases h : k ≤ xs.length
  · rw [Nat.min_eq_left h, List.take_eq_take_min, List.length_drop]
    rw [List.take_eq_take_min (i := m - k), List.length_drop]
    congr 1
    omega
  · rw [Nat.min_eq_right (a := k) (by omega), List.drop_eq_nil_of_le (Nat.le_refl _), List.drop_eq_nil_of_le (by omega), List.take_nil, List.take_nil]
theorem all2_int {α : Type} {P : α → Int → Prop} : ∀ {xs : List α} {ds : List D}, All2 (fun x d => ∃ n : Int, d = .int n ∧ P x n) xs ds → ∃ ns : List Int, ds = ns.map D.int ∧ All2 P xs ns
  | _, _, .nil => ⟨[], rfl, .nil⟩
  | _, _, .cons ⟨n, e, h⟩ r => by
    obtain ⟨ns, e', h'⟩ := all2_int r
    exact ⟨n :: ns, by rw [e, e']; rfl, .cons h h'⟩
theorem all2_of {α β : Type} {P : α → D → Prop} {mk : β → D} {R : α → β → Prop} (c : ∀ x d, P x d → ∃ y, d = mk y ∧ R x y) : ∀ {xs : List α} {ds : List D}, All2 P xs ds → ∃ ys : List β, ds = ys.map mk ∧ All2 R xs ys
  | _, _, .nil => ⟨[], rfl, .nil⟩
  | _, _, .cons h r => by
    obtain ⟨y, e, hy⟩ := c _ _ h
    obtain ⟨ns, e', h'⟩ := all2_of c r
    exact ⟨y :: ns, by rw [e, e']; rfl, .cons hy h'⟩
theorem All2.length {α β : Type} {P : α → β → Prop} : ∀ {xs : List α} {ys : List β}, All2 P xs ys → xs.length = ys.length
  | _, _, .nil => rfl
  | _, _, .cons _ r => congrArg (· + 1) r.length
theorem All2.right {α β : Type} {P : α → β → Prop} {Q : β → Prop} (h : ∀ x y, P x y → Q y) : ∀ {xs : List α} {ys : List β}, All2 P xs ys → ∀ y ∈ ys, Q y
  | _, _, .nil, _, m => by cases m
  | _, _, .cons p r, y, m => by
    rcases List.mem_cons.mp m with e | e
    · exact e ▸ h _ _ p
    · exact r.right h y e
/-- a draw of a natural number -/
theorem draw_nat {k : Nat} {q : D → Prop} {qe : QE} (h0 : 0 < k) (h1 : k < 1073741824) (h : ∀ j : Nat, j < k → q (.int (j : Int))) : mDraw [.hand, .int (k : Int)] q qe := by
  refine ⟨⟨by omega, by omega⟩, fun j h2 h3 => ?_⟩
  have := h j.toNat (by omega)
  rwa [Int.toNat_of_nonneg h2] at this
theorem draw_lit {k : Int} {q : D → Prop} {qe : QE} (h0 : 0 < k) (h1 : k < 1073741824) (h : ∀ j : Nat, (j : Int) < k → q (.int (j : Int))) : mDraw [.hand, .int k] q qe := by
  refine ⟨⟨h0, h1⟩, fun j h2 h3 => ?_⟩
  have := h j.toNat (by omega)
  rwa [Int.toNat_of_nonneg h2] at this
end Fd
namespace Fd
open PySem PySem.Spec L2
theorem dTru_bl (b : Bool) (q : Bool → Prop) : dTru (.bl b) q = q b := rfl
theorem dTru_int (b : Int) (q : Bool → Prop) : dTru (.int b) q = q (b != 0) := rfl
theorem dTru_non (q : Bool → Prop) : dTru .non q = q false := rfl
theorem dTru_tup (xs : List D) (q : Bool → Prop) : dTru (.tup xs) q = q (!xs.isEmpty) := rfl
theorem dTru_lst (xs : List D) (q : Bool → Prop) : dTru (.lst xs) q = q (!xs.isEmpty) := rfl
theorem dIx_lst (xs : List D) (i : Int) (q : D → Prop) : dIx (.lst xs) (.int i) q = (match atI xs i with | some d => q d | none => False) := rfl
theorem dIx_tup (xs : List D) (i : Int) (q : D → Prop) : dIx (.tup xs) (.int i) q = (match atI xs i with | some d => q d | none => False) := rfl
theorem sFor_eq (f : MA) (g : MG) (body : MS) (ρ : List En) (sq : SQ) (qe : QE) : sFor f g body ρ sq qe = f ρ (fun items => forL g body items ρ sq qe) qe := rfl
end Fd
namespace Fd
open PySem PySem.Spec L2
theorem dAll_map {α : Type} (f : α → Bool) (xs : List α) (q : D → Prop) : dAll [.lst (xs.map fun x => D.bl (f x))] q = q (.bl (xs.all f)) := by
  unfold dAll
  simp only [bools_mapF, List.all_map]
  rfl
theorem dSum_map {α : Type} (f : α → Int) (xs : List α) (q : D → Prop) : dSum [.lst (xs.map fun x => D.int (f x))] q = q (.int (xs.map f).sum) := by
  unfold dSum
  simp only [ints_mapF]
theorem dSum_ints (xs : List Int) (q : D → Prop) : dSum [.lst (xs.map D.int)] q = q (.int xs.sum) := by
  unfold dSum
  simp only [ints_map]
theorem dMin_2 (i j : Int) (q : D → Prop) : dMin [.int i, .int j] q = q (.int (if j < i then j else i)) := rfl
theorem dMax_2 (i j : Int) (q : D → Prop) : dMax [.int i, .int j] q = q (.int (if j > i then j else i)) := rfl
theorem cutD_f1 {α : Type} (xs : List α) : cutD xs (some 1) none = xs.drop 1 := cutD_from xs 1
theorem zipIdx_filter_range (deal : List Nat) (o : Nat) : ∀ n : Nat, ((deal.zipIdx n).filter (fun p => p.1 == o)).map (·.2) = ((List.range deal.length).filter (fun i => deal.getD i 0 == o)).map (n + ·) := by
  induction deal with
  | nil => intro n; rfl
  | cons x xs ih =>
    intro n
    rw [List.zipIdx_cons, List.length_cons, List.range_succ_eq_map, List.filter_cons, List.filter_cons, List.filter_map]
    have e : ((fun i => (x :: xs).getD i 0 == o) ∘ Nat.succ) = fun i => xs.getD i 0 == o := by
      funext i
      simp
    rw [e]
    have h0 : (x :: xs).getD 0 0 = x := rfl
    rw [h0]
    have tl : ((xs.zipIdx (n + 1)).filter (fun p => p.1 == o)).map (·.2) = (((List.range xs.length).filter fun i => xs.getD i 0 == o).map Nat.succ).map (n + ·) := by
      rw [ih (n + 1), List.map_map]
      exact List.map_congr_left fun i _ => by show n + 1 + i = n + (i + 1); omega
    by_cases h : (x == o) = true
    · rw [if_pos h, if_pos h, List.map_cons, List.map_cons, tl]
      rfl
    · rw [if_neg h, if_neg h, tl]
end Fd
namespace Fd
open PySem PySem.Spec L2
theorem for_rng (I : Nat → List En → Prop) {mk : Nat → D} {g : MG} {body : MS} {qe : QE} {sq : SQ} {n : Nat} {ρ : List En} (h0 : I 0 ρ)
    (hs : ∀ (i : Nat) (ρ' : List En) (nx : List En → Prop), i < n → I i ρ' → (∀ ρ'', I (i + 1) ρ'' → nx ρ'') → g (mk i) ρ' fun ρ1 => body ρ1 ⟨nx, sq.rt, sq.nx, nx⟩ qe)
    (hn : ∀ ρ', I n ρ' → sq.nx ρ') : forL g body ((List.range n).map mk) ρ sq qe := by
  refine for_inv I h0 (fun i x ρ' nx hx hi hk => ?_) (fun ρ' h => hn ρ' (by rw [List.length_range] at h; exact h))
  have hl := (List.getElem?_eq_some_iff.mp hx).1
  rw [List.length_range] at hl
  rw [List.getElem?_range hl] at hx
  cases hx
  exact hs i ρ' nx hl hi hk
theorem enum_range {α : Type} (f : α → D) (g : Nat → α) (n : Nat) : enumD 0 ((List.range n).map fun i => f (g i)) = (List.range n).map fun i => D.tup [.int (i : Nat), f (g i)] := by
  have h := enumD_map (fun i => f (g i)) 0 (List.range n)
  rw [h]
  apply List.ext_getElem?
  intro i
  rw [List.getElem?_map, List.getElem?_map, List.getElem?_zipIdx]
  by_cases hi : i < n
  · rw [List.getElem?_range hi]
    simp
  · rw [List.getElem?_eq_none (by rw [List.length_range]; omega)]
    rfl
end Fd
/-! ### loops over dicts -/
namespace Fd
open PySem PySem.Spec L2
theorem forK_inv {α : Type} {mk : α → D} (I : Nat → List En → Prop) {g : MG} {body : MS} {qe : QE} {sq : SQ} {s : Nat} {e : En} {xs : List α} {ρ : List En} (h0 : I 0 ρ)
    (hs : ∀ (i : Nat) (x : α) (ρ' : List En) (nx : List En → Prop), xs[i]? = some x → I i ρ' → (∀ ρ'', I (i + 1) ρ'' → nx ρ'') →
      g (mk x) ρ' fun ρ1 => body ρ1 ⟨fun ρ2 => ρ2[s]? = some e ∧ nx ρ2, fun _ _ => False, fun _ => False, fun ρ2 => ρ2[s]? = some e ∧ nx ρ2⟩ qe)
    (hn : ∀ ρ', I xs.length ρ' → sq.nx ρ') : forKL g body s e (xs.map mk) ρ sq qe := by
  have key : ∀ (ys : List α) (i : Nat) (ρ' : List En), xs.drop i = ys → I i ρ' → i ≤ xs.length → forKL g body s e (ys.map mk) ρ' sq qe := by
    intro ys
    induction ys with
    | nil =>
      intro i ρ' e hi hl
      have : i = xs.length := by
        have := congrArg List.length e
        rw [List.length_drop, List.length_nil] at this
        omega
      subst this
      exact hn ρ' hi
    | cons y ys ih =>
      intro i ρ' e hi hl
      have hx : xs[i]? = some y := by
        have := List.getElem?_drop (xs := xs) (i := i) (j := 0)
        rw [e] at this
        simpa using this.symm
      have hlt : i < xs.length := (List.getElem?_eq_some_iff.mp hx).1
      rw [List.map_cons, forKL]
      refine hs i y ρ' _ hx hi fun ρ'' h'' => ?_
      refine ih (i + 1) ρ'' ?_ h'' hlt
      rw [← List.drop_drop, e]
      rfl
  exact key xs 0 ρ rfl h0 (Nat.zero_le _)
theorem ints_nat (xs : List Nat) : D.ints (xs.map fun n : Nat => D.int (n : Int)) = some (xs.map fun n : Nat => (n : Int)) := ints_mapF _ xs
theorem mem_cast {a : Nat} : ∀ {xs : List Nat}, (a : Int) ∈ xs.map (fun n : Nat => (n : Int)) ↔ a ∈ xs
  | [] => by simp
  | x :: xs => by
    rw [List.map_cons, List.mem_cons, List.mem_cons, mem_cast]
    constructor
    · rintro (h | h)
      · exact .inl (by omega)
      · exact .inr h
    · rintro (h | h)
      · exact .inl (by omega)
      · exact .inr h
theorem erase_cast (a : Nat) : ∀ xs : List Nat, (xs.map (fun n : Nat => (n : Int))).erase (a : Int) = (xs.erase a).map fun n : Nat => (n : Int)
  | [] => rfl
  | x :: xs => by
    rw [List.map_cons, List.erase_cons, List.erase_cons]
    by_cases h : x = a
    · subst h
      rw [if_pos (by simp), if_pos (by simp)]
    · rw [if_neg (by simp; omega), if_neg (by simpa using h), erase_cast a xs]
      rfl
theorem putD_new {kvs : List (Key × D)} {k : Key} {d : D} (h : ∀ kv ∈ kvs, kv.1 ≠ k) : putD kvs k d = kvs ++ [(k, d)] := by
  unfold putD
  rw [if_neg]
  rw [List.any_eq_true]
  rintro ⟨kv, hm, he⟩
  exact h kv hm (of_decide_eq_true he)
end Fd
/-! exceptions of one's own whose __init__ says super().__init__ -/
namespace Fd
open PySem PySem.Spec PyProof.Rows L2 NdefX
/-- a def of the top that captured its class -/
theorem fn_ofC {CX : CXT} {P : Program} {w : World} {K : PySem.W.Frag} {mg : Str → Option Value} {base : Heap} {k : Nat} {f c cc D : Addr} {name qual : Str} {params : Arguments} {body : List Stmt} {scope : Scope} {dV kV doc pm ct oc ccl : Value} {an od ccd : Option Addr}
    {osl ccs : Array (Option Value)} {N ps : List Str} {sp : Sp} (lk : K.lookup f = some ⟨oc, od, .func (PySem.W.fnX name qual params body scope [("__class__", cc)] dV kV doc pm an (.ref c) ct), osl⟩) (hcd : PySem.W.codeIn K (.ref c) qual = true)
    (hcc : K.lookup cc = some ⟨ccl, ccd, .cell (some (.ref D)), ccs⟩) (S : NScope N ps ["__class__"] scope) (len : ∀ vs H Q E, sp vs H Q E → vs.length = ps.length)
    (hbody : ∀ (A : Around) (outer : List Env) (s : Shared) (H : Hp) (vs : List V) (Q : VK) (E : XK), Room k (A.deeper (envF ⟨name, qual, params, body, scope, [("__class__", cc)], c⟩ f s.heap.objs.size)) → sp vs H Q E →
      ∃ t, PSs (ncx CX P w K mg base N ⟨name, qual, params, body, scope, [("__class__", cc)], c⟩ f A outer s H E) body t ∧ t { nx := fun _ H' => Q .non H', rt := Q } (startF N vs [some (.ref D)]) H) :
    FnOk P w K mg base CX (k + 1) f (PySem.W.fnX name qual params body scope [("__class__", cc)] dV kV doc pm an (.ref c) ct) ps sp := by
  refine ⟨len, fun A outer s H args us vs Q E hr e0 hb r hsp => ?_⟩
  have hl := len _ _ _ _ hsp
  have KX : K.In s.heap := e0.mod.kin.keeps fun b o e => (e0.bs b o e).1
  have lim : s.heap.NoLimit := e0.mod.nolimit.keeps fun b o e => (e0.bs b o e).1
  have C : CellsAt [("__class__", cc)] ["__class__"] [some (V.ref D)] s.heap H := by
    refine ⟨rfl, fun y c' h => ?_, fun x y c' hx hy => ?_, fun i y h => ?_⟩
    · have e : c' = cc := by
        rw [List.lookup_cons] at h
        split at h
        · exact (Option.some.inj h).symm
        · cases h
      subst e
      exact ⟨(e0.bs _ _ (e0.mod.kin _ _ hcc)).2, _, ⟨_, KX _ _ hcc, rfl⟩⟩
    · have one : ∀ z, List.lookup z [(("__class__" : Str), cc)] = some c' → z = "__class__" := fun z h => by
        rw [List.lookup_cons] at h
        split at h
        · rename_i q
          exact eq_of_beq q
        · cases h
      rw [one x hx, one y hy]
    · cases i with
      | zero =>
        cases h
        refine ⟨cc, by rw [List.lookup_cons, beq_self_eq_true], fun v hv => ?_⟩
        cases hv
        exact ⟨_, rfl, ⟨_, KX _ _ hcc, rfl⟩⟩
      | succ i => cases h
  refine codeAny_call_function hr.depth (KX _ _ lk) rfl S.co S.gen rfl (PySem.W.codeRec_of KX hcd) (hb _ _ _ _ ?_)
  refine wpAny_newFunctionEnv S.nocell (fun ⟨n, _⟩ hy => S.par n (List.of_mem_zip hy).1) (fun h₁ hns hsb => ⟨lim.fresh _ hsb, ?_⟩) S.kind
  show codeAny _ _ (.func body (envF ⟨name, qual, params, body, scope, [("__class__", cc)], c⟩ f s.heap.objs.size)) _ _
  refine codeAny_func ?_
  have kp : ∀ b o, s.heap.get? b = some o → h₁.get? b = some o := fun b o e => hsb.extBut b o (Nat.ne_of_lt (Heap.lt_size e)) (Heap.get?_push_of_some _ e)
  obtain ⟨t, ht, hq⟩ := hbody A outer s H vs Q E (hr.deeper _) hsp
  have I : Inv (ncx CX P w K mg base N ⟨name, qual, params, body, scope, [("__class__", cc)], c⟩ f A outer s H E) [] (startF N vs [some (.ref D)]) H { s with heap := h₁, toks := s.toks + (ps.zip us).length } := inv_startN S hr.hd e0 hl r C hns kp
  refine wpAny_mono (ht.run [] _ (startF N vs [some (.ref D)]) H _ I hq) (fun fl s' hs => ?_) fun e s' hs => hs
  have fin : ∀ {σ' : L2.St} {H' : Hp} {v : V} {u : Value}, Inv (ncx CX P w K mg base N ⟨name, qual, params, body, scope, [("__class__", cc)], c⟩ f A outer s H E) [] σ' H' s' → L2.RelV v u → Q v H' → CE outer P w H s Q u s' :=
    fun {σ' H' v u} J rv q => ⟨v, H', J.os, J.bare, J.base, J.hok, rv, q⟩
  cases fl with
  | ret u =>
    obtain ⟨v, σ', H', J, rv, q⟩ := hs
    exact fin J rv q
  | next =>
    obtain ⟨σ', H', J, q⟩ := hs
    exact fin (v := V.non) (u := Value.none) J rfl q
  | brk =>
    obtain ⟨_, _, _, q⟩ := hs
    exact False.elim q
  | cont =>
    obtain ⟨_, _, _, q⟩ := hs
    exact False.elim q
end Fd
namespace Fd
open PySem PySem.Spec PyProof.Rows L2 NdefX
/-- what the frame and the written part say of super() there -/
structure SupAt (X : Cx) (f c D : Addr) (x : Str) (j : Nat) : Prop where
  su : Gl X "super"
  free : X.mg "super" = none
  cls : X.env.kindOf "__class__" = some .free
  fn : X.env.func = some f
  fd : ∃ (oc : Value) (od : Option Addr) (fd : FuncData) (osl : Array (Option Value)) (ar : Arg), X.K.lookup f = some ⟨oc, od, .func fd, osl⟩ ∧ (fd.params.posonlyargs ++ fd.params.args).head? = some ar ∧ ar.arg = x
  co : X.env.code = .ref c
  file : ∃ (oc : Value) (od : Option Addr) (vs : Array Value) (osl : Array (Option Value)) (file : Str) (tf : Tok), X.K.lookup c = some ⟨oc, od, .fields vs, osl⟩ ∧ vs[2]? = some (.str file tf) ∧ (X.prog.main.file == file) = true
  top : (X.prog.main.scope.names.lookup ("super" : Str)).isSome = false
  n0 : X.N[0]? = some x
  v0 : X.env.kindOf x = some .local
  nj : X.N[j]? = some "__class__"
  dc : ∃ (oc : Value) (od : Option Addr) (cd : ClassData) (osl : Array (Option Value)), X.K.lookup D = some ⟨oc, od, .cls cd, osl⟩
section
variable {X : Cx} {pins : List (Addr × Obj)} {σ : L2.St} {H : Hp} {s : Shared}
theorem sup_node {f c D C a : Addr} {x : Str} {j : Nat} {body : List Stmt} {p0 p1 : Pos} {attr : Str} {whole : Sem Value} {E : Value → Shared → Prop} {Q : Value → Shared → Prop} (S : SupAt X f c D x j) (I : Inv X pins σ H s)
    (s0 : σ[0]? = some (some (.ref a))) (sj : σ[j]? = some (some (.ref D))) (hat : (attr == ("__class__" : Str)) = false) (hsub : PySem.W.mroIn X.K C (.ref D) = some true)
    (ha : ∃ o : Obj, s.heap.get? a = some o ∧ o.cls = .ref C ∧ ∀ cd, o.data ≠ .cls cd)
    (h : ∀ (so : Addr) (s' : Shared), s'.heap.get? so = some (PySem.W.ks_superObj D a C) → (∀ b o, s.heap.get? b = some o → s'.heap.get? b = some o) → Inv X pins σ H s' → Q (.ref so) s') :
    _root_.PySem.wpAt (model X.prog X.w) X.A (.func body X.env) (attributeBase (.Call (.Name "super" p0) [] [] p1) attr X.env whole) Q E s := by
  obtain ⟨oc, od, fd, osl, ar, lf, hp, har⟩ := S.fd
  obtain ⟨oc2, od2, vs, osl2, file, tf, lc, hvs, hfile⟩ := S.file
  obtain ⟨oc3, od3, cdD, osl3, lD⟩ := S.dc
  obtain ⟨ox, hx, hxc, hnc⟩ := ha
  obtain ⟨m, hn, hl⟩ := I.loc
  obtain ⟨mb, h1, h2⟩ := I.mod.blt
  have KX := I.kIn
  refine PySem.ks_wpAt_super_base (f := f) (cc := c) S.su S.cls hat S.fn (KX _ _ lf) rfl hp S.co (KX _ _ lc) rfl hvs hfile S.top ?_
  refine PySem.W.ks_loadName_global I.ok.kind S.su (Calls.loadGlobal_builtin (by rw [I.ok.glob]; exact I.mod.glob.keeps I.bk) S.free (by rw [I.ok.blt]; exact h1.keeps I.bk) ((h2 "super" (by decide)).trans (by decide +kernel : bootBuiltins "super" = some (.type "super"))) ⟨rfl, ?_⟩)
  obtain ⟨u, ru, lu⟩ := hl j "__class__" _ S.nj sj (.inr (.inr S.cls))
  cases ru
  rcases lu with ⟨hk, _⟩ | ⟨_, cc, hc, hcell⟩
  · rw [S.cls] at hk; cases hk
  refine wpAny_loadName_free I.ok.kind S.cls hc hcell ?_
  obtain ⟨u0, ru0, lu0⟩ := hl 0 x _ S.n0 s0 (.inl S.v0)
  cases ru0
  rcases lu0 with ⟨_, hm⟩ | ⟨hk, _⟩
  · rw [har]
    refine wpAny_loadName_local I.ok.kind S.v0 hn hm ?_
    obtain ⟨hh, g, d, t, os⟩ := s
    refine PySem.ks_wpAny_isType_cls (KX _ _ lD) rfl ⟨rfl, ?_⟩
    refine PySem.ks_wpAny_call_super (KX _ _ lD) rfl hx hxc hnc (PySem.W.looks_mroIn KX hsub) (fun h' e k => ?_)
    exact h _ _ e k (I.kept (t' := t) k)
  · rcases hk with hk | hk
    · rw [S.v0] at hk; cases hk
    · rw [S.v0] at hk; cases hk
end
end Fd
namespace Fd
open PySem PySem.Spec PyProof.Rows L2 NdefX
section
variable {X : Cx} {pins : List (Addr × Obj)} {σ : L2.St} {H : Hp} {s : Shared}
theorem get_dc {K : PySem.W.Frag} {C D : Addr} {name : Str} {v : Value} (h : PySem.W.ks_superIn K C D name = some (some v)) : ∃ cd, PySem.W.clsIn K C = some cd ∧ PySem.W.alongIn K name ((cd.mro.dropWhile (· != .ref D)).drop 1) = some (some v) := by
  unfold PySem.W.ks_superIn at h
  cases hc : PySem.W.clsIn K C with
  | none => rw [hc] at h; cases h
  | some cd => rw [hc] at h; exact ⟨cd, rfl, h⟩
theorem sup_eval_fn {f c D C a fD : Addr} {x : Str} {j : Nat} {body : List Stmt} {p0 p1 p2 pos : Pos} {e : Expr} {es : List Expr} {ta : TA} {Q : VK} {CX : CXT} {k : Nat} {sp : Sp} {E0 : XK} {pl : Sem Bool} (S : SupAt X f c D x j) (I : Inv X pins σ H s)
    (s0 : σ[0]? = some (some (.ref a))) (sj : σ[j]? = some (some (.ref D))) (hsub : PySem.W.mroIn X.K C (.ref D) = some true)
    (ha : ∃ o : Obj, s.heap.get? a = some o ∧ o.cls = .ref C ∧ ∀ cd, o.data ≠ .cls cd) (hne : a ≠ C)
    (F : FnR X.prog X.w X.K X.mg X.base CX k fD sp) (hr : Room k X.A) (hx : Passes CX X E0) (hsup : PySem.W.ks_superIn X.K C D "__init__" = some (some (.ref fD))) (tD : PySem.W.typeIn X.K (.ref fD) = some (.type "function"))
    (fi : PySem.W.fnIn X.K fD = true) (opq : PySem.W.nsIn X.K cStatics "thirdparty.any" = some none) (hpa : PA X (e :: es) ta) (h : ta σ H fun vs H1 => sp (.ref a :: vs) H1 Q E0)
    (hform : eval (.Call (.Attribute (.Call (.Name "super" p0) [] [] p1) "__init__" p2) (e :: es) [] pos) X.env = (do
      let ov ← attributeBase (.Call (.Name "super" p0) [] [] p1) "__init__" X.env (eval (.Call (.Name "super" p0) [] [] p1) X.env)
      standAt p2.atName
      let (f, first) ← holding [ov] (getMethod ov "__init__" pl)
      callWith pos f first (backTo pos (starEach (e :: es) X.env)) []))
    (he : starEach (e :: es) X.env = (false, eval e X.env) :: starEach es X.env) (hpl : (backTo pos (starEach es X.env)).any (·.1) = false) :
    _root_.PySem.wpAt (model X.prog X.w) X.A (.func body X.env) (eval (.Call (.Attribute (.Call (.Name "super" p0) [] [] p1) "__init__" p2) (e :: es) [] pos) X.env) (EP X pins σ Q) X.xe s := by
  refine PySem.ks_wpAt_MethodCall (pl := pl) (sup_node S I s0 sj (by decide) hsub ha fun so s1 hso k1 I1 => ?_) hform
  obtain ⟨cd, hc, hm⟩ := get_dc hsup
  have KX := I1.kIn
  obtain ⟨of, hof, hofc⟩ : ∃ of, s1.heap.get? fD = some of ∧ of.cls = .type "function" := by
    have ht' : (X.K.lookup fD).map (·.cls) = some (.type "function") := tD
    cases z : X.K.lookup fD with
    | none => rw [z] at ht'; cases ht'
    | some of => rw [z] at ht'; exact ⟨of, KX _ _ z, Option.some.inj ht'⟩
  obtain ⟨hh, g, d, t, os⟩ := s1
  refine PySem.ks_wpAny_getMethod_super hso (PySem.W.looks_opaque KX opq) (l₀ := cd.mro) (fun A Q E s k q => wpAny_bind ((PySem.W.looks_clsIn KX hc) A _ E s k (wpAny_pure q))) rfl KX hm hof hofc hne (by decide) ?_
  have I2 : Inv X (pins ++ [(hh.objs.size, PySem.W.methodObj (.ref fD) (.ref a))]) σ H ⟨hh.push (PySem.W.methodObj (.ref fD) (.ref a)), g, d, t + 1, os⟩ := by
    have J := I1.kept (t' := t + 1) (h' := hh.push (PySem.W.methodObj (.ref fD) (.ref a))) fun b o z => Heap.get?_push_of_some _ z
    refine J.pins_of fun p hp => ?_
    rcases List.mem_append.mp hp with z | z
    · exact J.pin p (List.mem_append_right _ z)
    · rw [List.mem_singleton] at z
      subst z
      exact ⟨Heap.get?_push_size hh rfl, I1.hok.fresh (Nat.le_refl _), Nat.ne_of_gt I1.lt, I1.nofs (Nat.le_refl _), fun v z => by cases z⟩
  rw [he]
  refine PySem.W.callWith_of (P := PySem.W.MethP X.K hh.objs.size fD (.ref a)) (by show ((false || (backTo pos (starEach es X.env)).any (·.1)) || false) = false; rw [hpl]; rfl) (PySem.W.keeps_M fi) ?_
  refine Calls.evalArgs_plain ?_
  have hrun := hpa.run pos _ _ σ H _ I2 h
  rw [he] at hrun
  refine thn hrun fun us s3 ⟨vs, H1, I3, rv, q1⟩ => ?_
  have hq := (I3.pin (hh.objs.size, PySem.W.methodObj (.ref fD) (.ref a)) (List.mem_append_right _ (List.mem_append_right _ (List.mem_singleton.mpr rfl)))).1
  refine ⟨⟨hq, I3.kIn⟩, ?_⟩
  refine wpAny_call (codeAny_mono (PySem.W.method_call hq (run_fnR (us := Value.ref a :: us) (vs := V.ref a :: vs) F hr hx I3 (.cons rfl rv) q1)) fun r s4 hr4 => ?_)
  cases r with
  | error er => exact hr4
  | ok fl =>
    cases fl with
    | ret u =>
      obtain ⟨v, H2, J, r, q⟩ := hr4
      exact ⟨v, H2, J.unpinned, r, q⟩
    | next => exact False.elim hr4
    | brk => exact False.elim hr4
    | cont => exact False.elim hr4
end
end Fd
namespace Fd
open PySem PySem.Spec PyProof.Rows L2 NdefX
section
variable {X : Cx} {pins : List (Addr × Obj)} {σ : L2.St} {H : Hp} {s : Shared}
/-- the bound ValueError.__init__, called -/
theorem call_mw {A : Around} {E : Value → Shared → Prop} {u a C : Addr} {us : List Value} {Q : Value → Shared → Prop} (T : OexC X.K C) (I : Inv X pins σ H s) (e : H a = some (exo a C none)) (hu : s.heap.get? u = some (PySem.W.kxs_mw "ValueError.__init__" a)) (hl : us.length ≤ sizeLine)
    (h : ∀ s', Inv X pins σ H s' → Q .none s') : wpAny (model X.prog X.w) A (call (.ref u) us) Q E s := by
  obtain ⟨nm, q, N, bs, bm, sn, sub, ab, col, dd, k0, k1, k2, k3, k5, hC, hbm⟩ := T.cls
  obtain ⟨t1, ho⟩ := exo_at I.hok e
  have hC' := I.kIn _ _ hC
  obtain ⟨hh, g, d, tk, os⟩ := s
  refine wpAny_call (codeAny_of_tree ?_)
  show wpAny _ A.in1 (callAny (.ref u) ⟨us, []⟩) _ _ _
  simp only [callAny]
  refine wpAny_bind (wpAny_load hu ?_)
  simp only [PySem.W.kxs_mw, show (Value.type "method-wrapper" == Value.type "method" || Value.type "method-wrapper" == Value.type "builtin_function_or_method" || Value.type "method-wrapper" == Value.type "method-wrapper") = true by decide, if_true]
  refine PySem.W.KFB.if_so (by decide) ?_
  refine wpAny_bind (PySem.W.check_bound_init (F.excBase_ValueError).toExcCallFacts hC' ho rfl ?_)
  refine wpAny_bind (wpAny_pure (wpAny_pure ?_))
  refine ⟨plainId_quiet (F.excBase_ValueError).init.plain _, codeAny_builtin (F.excBase_ValueError).initEntry ?_⟩
  refine PySem.W.exc_init_tree (cls := .ref C) (t0 := t1) (dv := none) (c2 := .none) (c3 := .none) (b4 := .bool false) ho hl fun h' k hx _ => ?_
  have J := I.write (t' := tk) (x := a) (e := a) (o := exo a C none) (by rw [e]; exact True.intro) (.inl rfl) k ⟨_, hx⟩ (exo_ok hx)
  have eu : upd H a (exo a C none) = H := by
    funext b
    by_cases hb : b = a
    · rw [hb, upd_same, e]
    · rw [upd_ne hb]
  rw [eu] at J
  exact h _ J
theorem sup_eval_ve {f c D C a : Addr} {x : Str} {j : Nat} {body : List Stmt} {p0 p1 p2 pos : Pos} {e : Expr} {es : List Expr} {ta : TA} {Q : VK} {pl : Sem Bool} (S : SupAt X f c D x j) (I : Inv X pins σ H s)
    (s0 : σ[0]? = some (some (.ref a))) (sj : σ[j]? = some (some (.ref D))) (hsub : PySem.W.mroIn X.K C (.ref D) = some true) (hB : PySem.W.subIn X.K (.ref C) (.type "ValueError") = some true)
    (T : OexC X.K C) (ea : H a = some (exo a C none)) (hne : a ≠ C) (hsup : PySem.W.ks_superIn X.K C D "__init__" = some (some (.builtin "ValueError.__init__")))
    (opq : PySem.W.nsIn X.K cStatics "thirdparty.any" = some none) (hpa : PA X (e :: es) ta) (h : ta σ H fun vs H1 => vs.length ≤ sizeLine ∧ H1 a = some (exo a C none) ∧ Q .non H1)
    (hform : eval (.Call (.Attribute (.Call (.Name "super" p0) [] [] p1) "__init__" p2) (e :: es) [] pos) X.env = (do
      let ov ← attributeBase (.Call (.Name "super" p0) [] [] p1) "__init__" X.env (eval (.Call (.Name "super" p0) [] [] p1) X.env)
      standAt p2.atName
      let (f, first) ← holding [ov] (getMethod ov "__init__" pl)
      callWith pos f first (backTo pos (starEach (e :: es) X.env)) []))
    (he : starEach (e :: es) X.env = (false, eval e X.env) :: starEach es X.env) (hpl : (backTo pos (starEach es X.env)).any (·.1) = false) :
    _root_.PySem.wpAt (model X.prog X.w) X.A (.func body X.env) (eval (.Call (.Attribute (.Call (.Name "super" p0) [] [] p1) "__init__" p2) (e :: es) [] pos) X.env) (EP X pins σ Q) X.xe s := by
  obtain ⟨t1, ho⟩ := exo_at I.hok ea
  refine PySem.ks_wpAt_MethodCall (pl := pl) (sup_node S I s0 sj (by decide) hsub ⟨_, ho, rfl, fun cd z => by cases z⟩ fun so s1 hso k1 I1 => ?_) hform
  obtain ⟨cd, hc, hm⟩ := get_dc hsup
  have KX := I1.kIn
  have inst : PySem.W.InstAt s1.heap a _ C none := ⟨k1 _ _ ho, rfl, rfl, trivial⟩
  have hI : PySem.W.Looks (model X.prog X.w) s1.heap (isInstance (.ref a) (.type "ValueError")) true := inst.type.andThen (PySem.W.looks_subIn KX hB)
  obtain ⟨hh, g, d, t, os⟩ := s1
  refine PySem.W.kxs_getMethod PySem.W.kxs_ValueError hso (PySem.W.looks_opaque KX opq) (l₀ := cd.mro) (fun A Q E s k q => wpAny_bind ((PySem.W.looks_clsIn KX hc) A _ E s k (wpAny_pure q))) rfl KX hm hI hne (by decide) ?_
  have I2 : Inv X (pins ++ [(hh.objs.size, PySem.W.kxs_mw "ValueError.__init__" a)]) σ H ⟨hh.push (PySem.W.kxs_mw "ValueError.__init__" a), g, d, t + 1, os⟩ := by
    have J := I1.kept (t' := t + 1) (h' := hh.push (PySem.W.kxs_mw "ValueError.__init__" a)) fun b o z => Heap.get?_push_of_some _ z
    refine J.pins_of fun p hp => ?_
    rcases List.mem_append.mp hp with z | z
    · exact J.pin p (List.mem_append_right _ z)
    · rw [List.mem_singleton] at z
      subst z
      exact ⟨Heap.get?_push_size hh rfl, I1.hok.fresh (Nat.le_refl _), Nat.ne_of_gt I1.lt, I1.nofs (Nat.le_refl _), fun v z => by cases z⟩
  rw [he]
  refine PySem.W.kxs_callWith (i := "ValueError.__init__") (x := a) (by show (false || (backTo pos (starEach es X.env)).any (·.1)) = false; rw [hpl]; rfl) ?_
  refine Calls.evalArgs_plain ?_
  have hrun := hpa.run pos _ _ σ H _ I2 h
  rw [he] at hrun
  refine thn hrun fun us s3 ⟨vs, H1, I3, rv, hl, ea1, q1⟩ => ?_
  have hq := (I3.pin (hh.objs.size, PySem.W.kxs_mw "ValueError.__init__" a) (List.mem_append_right _ (List.mem_append_right _ (List.mem_singleton.mpr rfl)))).1
  exact ⟨hq, call_mw T I3 ea1 hq (by show us.length ≤ sizeLine; rw [← Paired.length rv]; exact hl) fun s' J => ⟨.non, H1, J.unpinned, rfl, q1⟩⟩
end
end Fd
namespace Fd
open PySem PySem.Spec PyProof.Rows L2 NdefX
/-- .. where the body is known to run there -/
theorem fn_ofW {CX : CXT} {P : Program} {w : World} {K : PySem.W.Frag} {mg : Str → Option Value} {base : Heap} {k : Nat} {f c cc D : Addr} {name qual : Str} {params : Arguments} {body : List Stmt} {scope : Scope} {dV kV doc pm ct oc ccl : Value} {an od ccd : Option Addr}
    {osl ccs : Array (Option Value)} {N ps : List Str} {sp : Sp} (lk : K.lookup f = some ⟨oc, od, .func (PySem.W.fnX name qual params body scope [("__class__", cc)] dV kV doc pm an (.ref c) ct), osl⟩) (hcd : PySem.W.codeIn K (.ref c) qual = true)
    (hcc : K.lookup cc = some ⟨ccl, ccd, .cell (some (.ref D)), ccs⟩) (S : NScope N ps ["__class__"] scope) (len : ∀ vs H Q E, sp vs H Q E → vs.length = ps.length)
    (hbody : ∀ (A : Around) (outer : List Env) (s s' : Shared) (H : Hp) (vs : List V) (Q : VK) (E : XK), Room k (A.deeper (envF ⟨name, qual, params, body, scope, [("__class__", cc)], c⟩ f s.heap.objs.size)) → sp vs H Q E →
      Inv (ncx CX P w K mg base N ⟨name, qual, params, body, scope, [("__class__", cc)], c⟩ f A outer s H E) [] (startF N vs [some (.ref D)]) H s' →
      _root_.PySem.wpAt (model P w) (A.deeper (envF ⟨name, qual, params, body, scope, [("__class__", cc)], c⟩ f s.heap.objs.size)) (.func body (envF ⟨name, qual, params, body, scope, [("__class__", cc)], c⟩ f s.heap.objs.size)) (execs body (envF ⟨name, qual, params, body, scope, [("__class__", cc)], c⟩ f s.heap.objs.size))
        (SP (ncx CX P w K mg base N ⟨name, qual, params, body, scope, [("__class__", cc)], c⟩ f A outer s H E) [] { nx := fun _ H' => Q .non H', rt := Q }) (ncx CX P w K mg base N ⟨name, qual, params, body, scope, [("__class__", cc)], c⟩ f A outer s H E).xe s') :
    FnOk P w K mg base CX (k + 1) f (PySem.W.fnX name qual params body scope [("__class__", cc)] dV kV doc pm an (.ref c) ct) ps sp := by
  refine ⟨len, fun A outer s H args us vs Q E hr e0 hb r hsp => ?_⟩
  have hl := len _ _ _ _ hsp
  have KX : K.In s.heap := e0.mod.kin.keeps fun b o e => (e0.bs b o e).1
  have lim : s.heap.NoLimit := e0.mod.nolimit.keeps fun b o e => (e0.bs b o e).1
  have C : CellsAt [("__class__", cc)] ["__class__"] [some (V.ref D)] s.heap H := by
    refine ⟨rfl, fun y c' h => ?_, fun x y c' hx hy => ?_, fun i y h => ?_⟩
    · have e : c' = cc := by
        rw [List.lookup_cons] at h
        split at h
        · exact (Option.some.inj h).symm
        · cases h
      subst e
      exact ⟨(e0.bs _ _ (e0.mod.kin _ _ hcc)).2, _, ⟨_, KX _ _ hcc, rfl⟩⟩
    · have one : ∀ z, List.lookup z [(("__class__" : Str), cc)] = some c' → z = "__class__" := fun z h => by
        rw [List.lookup_cons] at h
        split at h
        · rename_i q
          exact eq_of_beq q
        · cases h
      rw [one x hx, one y hy]
    · cases i with
      | zero =>
        cases h
        refine ⟨cc, by rw [List.lookup_cons, beq_self_eq_true], fun v hv => ?_⟩
        cases hv
        exact ⟨_, rfl, ⟨_, KX _ _ hcc, rfl⟩⟩
      | succ i => cases h
  refine codeAny_call_function hr.depth (KX _ _ lk) rfl S.co S.gen rfl (PySem.W.codeRec_of KX hcd) (hb _ _ _ _ ?_)
  refine wpAny_newFunctionEnv S.nocell (fun ⟨n, _⟩ hy => S.par n (List.of_mem_zip hy).1) (fun h₁ hns hsb => ⟨lim.fresh _ hsb, ?_⟩) S.kind
  show codeAny _ _ (.func body (envF ⟨name, qual, params, body, scope, [("__class__", cc)], c⟩ f s.heap.objs.size)) _ _
  refine PySem.ks_codeAny_funcAt ?_
  have kp : ∀ b o, s.heap.get? b = some o → h₁.get? b = some o := fun b o e => hsb.extBut b o (Nat.ne_of_lt (Heap.lt_size e)) (Heap.get?_push_of_some _ e)
  have I : Inv (ncx CX P w K mg base N ⟨name, qual, params, body, scope, [("__class__", cc)], c⟩ f A outer s H E) [] (startF N vs [some (.ref D)]) H { s with heap := h₁, toks := s.toks + (ps.zip us).length } := inv_startN S hr.hd e0 hl r C hns kp
  refine PySem.ks_wpAt_mono (hbody A outer s _ H vs Q E (hr.deeper _) hsp I) (fun fl s' hs => ?_) fun e s' hs => hs
  have fin : ∀ {σ' : L2.St} {H' : Hp} {v : V} {u : Value}, Inv (ncx CX P w K mg base N ⟨name, qual, params, body, scope, [("__class__", cc)], c⟩ f A outer s H E) [] σ' H' s' → L2.RelV v u → Q v H' → CE outer P w H s Q u s' :=
    fun {σ' H' v u} J rv q => ⟨v, H', J.os, J.bare, J.base, J.hok, rv, q⟩
  cases fl with
  | ret u =>
    obtain ⟨v, σ', H', J, rv, q⟩ := hs
    exact fin J rv q
  | next =>
    obtain ⟨σ', H', J, q⟩ := hs
    exact fin (v := V.non) (u := Value.none) J rfl q
  | brk =>
    obtain ⟨_, _, _, q⟩ := hs
    exact False.elim q
  | cont =>
    obtain ⟨_, _, _, q⟩ := hs
    exact False.elim q
end Fd
namespace Fd
open PySem PySem.Spec PyProof.Rows L2 NdefX
/-- an exception's __init__: what the written part says of it -/
structure DefC (P : Program) (K : PySem.W.Frag) (mg : Str → Option Value) (f c cc D : Addr) (qual : Str) (params : Arguments) (body : List Stmt) (scope : Scope) (fd : FuncData) : Prop where
  ex : ∃ (oc : Value) (od : Option Addr) (kV doc pm : Value) (an : Option Addr) (ct : Value) (osl : Array (Option Value)), fd = PySem.W.fnX "__init__" qual params body scope [("__class__", cc)] .none kV doc pm an (.ref c) ct ∧ K.lookup f = some ⟨oc, od, .func fd, osl⟩
  code : PySem.W.codeIn K (.ref c) qual = true
  cell : ∃ (ccl : Value) (ccd : Option Addr) (ccs : Array (Option Value)), K.lookup cc = some ⟨ccl, ccd, .cell (some (.ref D)), ccs⟩
  file : ∃ (oc : Value) (od : Option Addr) (vs : Array Value) (osl : Array (Option Value)) (file : Str) (tf : Tok), K.lookup c = some ⟨oc, od, .fields vs, osl⟩ ∧ vs[2]? = some (.str file tf) ∧ (P.main.file == file) = true
  dc : ∃ (oc : Value) (od : Option Addr) (cd : ClassData) (osl : Array (Option Value)), K.lookup D = some ⟨oc, od, .cls cd, osl⟩
  free : mg "super" = none
  top : (P.main.scope.names.lookup ("super" : Str)).isSome = false
  su : scope.names.lookup ("super" : Str) = some .globalImplicit
  self : ∃ ar, (params.posonlyargs ++ params.args).head? = some ar ∧ ar.arg = "self"
section
variable {P : Program} {w : World} {K : PySem.W.Frag} {mg : Str → Option Value} {base : Heap} {f c cc D C : Addr} {qual : Str} {params : Arguments} {body : List Stmt} {scope : Scope} {fd : FuncData} {CX : CXT} {k n : Nat}
theorem DefC.sup {N ps : List Str} {A : Around} {outer : List Env} {s : Shared} {H : Hp} {E : XK} (d : DefC P K mg f c cc D qual params body scope fd) (S : NScope N ps ["__class__"] scope) (j : Nat) (h0 : N[0]? = some ("self" : Str)) (hj : N[j]? = some ("__class__" : Str)) (hs : ("self" : Str) ∈ ps) :
    SupAt (ncx CX P w K mg base N ⟨"__init__", qual, params, body, scope, [("__class__", cc)], c⟩ f A outer s H E) f c D "self" j := by
  obtain ⟨oc, od, kV, doc, pm, an, ct, osl, rfl, lk⟩ := d.ex
  obtain ⟨ar, h1, h2⟩ := d.self
  exact ⟨d.su, d.free, S.frk _ (List.mem_singleton.mpr rfl), rfl, ⟨_, _, _, _, ar, lk, h1, h2⟩, rfl, d.file, d.top, h0, S.par _ hs, hj, d.dc⟩
/-- what such an __init__ leaves of an instance of the class at C -/
def spEx (C : Addr) (n : Nat) (flds : List V → List (Str × V)) : Sp := fun vs H Q _ => ∃ (a : Addr) (ws : List V), vs = .ref a :: ws ∧ ws.length = n ∧ H a = some (exo a C none) ∧ ∀ dx, H dx = none → dx ≠ a → Q .non (upd (upd H dx (exd dx (flds ws))) a (exo a C (some dx)))
theorem exo_ne {X : Cx} {pins : List (Addr × Obj)} {σ : L2.St} {H : Hp} {s : Shared} {a C : Addr} (T : OexC X.K C) (I : Inv X pins σ H s) (e : H a = some (exo a C none)) : a ≠ C := by
  rintro rfl
  obtain ⟨nm, q, N, bs, bm, sn, sub, ab, col, dd, k0, k1, k2, k3, k5, hC, _⟩ := T.cls
  obtain ⟨t1, ho⟩ := exo_at I.hok e
  rw [I.kIn _ _ hC] at ho
  cases ho
/-- super().__init__(..) is called the way of a method -/
def SupForm (p0 p1 p2 pos : Pos) (es : List Expr) : Prop := ∀ env : Env, ∃ pl : Sem Bool, eval (.Call (.Attribute (.Call (.Name "super" p0) [] [] p1) "__init__" p2) es [] pos) env = (do
      let ov ← attributeBase (.Call (.Name "super" p0) [] [] p1) "__init__" env (eval (.Call (.Name "super" p0) [] [] p1) env)
      standAt p2.atName
      let (f, first) ← holding [ov] (getMethod ov "__init__" pl)
      callWith pos f first (backTo pos (starEach es env)) [])
/-- the lowest one: super().__init__(word); self.word = word -/
theorem ve_init {p0 p1 p2 p3 p4 p5 p6 p7 p8 p9 : Pos} {g : Str} (d : DefC P K mg f c cc D qual params [.Expr (.Call (.Attribute (.Call (.Name "super" p0) [] [] p1) "__init__" p2) [.Name "word" p3] [] p4) p5, .Assign [.Attribute (.Name "self" p6) g p7] (.Name "word" p8) p9] scope fd)
    (S : NScope ["self", "word", "__class__"] ["self", "word"] ["__class__"] scope) (T : OexC K C) (hsub : PySem.W.mroIn K C (.ref D) = some true) (hB : PySem.W.subIn K (.ref C) (.type "ValueError") = some true)
    (hsup : PySem.W.ks_superIn K C D "__init__" = some (some (.builtin "ValueError.__init__"))) (hf : PySem.W.findIn K (.ref C) g = some none) (opq : PySem.W.nsIn K cStatics "thirdparty.any" = some none)
    (hform : SupForm p0 p1 p2 p4 [.Name "word" p3]) : FnOk P w K mg base CX (k + 1) f fd ["self", "word"] (spEx C 1 fun ws => ws.map fun v => (g, v)) := by
  obtain ⟨oc, od, kV, doc, pm, an, ct, osl, rfl, lk⟩ := d.ex
  obtain ⟨ccl, ccd, ccs, hcc⟩ := d.cell
  refine fn_ofW lk d.code hcc S (fun vs H Q E h => ?_) (fun A outer s s' H vs Q E hr hsp I => ?_)
  · obtain ⟨a, ws, rfl, hl, _⟩ := h
    rw [List.length_cons, hl]
    rfl
  · obtain ⟨a, ws, rfl, hl, ea, hq⟩ := hsp
    match ws, hl with
    | [v], _ =>
      have SA := d.sup (w := w) (base := base) (CX := CX) (A := A) (outer := outer) (s := s) (H := H) (E := E) S 2 rfl rfl (List.mem_cons_self ..)
      have vw : Vis scope "word" := .inl (S.par _ (by decide))
      have vs : Vis scope "self" := .inl (S.par _ (by decide))
      refine PySem.ks_wpAt_execs_cons (PySem.ks_wpAt_Expr_any ?_ (by simp [interactive, S.kind]) (by rfl))
      obtain ⟨pl, hfo⟩ := hform (envF ⟨"__init__", qual, params, _, scope, [("__class__", cc)], c⟩ f s.heap.objs.size)
      refine PySem.ks_wpAt_mono (sup_eval_ve (pl := pl) (Q := fun _ H1 => H1 = H) SA I rfl rfl hsub hB T ea (exo_ne T I ea) hsup opq (pa_cons (pe_var (i := 1) rfl vw) pa_nil) ⟨v, rfl, by show (1 : Nat) ≤ sizeLine; decide, ea, rfl⟩ hfo rfl rfl) (fun u s1 hv => ?_) (fun _ _ x => x)
      obtain ⟨v', H1, I1, _, rfl⟩ := hv
      refine wpAt_of_wpAny ((pss_one (ps_ost (pe_var (i := 0) rfl vs) (pe_var (i := 1) rfl vw) rfl)).run [] s1 _ H1 _ I1 ?_)
      exact ⟨v, rfl, .ref a, rfl, a, C, rfl, T, hf, .inl ⟨ea, fun dx hd hne => hq dx hd hne⟩⟩
end
end Fd
namespace Fd
open PySem PySem.Spec PyProof.Rows L2 NdefX
section
variable {P : Program} {w : World} {K : PySem.W.Frag} {mg : Str → Option Value} {base : Heap} {f c cc D C fD : Addr} {qual g m : Str} {params : Arguments} {scope : Scope} {fd fdD : FuncData} {k : Nat} {p0 p1 p2 p3 p4 p5 p6 p7 p8 p9 : Pos} {ij : Nat}
/-- the written part: the class's own __init__ goes on to the def at fD -/
structure UpTo (K : PySem.W.Frag) (C D fD : Addr) : Prop where
  sub : PySem.W.mroIn K C (.ref D) = some true
  sup : PySem.W.ks_superIn K C D "__init__" = some (some (.ref fD))
  ty : PySem.W.typeIn K (.ref fD) = some (.type "function")
  fn : PySem.W.fnIn K fD = true
  opq : PySem.W.nsIn K cStatics "thirdparty.any" = some none
/-- super().__init__('..') -/
theorem own_init0 (d : DefC P K mg f c cc D qual params [.Expr (.Call (.Attribute (.Call (.Name "super" p0) [] [] p1) "__init__" p2) [.Constant (.str m) ij p3] [] p4) p5] scope fd)
    (S : NScope ["self", "__class__"] ["self"] ["__class__"] scope) (T : OexC K C) (U : UpTo K C D fD) (F : FnOk P w K mg base C8.CX0 k fD fdD ["self", "word"] (spEx C 1 fun ws => ws.map fun v => (g, v))) (hb : L2.Binds K fdD ["self", "word"] [])
    (hform : SupForm p0 p1 p2 p4 [.Constant (.str m) ij p3]) : FnOk P w K mg base C8.CX0 (k + 1) f fd ["self"] (spEx C 0 fun _ => [(g, .str m)]) := by
  obtain ⟨oc, od, kV, doc, pm, an, ct, osl, rfl, lk⟩ := d.ex
  obtain ⟨ccl, ccd, ccs, hcc⟩ := d.cell
  refine fn_ofW lk d.code hcc S (fun vs H Q E h => ?_) (fun A outer s s' H vs Q E hr hsp I => ?_)
  · obtain ⟨a, ws, rfl, hl, _⟩ := h
    rw [List.length_cons, hl]
    rfl
  · obtain ⟨a, ws, rfl, hl, ea, hq⟩ := hsp
    match ws, hl with
    | [], _ =>
      have SA := d.sup (w := w) (base := base) (CX := C8.CX0) (A := A) (outer := outer) (s := s) (H := H) (E := E) S 1 rfl rfl (List.mem_cons_self ..)
      obtain ⟨t1, ho⟩ := exo_at I.hok ea
      obtain ⟨pl, hfo⟩ := hform (envF ⟨"__init__", qual, params, _, scope, [("__class__", cc)], c⟩ f s.heap.objs.size)
      refine PySem.ks_wpAt_execs_cons (PySem.ks_wpAt_Expr_any ?_ (by simp [interactive, S.kind]) (by rfl))
      refine PySem.ks_wpAt_mono (sup_eval_fn (pl := pl) (Q := fun _ H1 => Q .non H1) (E0 := C8.E0) SA I rfl rfl U.sub ⟨_, ho, rfl, fun cd z => by cases z⟩ (exo_ne T I ea) (F.raw hb .nil) hr C8.pass0 U.sup U.ty U.fn U.opq (pa_cons pe_str pa_nil)
        ⟨a, [.str m], rfl, rfl, ea, fun dx hd hne => hq dx hd hne⟩ hfo rfl rfl) (fun u s1 hv => ?_) (fun _ _ x => x)
      obtain ⟨v', H1, I1, r1, q1⟩ := hv
      exact wpAt_of_wpAny (pss_nil.run [] s1 _ H1 _ I1 q1)
/-- super().__init__('..'); self.h = y -/
theorem own_init1 {h y : Str} (d : DefC P K mg f c cc D qual params [.Expr (.Call (.Attribute (.Call (.Name "super" p0) [] [] p1) "__init__" p2) [.Constant (.str m) ij p3] [] p4) p5, .Assign [.Attribute (.Name "self" p6) h p7] (.Name y p8) p9] scope fd)
    (S : NScope ["self", y, "__class__"] ["self", y] ["__class__"] scope) (T : OexC K C) (U : UpTo K C D fD) (F : FnOk P w K mg base C8.CX0 k fD fdD ["self", "word"] (spEx C 1 fun ws => ws.map fun v => (g, v))) (hb : L2.Binds K fdD ["self", "word"] [])
    (hf : PySem.W.findIn K (.ref C) h = some none) (hy1 : (y == ("__debug__" : Str)) = false) (hy2 : (y == ("__classdict__" : Str)) = false)
    (hform : SupForm p0 p1 p2 p4 [.Constant (.str m) ij p3]) : FnOk P w K mg base C8.CX0 (k + 1) f fd ["self", y] (spEx C 1 fun ws => ws.map (fun v => (h, v)) ++ [(g, .str m)]) := by
  obtain ⟨oc, od, kV, doc, pm, an, ct, osl, rfl, lk⟩ := d.ex
  obtain ⟨ccl, ccd, ccs, hcc⟩ := d.cell
  refine fn_ofW lk d.code hcc S (fun vs H Q E h => ?_) (fun A outer s s' H vs Q E hr hsp I => ?_)
  · obtain ⟨a, ws, rfl, hl, _⟩ := h
    rw [List.length_cons, hl]
    rfl
  · obtain ⟨a, ws, rfl, hl, ea, hq⟩ := hsp
    match ws, hl with
    | [v], _ =>
      have SA := d.sup (w := w) (base := base) (CX := C8.CX0) (A := A) (outer := outer) (s := s) (H := H) (E := E) S 2 rfl rfl (List.mem_cons_self ..)
      have vy : Vis scope y := .inl (S.par _ (by simp))
      have vs : Vis scope "self" := .inl (S.par _ (by simp))
      obtain ⟨t1, ho⟩ := exo_at I.hok ea
      obtain ⟨pl, hfo⟩ := hform (envF ⟨"__init__", qual, params, _, scope, [("__class__", cc)], c⟩ f s.heap.objs.size)
      refine PySem.ks_wpAt_execs_cons (PySem.ks_wpAt_Expr_any ?_ (by simp [interactive, S.kind]) (by rfl))
      refine PySem.ks_wpAt_mono (sup_eval_fn (pl := pl) (Q := fun _ H1 => ∃ dx, H dx = none ∧ dx ≠ a ∧ H1 = upd (upd H dx (exd dx [(g, .str m)])) a (exo a C (some dx))) (E0 := C8.E0) SA I rfl rfl U.sub ⟨_, ho, rfl, fun cd z => by cases z⟩ (exo_ne T I ea) (F.raw hb .nil) hr C8.pass0 U.sup U.ty U.fn U.opq (pa_cons pe_str pa_nil)
        ⟨a, [.str m], rfl, rfl, ea, fun dx hd hne => ⟨dx, hd, hne, rfl⟩⟩ hfo rfl rfl) (fun u s1 hv => ?_) (fun _ _ x => x)
      obtain ⟨v', H1, I1, r1, dx, hd, hne, rfl⟩ := hv
      refine wpAt_of_wpAny ((pss_one (ps_ost (pe_var (i := 0) rfl vs) (pe_var (i := 1) rfl vy hy1 hy2) rfl)).run [] s1 _ _ _ I1 ?_)
      refine ⟨v, rfl, .ref a, rfl, a, C, rfl, T, hf, .inr ⟨dx, [(g, .str m)], upd_same, ?_, (by show 1 ≤ 900; decide), ?_⟩⟩
      · rw [upd_ne hne, upd_same]
      · have e : upd (upd (upd H dx (exd dx [(g, .str m)])) a (exo a C (some dx))) dx (exd dx [(h, v), (g, .str m)]) = upd (upd H dx (exd dx [(h, v), (g, .str m)])) a (exo a C (some dx)) := by
          funext b
          by_cases h1 : b = dx
          · subst h1
            rw [upd_same, upd_ne hne, upd_same]
          · rw [upd_ne h1]
            by_cases h2 : b = a
            · subst h2
              rw [upd_same, upd_same]
            · rw [upd_ne h2, upd_ne h2, upd_ne h1, upd_ne h1]
        rw [e]
        exact hq dx hd hne
end
end Fd
/-! ### such an exception made -/
namespace Fd
open PySem PySem.Spec PyProof.Rows L2 NdefX
/-- the written part of an exception class and its __init__ -/
structure ExCls (K : PySem.W.Frag) (mg : Str → Option Value) (x : Str) (C fI : Addr) : Prop where
  cls : OexC K C
  init : PySem.W.findIn K (.ref C) "__init__" = some (some (.ref fI))
  ty : PySem.W.typeIn K (.ref fI) = some (.type "function")
  glo : mg x = some (.ref C)
section
variable {X : Cx} {x : Str} {C fI : Addr} {k n : Nat} {fd : FuncData} {ps : List Str} {flds : List V → List (Str × V)} {e : Expr} {es : List Expr} {ta : TA} {p pos : Pos}
theorem mk_call {pins : List (Addr × Obj)} {σ : L2.St} {H1 : Hp} {s : Shared} {us : List Value} {vs : List V} {Q : XK} {E : Value → Shared → Prop} (T : ExCls X.K X.mg x C fI) (G : FnOk X.prog X.w X.K X.mg X.base C8.CX0 k fI fd ps (spEx C n flds)) (hr : Room (k + 1) X.A) (hb : L2.Binds X.K fd ps [])
    (I1 : Inv X pins σ H1 s) (r1 : Vals vs us) (hz : vs.length ≤ 1000) (hn : vs.length = n) (q : ∀ dx, H1 dx = none → Q (.ref C) (some dx) (upd H1 dx (.xd (flds vs)))) :
    wpAny (model X.prog X.w) X.A (call (.ref C) us) (MkP X pins σ Q) E s := by
  obtain ⟨nm, qn, N, bs, bm, sn, sub, ab, col, dd, k0, k1, k2, k3, k5, hC, hbm⟩ := T.cls.cls
  obtain ⟨hp, g, dr, tk, os⟩ := s
  have hsz : hp.objs.size ≤ hp.objs.size + 1 := Nat.le_succ _
  have ha0 : H1 (hp.objs.size + 1) = none := I1.hok.fresh hsz
  have kk : ∀ b o, hp.get? b = some o → ((hp.push (PySem.W.kdv_tup us)).push (PySem.HandSPX.excO C hp.objs.size)).get? b = some o := fun b o e => Heap.get?_push_of_some _ (Heap.get?_push_of_some _ e)
  have hget : ((hp.push (PySem.W.kdv_tup us)).push (PySem.HandSPX.excO C hp.objs.size)).get? (hp.objs.size + 1) = some (PySem.HandSPX.excO C hp.objs.size) := by heap_get
  have I2 : Inv X pins σ (upd H1 (hp.objs.size + 1) (exo (hp.objs.size + 1) C none)) ⟨(hp.push (PySem.W.kdv_tup us)).push (PySem.HandSPX.excO C hp.objs.size), g, dr, tk, os⟩ :=
    I1.laid (t' := tk) (a := hp.objs.size + 1) (o := exo (hp.objs.size + 1) C none) (h' := (hp.push (PySem.W.kdv_tup us)).push (PySem.HandSPX.excO C hp.objs.size)) kk hsz (exo_ok hget)
  have r2 : Vals (V.ref (hp.objs.size + 1) :: vs) (Value.ref (hp.objs.size + 1) :: us) := .cons rfl r1
  have hq : spEx C n flds (.ref (hp.objs.size + 1) :: vs) (upd H1 (hp.objs.size + 1) (exo (hp.objs.size + 1) C none)) (fun v H2 => v = .non ∧ ∃ (d : Addr) (fs : List (Str × V)), H2 (hp.objs.size + 1) = some (exo (hp.objs.size + 1) C (some d)) ∧ H2 d = some (exd d fs) ∧ H1 d = none ∧
      Q (.ref C) (some d) (upd (del H2 (hp.objs.size + 1)) d (.xd fs))) C8.E0 := by
    refine ⟨_, vs, rfl, hn, upd_same, fun dx hd hne => ⟨rfl, dx, flds vs, upd_same, by rw [upd_ne hne, upd_same], ?_, ?_⟩⟩
    · rw [upd_ne hne] at hd
      exact hd
    · rw [upd_ne hne] at hd
      have eq : upd (del (upd (upd (upd H1 (hp.objs.size + 1) (exo (hp.objs.size + 1) C none)) dx (exd dx (flds vs))) (hp.objs.size + 1) (exo (hp.objs.size + 1) C (some dx))) (hp.objs.size + 1)) dx (.xd (flds vs)) = upd H1 dx (.xd (flds vs)) := by
        funext b
        by_cases h1 : b = dx
        · subst h1
          rw [upd_same, upd_same]
        · rw [upd_ne h1, upd_ne h1]
          by_cases h2 : b = hp.objs.size + 1
          · subst h2
            rw [del_same, ha0]
          · rw [del_ne h2, upd_ne h2, upd_ne h1, upd_ne h2]
      rw [eq]
      exact q dx hd
  have hl : (Value.ref (hp.objs.size + 1) :: us ++ []).length = ps.length := by
    rw [List.append_nil, ← Paired.length r2]
    exact G.len _ _ _ _ hq
  have hus : us.length ≤ sizeLine := by
    rw [← Paired.length r1, sizeLine_eq]
    omega
  have hb2 := hb _ (Value.ref (hp.objs.size + 1) :: us) I2.kIn hl
  rw [List.append_nil] at hb2
  refine wpAny_call (PySem.HandSPX.call_own F.excBase_ValueError (fun Y => PySem.HandSPX.refsVE_contains Y bm hbm) (I1.kIn _ _ hC) (PySem.W.looks_findIn I1.kIn T.init) (fun self => PySem.W.bind_fn I1.kIn self T.ty) hus
    (codeAny_mono (G.run _ X.stack _ _ ⟨Value.ref (hp.objs.size + 1) :: us, []⟩ (Value.ref (hp.objs.size + 1) :: us) _ _ C8.E0 (hr.make C us []) (I2.env0.make C us []) hb2 r2 hq) fun r s' hq' => ?_))
  cases r with
  | error er => exact hq'.elim
  | ok fl =>
    cases fl with
    | ret u =>
      obtain ⟨v, H2, os2, bare2, un2, hok2, rv, ev, d, fs, ea, ed, hd1, q2⟩ := hq'
      subst ev
      obtain ⟨h2, g2, d2, t2, os'⟩ := s'
      exact ⟨rv, mk_end (raises_own T.cls.exC T.cls.tyC) I1 hsz kk un2 hok2 os2 bare2 ea ed hd1 q2⟩
    | next => exact False.elim hq'
    | brk => exact False.elim hq'
    | cont => exact False.elim hq'
theorem PA.up (h : PA X es ta) : PA X es (fun σ H Q => ∃ A, ta σ H A ∧ ∀ vs H', A vs H' → Q vs H') :=
  ⟨fun pos pins s σ H Q I ⟨A, h1, h2⟩ => thn (h.run pos pins s σ H A I h1) fun us s' ⟨vs, H', J, r, q⟩ => ⟨vs, H', J, r, h2 vs H' q⟩⟩
/-- C(e, ..) -/
theorem pmk_ex (T : ExCls X.K X.mg x C fI) (G : FnOk X.prog X.w X.K X.mg X.base C8.CX0 k fI fd ps (spEx C n flds)) (hr : Room (k + 1) X.A) (hb : L2.Binds X.K fd ps []) (hg : Gl X x) (ha : PA X (e :: es) ta)
    (hdb : (x == ("__debug__" : Str)) = false := by decide) (he : starEach (e :: es) X.env = (false, eval e X.env) :: starEach es X.env := by rfl) (hpl : (backTo pos (starEach es X.env)).any (·.1) = false := by rfl) :
    PMk X (.Call (.Name x p) (e :: es) [] pos) (fun σ H Q => ta σ H fun vs H1 => (vs.length ≤ 1000 ∧ vs.length = n) ∧ ∀ dx, H1 dx = none → Q (.ref C) (some dx) (upd H1 dx (.xd (flds vs)))) := by
  intro pins s σ H Q I h
  refine wpAny_Call_Name_kw (ld_glob I hg T.glo ?_ hdb)
  refine PySem.W.callWith_K (h₀ := X.base) I.ok.mod.kin T.cls.kC (thn (ha.run pos pins s σ H _ I h) fun us s1 ⟨vs, H1, I1, r1, hz, q1⟩ => ⟨I1.kIn, ?_⟩) he hpl
  exact mk_call T G hr hb I1 r1 hz.1 hz.2 q1
/-- C() -/
theorem pmk_ex0 (T : ExCls X.K X.mg x C fI) (G : FnOk X.prog X.w X.K X.mg X.base C8.CX0 k fI fd ps (spEx C 0 flds)) (hr : Room (k + 1) X.A) (hb : L2.Binds X.K fd ps []) (hg : Gl X x) (hdb : (x == ("__debug__" : Str)) = false := by decide) :
    PMk X (.Call (.Name x p) [] [] pos) (fun _ H Q => ∀ dx, H dx = none → Q (.ref C) (some dx) (upd H dx (.xd (flds [])))) := by
  intro pins s σ H Q I h
  refine wpAny_Call_Name_kw (ld_glob I hg T.glo ?_ hdb)
  refine PySem.W.callWith_K0 I.kIn T.cls.kC ?_
  exact mk_call T G hr hb I .nil (Nat.zero_le _) rfl h
end
end Fd
/-! what the head says of exception classes -/
namespace Fd
open PySem PySem.Spec PyProof.Rows L2 He
/-- one's own exception class over ValueError -/
def exCls (K : PySem.W.Frag) (C : Addr) : Bool :=
  (match K.lookup C with
  | some ⟨.type t, _, .cls cd, sl⟩ => (match cd.mro, sl.toList with
    | .ref C' :: bm, [_, _, _, _, some (.builtin n), _] => decide (t = "type") && (decide (C' = C) && (decide (n = "ValueError.__new__") && (!cd.hasDel && (cd.hasDict && PySem.HandSPX.refsVE bm))))
    | _, _ => false)
  | _ => false) && (eqO (PySem.W.findIn K (.ref C) "__setattr__") (some (some (.builtin "object.__setattr__"))) && (decide (PySem.W.subIn K (.ref C) (.type "BaseException") = some true) &&
    (decide (PySem.W.typeIn K (.ref C) = some (.type "type")) && (PySem.W.keepIn K (.ref C) && decide (PySem.W.subIn K (.ref C) (.type "ValueError") = some true)))))
theorem exCls_ok {K : PySem.W.Frag} {C : Addr} (h : exCls K C = true) : OexC K C ∧ PySem.W.subIn K (.ref C) (.type "ValueError") = some true := by
  obtain ⟨h1, h2⟩ := ba h
  obtain ⟨h3, h4⟩ := ba h2
  obtain ⟨h5, h6⟩ := ba h4
  obtain ⟨h7, h8⟩ := ba h6
  obtain ⟨h9, h10⟩ := ba h8
  refine ⟨⟨?_, eqO_ok h3, of_decide_eq_true h5, of_decide_eq_true h7, h9⟩, of_decide_eq_true h10⟩
  split at h1
  · rename_i t dd cd sl ho
    split at h1
    · rename_i C' bm k0 k1 k2 k3 n k5 hm hs
      obtain ⟨a1, a2⟩ := ba h1
      obtain ⟨a3, a4⟩ := ba a2
      obtain ⟨a5, a6⟩ := ba a4
      obtain ⟨a7, a8⟩ := ba a6
      obtain ⟨a9, a10⟩ := ba a8
      have e1 := of_decide_eq_true a1
      have e2 := of_decide_eq_true a3
      have e3 := of_decide_eq_true a5
      subst e1 e2 e3
      obtain ⟨nm, bs, mro, ns, qn, hd, sn, sub, ab, col, del⟩ := cd
      dsimp only at hm a7 a9
      have e4 : del = false := by simpa using a7
      subst hm e4 a9
      have hsl : sl = #[k0, k1, k2, k3, some (.builtin "ValueError.__new__"), k5] := by
        obtain ⟨l⟩ := sl
        simp only at hs
        rw [hs]
      subst hsl
      exact ⟨nm, qn, ns, bs, bm, sn, sub, ab, col, dd, k0, k1, k2, k3, k5, ho, a10⟩
    · cases h1
  · cases h1
/-- its __init__, that captured its class -/
def exFn (file : Str) (K : PySem.W.Frag) (f C : Addr) (qual : Str) : Bool := match K.lookup f with
  | some ⟨_, _, .func fd, _⟩ => (match fd.code, fd.closure, fd.defaults with
    | .ref c, [(y, cc)], .none => PySem.W.codeIn K (.ref c) qual && (decide (y = ("__class__" : Str)) && ((match K.lookup c with
      | some ⟨_, _, .fields vs, _⟩ => (match (vs[2]? : Option Value) with
        | some (.str fl _) => file == fl
        | _ => false)
      | _ => false) && ((match K.lookup cc with
      | some ⟨_, _, .cell (some (.ref D)), _⟩ => decide (D = C)
      | _ => false) && (match K.lookup C with
      | some ⟨_, _, .cls _, _⟩ => true
      | _ => false))))
    | _, _, _ => false)
  | _ => false
/-- one such class and its __init__ -/
structure ExD where
  cls : Str
  params : Arguments
  body : List Stmt
  scope : Scope
abbrev ExD.qual (d : ExD) : Str := d.cls ++ ".__init__"
abbrev ExV : Type := Option (Str × Str × Arguments × FuncBody × Scope × Addr × Addr)
abbrev exF (K : PySem.W.Frag) (x : Str) : Addr := ma K (ga K x) "__init__"
def exW (K : PySem.W.Frag) (x : Str) : ExV := match K.lookup (exF K x) with
  | some ⟨_, _, .func fd, _⟩ => some (fd.name, fd.qualname, fd.params, fd.body, fd.scope, fd.globals, fd.builtins)
  | _ => none
def ExD.val (d : ExD) : ExV := some ("__init__", d.qual, d.params, .stmts d.body, d.scope, mainGlobals, builtinsNs)
def ExD.ok (file : Str) (K : PySem.W.Frag) (d : ExD) : Bool := exCls K (ga K d.cls) && (exFn file K (exF K d.cls) (ga K d.cls) d.qual && (eqO (PySem.W.nsIn K mainGlobals d.cls) (some (some (.ref (ga K d.cls)))) &&
  (eqO (PySem.W.findIn K (.ref (ga K d.cls)) "__init__") (some (some (.ref (exF K d.cls)))) && (decide (PySem.W.typeIn K (.ref (exF K d.cls)) = some (.type "function")) && PySem.W.fnIn K (exF K d.cls)))))
/-- the class at c, over b, over ValueError -/
def upB (K : PySem.W.Frag) (p : Str × Str) : Bool := decide (PySem.W.mroIn K (ga K p.1) (.ref (ga K p.1)) = some true) && (eqO (PySem.W.ks_superIn K (ga K p.1) (ga K p.1) "__init__") (some (some (.ref (exF K p.2)))) &&
  (decide (PySem.W.mroIn K (ga K p.1) (.ref (ga K p.2)) = some true) && eqO (PySem.W.ks_superIn K (ga K p.1) (ga K p.2) "__init__") (some (some (.builtin "ValueError.__init__")))))
/-- the written part says so of exceptions -/
structure SaysS (P : Program) (fa : List Fa) (fn : List DefD) (xs : List ExD) (ups : List (Str × Str)) (K : PySem.W.Frag) : Prop where
  d : SaysD fa fn K
  ok : ∀ d ∈ xs, d.ok P.main.file K = true
  w : xs.map (fun d => exW K d.cls) = xs.map ExD.val
  up : ∀ p ∈ ups, upB K p = true
  opq : PySem.W.nsIn K cStatics "thirdparty.any" = some none
/-- what the module's names reach, and the dict that super() looks at -/
abbrev kS (g : Addr → Option Obj) (n : Nat) : PySem.W.Frag := frG g (asD g n ++ [cStatics])
abbrev AlS : Type := AlD × Bool × List ExV
def obsS (P : Program) (n : Nat) (fa : List Fa) (fn : List DefD) (xs : List ExD) (ups : List (Str × Str)) (g : Addr → Option Obj) : AlS :=
  (obsD fa fn (kS g n), (xs.all (fun d => d.ok P.main.file (kS g n)) && (ups.all (upB (kS g n)) && eqO (PySem.W.nsIn (kS g n) cStatics "thirdparty.any") (some none)), xs.map fun d => exW (kS g n) d.cls))
def hookS (P : Program) (n : Nat) (fa : List Fa) (fn : List DefD) (xs : List ExD) (ups : List (Str × Str)) : PySem.W.Hook where
  α := AlS
  obs := fun s => obsS P n fa fn xs ups s.heap.get?
  val := fun _ => (valD fn, (true, xs.map ExD.val))
  says := fun _ h => ∃ K : PySem.W.Frag, K.In h ∧ SaysS P fa fn xs ups K
  of := fun _ s e => by
    refine ⟨kS s.heap.get? n, frG_in, congrArg (fun z : AlS => z.1) e, ?_, congrArg (fun z : AlS => z.2.2) e, ?_, ?_⟩
    · have e2 := (ba (congrArg (fun z : AlS => z.2.1) e)).1
      exact fun d hd => List.all_eq_true.mp e2 d hd
    · have e2 := (ba (ba (congrArg (fun z : AlS => z.2.1) e)).2).1
      exact fun d hd => List.all_eq_true.mp e2 d hd
    · exact eqO_ok (ba (ba (congrArg (fun z : AlS => z.2.1) e)).2).2
  keeps := fun _ _ _ ⟨K, hK, c⟩ k => ⟨K, PySem.W.Frag.In.keeps hK k, c⟩
theorem obsS_eq {P : Program} {n : Nat} {fa : List Fa} {fn : List DefD} {xs : List ExD} {ups : List (Str × Str)} {g : Addr → Option Obj} {s : Shared} (h : ∀ a, g a = s.heap.get? a) : obsS P n fa fn xs ups g = (hookS P n fa fn xs ups).obs s := by
  have e : g = s.heap.get? := funext h
  rw [e] <;> rfl
end Fd
namespace Fd
open PySem PySem.Spec PyProof.Rows L2 He NdefX
section
variable {P : Program} {fa : List Fa} {fn : List DefD} {xs : List ExD} {ups : List (Str × Str)} {K : PySem.W.Frag} {mg : Str → Option Value} {d : ExD}
theorem SaysS.val (c : SaysS P fa fn xs ups K) (h : d ∈ xs) : exW K d.cls = d.val := by
  obtain ⟨i, hi, e⟩ := List.mem_iff_getElem.mp h
  have e2 : (xs.map fun d => exW K d.cls)[i]? = (xs.map ExD.val)[i]? := by rw [c.w]
  rw [List.getElem?_map, List.getElem?_map, List.getElem?_eq_getElem hi, e] at e2
  exact Option.some.inj e2
theorem exFn_ok {file : Str} {f C : Addr} {qual : Str} (h : exFn file K f C qual = true) : ∃ (oc : Value) (od : Option Addr) (fd : FuncData) (osl : Array (Option Value)) (c cc : Addr), K.lookup f = some ⟨oc, od, .func fd, osl⟩ ∧ fd.code = .ref c ∧ fd.closure = [(("__class__" : Str), cc)] ∧ fd.defaults = .none ∧
    PySem.W.codeIn K (.ref c) qual = true ∧ (∃ (oc : Value) (od : Option Addr) (vs : Array Value) (osl : Array (Option Value)) (fl : Str) (tf : Tok), K.lookup c = some ⟨oc, od, .fields vs, osl⟩ ∧ vs[2]? = some (.str fl tf) ∧ (file == fl) = true) ∧
    (∃ (ccl : Value) (ccd : Option Addr) (ccs : Array (Option Value)), K.lookup cc = some ⟨ccl, ccd, .cell (some (.ref C)), ccs⟩) ∧ (∃ (oc : Value) (od : Option Addr) (cd : ClassData) (osl : Array (Option Value)), K.lookup C = some ⟨oc, od, .cls cd, osl⟩) := by
  unfold exFn at h
  split at h
  · rename_i oc od fd osl hf
    split at h
    · rename_i c y cc h1 h2 h3
      obtain ⟨a1, a2⟩ := ba h
      obtain ⟨a3, a4⟩ := ba a2
      obtain ⟨a5, a6⟩ := ba a4
      obtain ⟨a7, a8⟩ := ba a6
      have e := of_decide_eq_true a3
      subst e
      refine ⟨oc, od, fd, osl, c, cc, hf, h1, h2, h3, a1, ?_, ?_, ?_⟩
      · split at a5
        · rename_i oc2 od2 vs osl2 hc
          split at a5
          · rename_i fl tf hv
            exact ⟨oc2, od2, vs, osl2, fl, tf, hc, hv, a5⟩
          · cases a5
        · cases a5
      · split at a7
        · rename_i oc2 od2 D osl2 hc
          have e := of_decide_eq_true a7
          subst e
          exact ⟨_, _, _, hc⟩
        · cases a7
      · split at a8
        · rename_i oc2 od2 cd osl2 hc
          exact ⟨_, _, _, _, hc⟩
        · cases a8
    · cases h
  · cases h
theorem SaysS.defC (c : SaysS P fa fn xs ups K) (h : d ∈ xs) (hfree : mg "super" = none) (htop : (P.main.scope.names.lookup ("super" : Str)).isSome = false) (hsu : d.scope.names.lookup ("super" : Str) = some .globalImplicit)
    (hself : ∃ ar, (d.params.posonlyargs ++ d.params.args).head? = some ar ∧ ar.arg = "self") : ∃ cd cc fd, DefC P K mg (exF K d.cls) cd cc (ga K d.cls) d.qual d.params d.body d.scope fd := by
  have hv := c.val h
  obtain ⟨oc, od, fd, osl, cd, cc, hf, h1, h2, h3, h4, h5, h6, h7⟩ := exFn_ok (ba (ba (c.ok d h)).2).1
  unfold exW at hv
  rw [hf] at hv
  obtain ⟨n1, n2, n3, n4, n5, n6, n7, n8, n9, n10, n11, n12, n13, n14, n15⟩ := fd
  have e2 : (some (n1, n2, n3, n4, n5, n6, n15) : ExV) = some (("__init__" : Str), d.qual, d.params, FuncBody.stmts d.body, d.scope, mainGlobals, builtinsNs) := hv
  simp only [Option.some.injEq, Prod.mk.injEq] at e2
  obtain ⟨g1, g2, g3, g4, g5, g6, g7⟩ := e2
  dsimp only at h1 h2 h3
  subst g1 g2 g3 g4 g5 g6 g7 h1 h2 h3
  exact ⟨cd, cc, _, ⟨⟨oc, od, n9, n10, n11, n12, n14, osl, rfl, hf⟩, h4, h6, h5, h7, hfree, htop, hsu, hself⟩⟩
theorem SaysS.cls (c : SaysS P fa fn xs ups K) (h : d ∈ xs) {hp : Heap} (X : K.In hp) (G : hp.Ns mainGlobals mg) : ExCls K mg d.cls (ga K d.cls) (exF K d.cls) ∧ PySem.W.subIn K (.ref (ga K d.cls)) (.type "ValueError") = some true ∧ PySem.W.fnIn K (exF K d.cls) = true := by
  obtain ⟨h1, h2⟩ := ba (c.ok d h)
  obtain ⟨h3, h4⟩ := ba h2
  obtain ⟨h5, h6⟩ := ba h4
  obtain ⟨h7, h8⟩ := ba h6
  obtain ⟨h9, h10⟩ := ba h8
  obtain ⟨o1, o2⟩ := exCls_ok h1
  exact ⟨⟨o1, eqO_ok h7, of_decide_eq_true h9, PySem.W.mg_of X G (eqO_ok h5)⟩, o2, h10⟩
theorem SaysS.upTo (c : SaysS P fa fn xs ups K) {d b : ExD} (hp : (d.cls, b.cls) ∈ ups) (hb : b ∈ xs) : UpTo K (ga K d.cls) (ga K d.cls) (exF K b.cls) ∧ PySem.W.mroIn K (ga K d.cls) (.ref (ga K b.cls)) = some true ∧
    PySem.W.ks_superIn K (ga K d.cls) (ga K b.cls) "__init__" = some (some (.builtin "ValueError.__init__")) := by
  obtain ⟨h1, h2⟩ := ba (c.up _ hp)
  obtain ⟨h3, h4⟩ := ba h2
  obtain ⟨h5, h6⟩ := ba h4
  obtain ⟨a1, a2⟩ := ba (c.ok b hb)
  obtain ⟨a3, a4⟩ := ba a2
  obtain ⟨a5, a6⟩ := ba a4
  obtain ⟨a7, a8⟩ := ba a6
  obtain ⟨a9, a10⟩ := ba a8
  exact ⟨⟨of_decide_eq_true h1, eqO_ok h3, of_decide_eq_true a9, a10, c.opq⟩, of_decide_eq_true h5, eqO_ok h6⟩
end
end Fd
/-! exceptions that a def lets out -/
namespace Fd
open PySem PySem.Spec L2
/-- E takes the exception x, raised anywhere behind (Hs, H) -/
def XAt (K : PySem.W.Frag) (a : Hd) (Hs H : Hp) (E : XK) (x : EX) : Prop := ∀ (Hs' H' : Hp) (dx : Addr) (vs : List (Str × V)), Gr a Hs H Hs' H' → Same Hs' H' → HandOk a Hs' H' → H' dx = none → RepF K a Hs' x.2 vs →
  E (.ref (He.ga K x.1)) (some dx) (upd H' dx (.xd vs))
/-- the promise of a def that may raise -/
def spX (K : PySem.W.Frag) (n : Nat) (m : M) : Sp := fun vs H Q E => ∃ (a : Hd) (Hs : Hp) (ds : List D) (q : D → Prop) (qe : EX → Prop), vs.length = n ∧ Same Hs H ∧ HandOk a Hs H ∧ RepL K a Hs ds vs ∧ m ds q qe ∧
  (∀ d v Hs' H', q d → Gr a Hs H Hs' H' → Same Hs' H' → HandOk a Hs' H' → Rep K a Hs' d v → Q v H') ∧ ∀ x, qe x → XAt K a Hs H E x
section
variable {C : Ctx}
theorem RS.gr0 {Hs H : Hp} {ρ : List En} {σ : L2.St} (r : RS C Hs ρ σ H) : Gr C.a C.Hs0 C.H0 Hs H := ⟨r.sh0, r.fr, fun b o hb => by
  rcases r.new b o hb with z | z
  · exact .inl z
  · exact .inr ⟨z, fun e => r.hd0 b e z⟩⟩
theorem XAt.later {K : PySem.W.Frag} {a : Hd} {Hs H Hs1 H1 : Hp} {E : XK} {x : EX} (h : XAt K a Hs H E x) (g : Gr a Hs H Hs1 H1) : XAt K a Hs1 H1 E x := fun Hs' H' dx vs g' => h Hs' H' dx vs (g.trans g')
/-- a call that may raise -/
theorem dt_callX {n : Nat} {m : M} {t : TA} {g : MA} {E : XK} (hE : ∀ x, C.W x → XAt C.K C.a C.Hs0 C.H0 E x) (h : DAn C n t g) : DT C (tCall (spX C.K n m) [] E t) (eCall m g) := by
  refine ⟨fun Hs ρ σ H q qe Q l r w k => ?_⟩
  refine h.run Hs ρ σ H _ _ _ l r w fun ds vs Hs1 H1 w1 g1 r1 p1 hl => ?_
  rw [List.append_nil]
  refine ⟨C.a, Hs1, ds, q, qe, hl, r1.sh, r1.hd, p1, w1, fun d v Hs2 H2 e g2 s2 h2 p2 => ?_, fun x hx => (hE x (l x hx)).later r1.gr0⟩
  exact k d v Hs2 H2 e (g1.trans g2) (r1.grow g2 s2 h2) p2
/-- .. where it may not -/
def eCallN (m : M) (g : MA) : ME := fun ρ q qe => g ρ (fun ds => m ds q (fun _ => False)) qe
theorem dt_callN {n : Nat} {m : M} {t : TA} {g : MA} {E : XK} (h : DAn C n t g) : DT C (tCall (spX C.K n m) [] E t) (eCallN m g) := by
  refine ⟨fun Hs ρ σ H q qe Q l r w k => ?_⟩
  refine h.run Hs ρ σ H _ _ _ l r w fun ds vs Hs1 H1 w1 g1 r1 p1 hl => ?_
  rw [List.append_nil]
  refine ⟨C.a, Hs1, ds, q, fun _ => False, hl, r1.sh, r1.hd, p1, w1, fun d v Hs2 H2 e g2 s2 h2 p2 => ?_, fun x hx => hx.elim⟩
  exact k d v Hs2 H2 e (g1.trans g2) (r1.grow g2 s2 h2) p2
/-! ### raise -/
/-- raise c(..), the class's __init__ leaving the fields fl -/
def sRaise (c : Str) (n : Nat) (fl : List D → List (Str × D)) (g : MA) : MS := fun ρ _ qe => g ρ (fun ds => ds.length = n ∧ qe (c, fl ds)) qe
def tRaise1 (c : Addr) (n : Nat) (flds : List V → List (Str × V)) (E : XK) (ta : TA) : TS := fun _ σ H => ta σ H fun vs H1 => (vs.length ≤ 1000 ∧ vs.length = n) ∧ ∀ dx, H1 dx = none → E (.ref c) (some dx) (upd H1 dx (.xd (flds vs)))
theorem ds_raise {c : Str} {n : Nat} {fl : List D → List (Str × D)} {flds : List V → List (Str × V)} {ta : TA} {g : MA} {E : XK} (hE : ∀ x, C.W x → XAt C.K C.a C.Hs0 C.H0 E x) (hn : n ≤ 1000) (hf : ∀ {Hs : Hp} {ds : List D} {vs : List V}, RepL C.K C.a Hs ds vs → ds.length = n → RepF C.K C.a Hs (fl ds) (flds vs))
    (h : DA C ta g) : DS C (tRaise1 (He.ga C.K c) n flds E ta) (sRaise c n fl g) := by
  refine ⟨fun Hs ρ σ H sq qe _ l r w k => ?_⟩
  refine h.run Hs ρ σ H _ qe _ l r w fun ds vs Hs1 H1 w1 g1 r1 p1 => ?_
  obtain ⟨hl, hx⟩ := w1
  have hv : vs.length = n := by rw [← p1.length]; exact hl
  exact ⟨⟨by omega, hv⟩, fun dx hd => hE _ (l _ hx) Hs1 H1 dx _ r1.gr0 r1.sh r1.hd hd (hf p1 hl)⟩
theorem ds_raise0 {c : Str} {fl : List (Str × D)} {flds : List V → List (Str × V)} {E : XK} (hE : ∀ x, C.W x → XAt C.K C.a C.Hs0 C.H0 E x) (hf : ∀ {Hs : Hp}, RepF C.K C.a Hs fl (flds [])) :
    DS C (fun _ _ H => ∀ dx, H dx = none → E (.ref (He.ga C.K c)) (some dx) (upd H dx (.xd (flds [])))) (sRaise c 0 (fun _ => fl) aNil) :=
  ⟨fun Hs ρ σ H sq qe _ l r w k dx hd => hE _ (l _ w.2) Hs H dx _ r.gr0 r.sh r.hd hd hf⟩
theorem body_okX {K : PySem.W.Frag} {t : TS} {f : MS} {n k : Nat} {N : List Str} {vs : List V} {H : Hp} {Q : VK} {E : XK} (hN : N.length = n + k) (ht : ∀ C : Ctx, C.K = K → (∀ x, C.W x → XAt C.K C.a C.Hs0 C.H0 E x) → DS C t f)
    (h : spX K n (mBody k f) vs H Q E) : t { nx := fun _ H' => Q .non H', rt := Q } (L2.start N vs) H := by
  obtain ⟨a, Hs, ds, q, qe, hl, s, hd, r, w, kk, hx⟩ := h
  have rs : RS ⟨K, a, H, Hs, qe⟩ Hs (ds.map .sh ++ List.replicate k .no) (L2.start N vs) H := rs_start s hd r (by rw [hl]; exact hN)
  have fin : ∀ {d : D} {v : V} {ρ' : List En} {σ' : L2.St} {Hs' H' : Hp}, q d → RS ⟨K, a, H, Hs, qe⟩ Hs' ρ' σ' H' → Rep K a Hs' d v → Q v H' := fun {d v ρ' σ' Hs' H'} hq r' p' =>
    kk d v Hs' H' hq r'.gr0 r'.sh r'.hd p'
  exact (ht ⟨K, a, H, Hs, qe⟩ rfl hx).run Hs _ _ H ⟨fun _ => q .non, fun _ => q, fun _ => False, fun _ => False⟩ qe _ (fun _ z => z) rs w
    ⟨fun ρ' σ' Hs' H' w' s' r' => fin w' r' .non, fun d v ρ' σ' Hs' H' w' s' r' p' => fin w' r' p', fun _ _ _ _ z => z.elim, fun _ _ _ _ z => z.elim⟩
end
end Fd
namespace Fd
open PySem PySem.Spec PyProof.Rows L2 NdefX
/-- a def of the top that may raise, called by its name -/
structure CalX (P : Program) (w : World) (K : PySem.W.Frag) (mg : Str → Option Value) (base : Heap) (k : Nat) (x : Str) (n : Nat) (m : M) : Prop where
  ex : ∃ fd ps, FnOk P w K mg base (L2.CX P w) k (He.ga K x) fd ps (spX K n m) ∧ L2.Binds K fd ps []
  kp : PySem.W.keepIn K (.ref (He.ga K x)) = true
  g : mg x = some (.ref (He.ga K x))
theorem CalX.mono {P : Program} {w : World} {K : PySem.W.Frag} {mg : Str → Option Value} {base : Heap} {j k n : Nat} {x : Str} {m : M} (c : CalX P w K mg base j x n m) (h : j ≤ k) : CalX P w K mg base k x n m := by
  obtain ⟨fd, ps, F, b⟩ := c.ex
  exact ⟨⟨fd, ps, F.mono h, b⟩, c.kp, c.g⟩
theorem pe_calX {X : Cx} {k n : Nat} {m : M} {x : Str} {p pos : Pos} {e : Expr} {es : List Expr} {t : TA} {E : XK} (c : CalX X.prog X.w X.K X.mg X.base k x n m) (hx : Passes (L2.CX X.prog X.w) X E) (hr : Room k X.A) (hg : Gl X x) (ha : PA X (e :: es) t)
    (hdb : (x == ("__debug__" : Str)) = false := by decide) (he : starEach (e :: es) X.env = (false, eval e X.env) :: starEach es X.env := by rfl) (hpl : (backTo pos (starEach es X.env)).any (·.1) = false := by rfl) :
    PE X (.Call (.Name x p) (e :: es) [] pos) (tCall (spX X.K n m) [] E t) := by
  obtain ⟨fd, ps, F, b⟩ := c.ex
  exact pe_call F hr hg c.g c.kp b .nil hx ha hdb he hpl
theorem passes_tk {X : Cx} {E : XK} (tk : Takes X (fun cls d _ H => E cls d H)) : Passes (L2.CX X.prog X.w) X E := fun pins σ H s e s' I c => passAt tk σ pins H s e s' I c
section
variable {P : Program} {w : World} {K : PySem.W.Frag} {mg : Str → Option Value} {base : Heap} {N : List Str} {qual : Str} {scope : Scope} {f : Addr} {cd : Value} {A : Around} {outer : List Env} {s : Shared} {H : Hp} {E : XK}
theorem takesF : Takes (cxOf (L2.CX P w) P w K mg base N qual scope f cd A outer s H E) (fun cls d _ H' => E cls d H') := takes_of rfl rfl rfl rfl
theorem passesF : Passes (L2.CX P w) (cxOf (L2.CX P w) P w K mg base N qual scope f cd A outer s H E) E := passes_tk (X := cxOf (L2.CX P w) P w K mg base N qual scope f cd A outer s H E) takesF
theorem ownsF : PassesOwn (model P w) (cxOf (L2.CX P w) P w K mg base N qual scope f cd A outer s H E).A (cxOf (L2.CX P w) P w K mg base N qual scope f cd A outer s H E).env (cxOf (L2.CX P w) P w K mg base N qual scope f cd A outer s H E).xe := passes_of (X := cxOf (L2.CX P w) P w K mg base N qual scope f cd A outer s H E) rfl
end
/-- a def's text does what its functional reading says, raising too -/
theorem cal_ofX {P : Program} {w : World} {K : PySem.W.Frag} {mg : Str → Option Value} {base : Heap} {x : Str} {st : Stmt} {N ps : List Str} {n k j : Nat} {f : MS}
    (F : ∃ fd, FunD K x x (defArgs st) (defBody st) (defScope st) [] [] (He.ga K x) fd) (g : mg x = some (.ref (He.ga K x))) (S : FnScope N ps (defScope st)) (hn : ps.length = n) (hN : N.length = n + j)
    (hb : ∀ (cdv : Value) (A : Around) (outer : List Env) (s : Shared) (H : Hp) (E : XK), Room k (A.deeper (envOfC x (defScope st) s.heap.objs.size (He.ga K x) cdv)) →
      ∃ t, PSs (cxOf (L2.CX P w) P w K mg base N x (defScope st) (He.ga K x) cdv A outer s H E) (defBody st) t ∧ ∀ C : Ctx, C.K = K → (∀ x, C.W x → XAt C.K C.a C.Hs0 C.H0 E x) → DS C t f)
    (bd : ∀ (kV doc pm : Value) (an : Option Addr) (cdv ct : Value) (us : List Value), us.length = ps.length → bindArgs (PySem.W.fnOf x x (defArgs st) (defBody st) (defScope st) .none kV doc pm an cdv ct) ⟨us, []⟩ = pure (ps.zip us)) :
    CalX P w K mg base (k + 1) x n (mBody j f) := by
  obtain ⟨fd, F⟩ := F
  refine ⟨⟨fd, ps, F.ok S (fun vs H Q E h => ?_) (fun cdv A outer s H vs Q E hr h => ?_), F.bindsN bd⟩, F.kp, g⟩
  · obtain ⟨a, Hs, ds, q, qe, hl, _⟩ := h
    rw [hl, hn]
  · obtain ⟨t, h1, h2⟩ := hb cdv A outer s H E hr
    exact ⟨t, h1, body_okX hN h2 h⟩
/-- an exception class, made by its name -/
structure Exm (P : Program) (w : World) (K : PySem.W.Frag) (mg : Str → Option Value) (base : Heap) (k : Nat) (x : Str) (n : Nat) (flds : List V → List (Str × V)) : Prop where
  cls : ExCls K mg x (He.ga K x) (exF K x)
  ex : ∃ fd ps, FnOk P w K mg base C8.CX0 k (exF K x) fd ps (spEx (He.ga K x) n flds) ∧ L2.Binds K fd ps []
section
variable {X : Cx} {k n : Nat} {x : Str} {flds : List V → List (Str × V)} {E : XK} {p pos pos' : Pos} {e : Expr} {es : List Expr} {ta : TA}
theorem ps_raise0 (c : Exm X.prog X.w X.K X.mg X.base k x 0 flds) (hc : X.calm = true) (tk : Takes X (fun cls d _ H => E cls d H)) (hr : Room (k + 1) X.A) (hg : Gl X x) (hdb : (x == ("__debug__" : Str)) = false := by decide) :
    PS X (.Raise (some (.Call (.Name x p) [] [] pos)) none pos') (fun _ _ H => ∀ dx, H dx = none → E (.ref (He.ga X.K x)) (some dx) (upd H dx (.xd (flds [])))) := by
  obtain ⟨fd, ps, F, b⟩ := c.ex
  exact ps_raise (W := fun cls d _ H => E cls d H) hc tk (pmk_ex0 c.cls F hr b hg hdb)
theorem ps_raise1 (c : Exm X.prog X.w X.K X.mg X.base k x n flds) (hc : X.calm = true) (tk : Takes X (fun cls d _ H => E cls d H)) (hr : Room (k + 1) X.A) (hg : Gl X x) (ha : PA X (e :: es) ta)
    (hdb : (x == ("__debug__" : Str)) = false := by decide) (he : starEach (e :: es) X.env = (false, eval e X.env) :: starEach es X.env := by rfl) (hpl : (backTo pos (starEach es X.env)).any (·.1) = false := by rfl) :
    PS X (.Raise (some (.Call (.Name x p) (e :: es) [] pos)) none pos') (tRaise1 (He.ga X.K x) n flds E ta) := by
  obtain ⟨fd, ps, F, b⟩ := c.ex
  exact ps_raise (W := fun cls d _ H => E cls d H) hc tk (pmk_ex c.cls F hr b hg ha hdb he hpl)
end
end Fd
namespace Fd
open PySem PySem.Spec PyProof.Rows L2 NdefX He
section
variable {P : Program} {w : World} {K : PySem.W.Frag} {mg : Str → Option Value} {base hp : Heap} {fa : List Fa} {fn : List DefD} {xs : List ExD} {ups : List (Str × Str)} {d b : ExD} {g m h y : Str} {ij : Nat}
  {p0 p1 p2 p3 p4 p5 q0 q1 q2 q3 q4 q5 q6 q7 q8 q9 : Pos}
/-- the lowest class's __init__, of an instance of the class of d -/
theorem base_init (c : SaysS P fa fn xs ups K) (X : K.In hp) (G : hp.Ns mainGlobals mg) (hd : d ∈ xs) (hb : b ∈ xs) (up : (d.cls, b.cls) ∈ ups)
    (bb : b.body = [.Expr (.Call (.Attribute (.Call (.Name "super" q0) [] [] q1) "__init__" q2) [.Name "word" q3] [] q4) q5, .Assign [.Attribute (.Name "self" q6) g q7] (.Name "word" q8) q9])
    (S : NScope ["self", "word", "__class__"] ["self", "word"] ["__class__"] b.scope) (hfree : mg "super" = none) (htop : (P.main.scope.names.lookup ("super" : Str)).isSome = false) (hsu : b.scope.names.lookup ("super" : Str) = some .globalImplicit)
    (hself : ∃ ar, (b.params.posonlyargs ++ b.params.args).head? = some ar ∧ ar.arg = "self") (hn : PySem.W.findIn K (.ref (ga K d.cls)) g = some none) (hform : SupForm q0 q1 q2 q4 [.Name "word" q3])
    (bd : ∀ (cc : Addr) (kV doc pm : Value) (an : Option Addr) (cdv ct : Value) (us : List Value), us.length = 2 → bindArgs (PySem.W.fnX "__init__" b.qual b.params b.body b.scope [("__class__", cc)] .none kV doc pm an cdv ct) ⟨us, []⟩ = pure ((["self", "word"] : List Str).zip us)) :
    ∃ fd, FnOk P w K mg base C8.CX0 1 (exF K b.cls) fd ["self", "word"] (spEx (ga K d.cls) 1 fun ws => ws.map fun v => (g, v)) ∧ L2.Binds K fd ["self", "word"] [] := by
  obtain ⟨cd, cc, fd, D⟩ := c.defC hb hfree htop hsu hself
  obtain ⟨oc, od, kV, doc, pm, an, ct, osl, e, lk⟩ := D.ex
  obtain ⟨T, sub, _⟩ := c.cls hd X G
  obtain ⟨U, u1, u2⟩ := c.upTo up hb
  refine ⟨fd, ?_, ?_⟩
  · rw [bb] at D
    exact ve_init (k := 0) D S T.cls u1 sub u2 hn c.opq hform
  · subst e
    exact .all fun us hl => bd _ _ _ _ _ _ _ us hl
theorem exm_own0 (c : SaysS P fa fn xs ups K) (X : K.In hp) (G : hp.Ns mainGlobals mg) (hd : d ∈ xs) (hb : b ∈ xs) (up : (d.cls, b.cls) ∈ ups)
    (db : d.body = [.Expr (.Call (.Attribute (.Call (.Name "super" p0) [] [] p1) "__init__" p2) [.Constant (.str m) ij p3] [] p4) p5])
    (S : NScope ["self", "__class__"] ["self"] ["__class__"] d.scope) (hfree : mg "super" = none) (htop : (P.main.scope.names.lookup ("super" : Str)).isSome = false) (hsu : d.scope.names.lookup ("super" : Str) = some .globalImplicit)
    (hself : ∃ ar, (d.params.posonlyargs ++ d.params.args).head? = some ar ∧ ar.arg = "self") (hform : SupForm p0 p1 p2 p4 [.Constant (.str m) ij p3])
    (bd : ∀ (cc : Addr) (kV doc pm : Value) (an : Option Addr) (cdv ct : Value) (us : List Value), us.length = 1 → bindArgs (PySem.W.fnX "__init__" d.qual d.params d.body d.scope [("__class__", cc)] .none kV doc pm an cdv ct) ⟨us, []⟩ = pure ((["self"] : List Str).zip us))
    (B : ∃ fd, FnOk P w K mg base C8.CX0 1 (exF K b.cls) fd ["self", "word"] (spEx (ga K d.cls) 1 fun ws => ws.map fun v => (g, v)) ∧ L2.Binds K fd ["self", "word"] []) : Exm P w K mg base 2 d.cls 0 (fun _ => [(g, .str m)]) := by
  obtain ⟨cd, cc, fd, D⟩ := c.defC hd hfree htop hsu hself
  obtain ⟨oc, od, kV, doc, pm, an, ct, osl, e, lk⟩ := D.ex
  obtain ⟨T, sub, _⟩ := c.cls hd X G
  obtain ⟨U, u1, u2⟩ := c.upTo up hb
  obtain ⟨fdB, FB, bB⟩ := B
  refine ⟨T, fd, ["self"], ?_, ?_⟩
  · rw [db] at D
    exact own_init0 D S T.cls U FB bB hform
  · subst e
    exact .all fun us hl => bd _ _ _ _ _ _ _ us hl
theorem exm_own1 (c : SaysS P fa fn xs ups K) (X : K.In hp) (G : hp.Ns mainGlobals mg) (hd : d ∈ xs) (hb : b ∈ xs) (up : (d.cls, b.cls) ∈ ups) {p6 p7 p8 p9 : Pos}
    (db : d.body = [.Expr (.Call (.Attribute (.Call (.Name "super" p0) [] [] p1) "__init__" p2) [.Constant (.str m) ij p3] [] p4) p5, .Assign [.Attribute (.Name "self" p6) h p7] (.Name y p8) p9])
    (S : NScope ["self", y, "__class__"] ["self", y] ["__class__"] d.scope) (hfree : mg "super" = none) (htop : (P.main.scope.names.lookup ("super" : Str)).isSome = false) (hsu : d.scope.names.lookup ("super" : Str) = some .globalImplicit)
    (hself : ∃ ar, (d.params.posonlyargs ++ d.params.args).head? = some ar ∧ ar.arg = "self") (hn : PySem.W.findIn K (.ref (ga K d.cls)) h = some none) (hform : SupForm p0 p1 p2 p4 [.Constant (.str m) ij p3]) (hy1 : (y == ("__debug__" : Str)) = false) (hy2 : (y == ("__classdict__" : Str)) = false)
    (bd : ∀ (cc : Addr) (kV doc pm : Value) (an : Option Addr) (cdv ct : Value) (us : List Value), us.length = 2 → bindArgs (PySem.W.fnX "__init__" d.qual d.params d.body d.scope [("__class__", cc)] .none kV doc pm an cdv ct) ⟨us, []⟩ = pure ((["self", y] : List Str).zip us))
    (B : ∃ fd, FnOk P w K mg base C8.CX0 1 (exF K b.cls) fd ["self", "word"] (spEx (ga K d.cls) 1 fun ws => ws.map fun v => (g, v)) ∧ L2.Binds K fd ["self", "word"] []) : Exm P w K mg base 2 d.cls 1 (fun ws => ws.map (fun v => (h, v)) ++ [(g, .str m)]) := by
  obtain ⟨cd, cc, fd, D⟩ := c.defC hd hfree htop hsu hself
  obtain ⟨oc, od, kV, doc, pm, an, ct, osl, e, lk⟩ := D.ex
  obtain ⟨T, sub, _⟩ := c.cls hd X G
  obtain ⟨U, u1, u2⟩ := c.upTo up hb
  obtain ⟨fdB, FB, bB⟩ := B
  refine ⟨T, fd, ["self", y], ?_, ?_⟩
  · rw [db] at D
    exact own_init1 D S T.cls U FB bB hn hy1 hy2 hform
  · subst e
    exact .all fun us hl => bd _ _ _ _ _ _ _ us hl
end
end Fd
/-! classes whose __init__ may raise -/
namespace Fd
open PySem PySem.Spec L2
/-- the promise of an __init__ -/
def spInitX (K : PySem.W.Frag) (c : Str) (n : Nat) (m : MI) : Sp := fun vs H Q E => ∃ (a : Hd) (Hs H1 : Hp) (x dx : Addr) (us : List V) (ds : List D) (q : List (Str × D) → Prop) (qe : EX → Prop), vs = .ref x :: us ∧ us.length = n ∧ H = upd (upd H1 dx (.own x)) x (.ins (He.ga K c) dx []) ∧
  H1 x = none ∧ H1 dx = none ∧ dx ≠ x ∧ Same Hs H1 ∧ HandOk a Hs H1 ∧ RepL K a Hs ds us ∧ m ds q qe ∧
  (∀ fs fs' Hs' H', q fs → Gr a Hs H1 Hs' H' → Same Hs' H' → HandOk a Hs' H' → H' x = some (.ins (He.ga K c) dx fs') → H' dx = some (.own x) → RepF K a Hs' fs fs' → Hs' x = none → Hs' dx = none → Q .non H') ∧ ∀ y, qe y → XAt K a Hs H1 E y
theorem init_okX {K : PySem.W.Frag} {t : TS} {f : MS} {c : Str} {n k : Nat} {N : List Str} {vs : List V} {H : Hp} {Q : VK} {E : XK} (hN : N.length = n + 1 + k) (ht : ∀ C : Ctx, C.K = K → (∀ x, C.W x → XAt C.K C.a C.Hs0 C.H0 E x) → DS C t f)
    (h : spInitX K c n (mInit c k f) vs H Q E) : t { nx := fun _ H' => Q .non H', rt := Q } (L2.start N vs) H := by
  obtain ⟨a, Hs, H1, x, dx, us, ds, q, qe, rfl, hl, rfl, hx, hdx, ne, s, hd, r, w, kk, hq2⟩ := h
  have r0 : RS ⟨K, a, H1, Hs, qe⟩ Hs (ds.map .sh ++ List.replicate k .no) (us.map some ++ List.replicate k none) H1 := by
    have z := rs_start (N := N.drop 1) (k := k) (W := qe) s hd r (by rw [List.length_drop, hN, hl]; omega)
    have e : L2.start (N.drop 1) us = us.map some ++ List.replicate k none := by
      unfold L2.start
      rw [List.length_drop, hN, hl, show n + 1 + k - 1 - n = k by omega]
    rw [e] at z
    exact z
  have hx' : (upd H1 dx (.own x)) x = none := by rw [upd_ne (Ne.symm ne)]; exact hx
  have r1 : RS ⟨K, a, H1, Hs, qe⟩ Hs (ds.map .sh ++ List.replicate k .no) (us.map some ++ List.replicate k none) (upd (upd H1 dx (.own x)) x (.ins (He.ga K c) dx [])) := (r0.side hdx).side hx'
  have ax : a.p ≠ some x := r0.fresh_a hx
  have adx : a.p ≠ some dx := r0.fresh_a hdx
  have e1 : L2.start N (.ref x :: us) = some (.ref x) :: (us.map some ++ List.replicate k none) := by
    unfold L2.start
    rw [List.map_cons, List.length_cons, hN, hl, show n + 1 + k - (n + 1) = k by omega]
    rfl
  have nold : ∀ (j : Nat) (e : En), (ds.map En.sh ++ List.replicate k .no)[j]? = some e → e.own = false := fun j e he => by
    by_cases h : j < ds.length
    · rw [List.getElem?_append_left (by rw [List.length_map]; exact h), List.getElem?_map, List.getElem?_eq_getElem h] at he
      cases he
      rfl
    · rw [List.getElem?_append_right (by rw [List.length_map]; omega), List.length_map, List.getElem?_replicate] at he
      split at he
      · cases he
        rfl
      · cases he
  have r2 : RS ⟨K, a, H1, Hs, qe⟩ Hs (.oo c x dx [] :: (ds.map .sh ++ List.replicate k .no)) (some (.ref x) :: (us.map some ++ List.replicate k none)) (upd (upd H1 dx (.own x)) x (.ins (He.ga K c) dx [])) := by
    refine ⟨congrArg (· + 1) r1.len, r1.fr, r1.sh, r1.sh0, r1.new, r1.hd, r1.hd0, fun i e he => ?_, fun i j p e e' hij he he' o o' hs hs' => ?_⟩
    · cases i with
      | zero =>
        cases he
        exact ⟨[], rfl, upd_same, by rw [upd_ne ne, upd_same], .nil, .of hx, r0.fresh_s hx, ax, r0.fresh_s hdx, adx⟩
      | succ i => exact r1.en i e he
    · cases i with
      | zero =>
        cases j with
        | zero => exact hij rfl
        | succ j => rw [nold j e' he'] at o'; cases o'
      | succ i => rw [nold i e he] at o; cases o
  rw [e1]
  refine (ht ⟨K, a, H1, Hs, qe⟩ rfl hq2).run Hs _ _ _ _ qe _ (fun _ z => z) r2 (w x dx) ⟨fun ρ' σ' Hs' H' w' s' r' => ?_, fun _ _ _ _ _ _ z => z.elim, fun _ _ _ _ z => z.elim, fun _ _ _ _ z => z.elim⟩
  obtain ⟨fs, e2, hq⟩ := w'
  obtain ⟨vs, ev, h1, h2, h3, h4, h5, h6, h7, h8⟩ := r'.en 0 _ e2
  refine kk fs vs Hs' H' hq ⟨s', r'.fr, fun b o hb => ?_⟩ r'.sh r'.hd h1 h2 h3 h5 h7
  rcases r'.new b o hb with z | z
  · exact .inl z
  · exact .inr ⟨z, fun e => r'.hd0 b e z⟩
/-- .. that may not raise there -/
def eMakeN (c : Str) (m : MI) (g : MA) : ME := fun ρ q qe => g ρ (fun ds => m ds (fun fs => q (.obj c fs)) (fun _ => False)) qe
theorem dt_makeX {C : Ctx} {c : Str} {n : Nat} {m : MI} {t : TA} {g : MA} {E : XK} (hE : ∀ x, C.W x → XAt C.K C.a C.Hs0 C.H0 E x) (h : DAn C n t g) : DT C (tMake (He.ga C.K c) (spInitX C.K c n m) [] E t) (eMake c m g) := by
  refine ⟨fun Hs ρ σ H q qe Q l r w k => ?_⟩
  refine h.run Hs ρ σ H _ _ _ l r w fun ds vs Hs1 H1 w1 g1 r1 p1 hl x dx hx hdx ne => ?_
  rw [List.append_nil]
  refine ⟨C.a, Hs1, H1, x, dx, vs, ds, fun fs => q (.obj c fs), qe, rfl, hl, rfl, hx, hdx, ne, r1.sh, r1.hd, p1, w1, fun fs fs' Hs2 H2 hq g2 s2 h2 hX hD hF nX nD => ⟨rfl, ?_⟩, fun y hy => (hE y (l y hy)).later r1.gr0⟩
  have ax := r1.fresh_a hx
  have ad := r1.fresh_a hdx
  have r2 := r1.grow g2 s2 h2
  have nX2 : (upd Hs2 dx (.own x)) x = none := by rw [upd_ne (Ne.symm ne)]; exact nX
  have sm : Same Hs2 (upd (upd Hs2 dx (.own x)) x (.ins (He.ga C.K c) dx fs')) := (same_upd nD).trans (same_upd nX2)
  have gg : Gr C.a Hs1 H1 (upd (upd Hs2 dx (.own x)) x (.ins (He.ga C.K c) dx fs')) H2 := ⟨g2.s.trans sm, g2.b, fun b o hb => by
    by_cases z : b = x
    · rw [z]; exact .inr ⟨.of hx, ax⟩
    · rw [upd_ne z] at hb
      by_cases y : b = dx
      · rw [y]; exact .inr ⟨.of hdx, ad⟩
      · rw [upd_ne y] at hb
        exact g2.n b o hb⟩
  have s3 : Same (upd (upd Hs2 dx (.own x)) x (.ins (He.ga C.K c) dx fs')) H2 := fun b o hb => by
    by_cases z : b = x
    · subst z
      rw [upd_same] at hb
      cases hb
      exact hX
    · rw [upd_ne z] at hb
      by_cases y : b = dx
      · subst y
        rw [upd_same] at hb
        cases hb
        exact hD
      · rw [upd_ne y] at hb
        exact s2 b o hb
  have h3 : HandOk C.a (upd (upd Hs2 dx (.own x)) x (.ins (He.ga C.K c) dx fs')) H2 := ⟨nt_upd (nt_upd h2.nt fun _ z => by cases z) fun _ z => (by cases z), fun y e => by
    obtain ⟨a1, cc, i1, b1, s1, n1, cells, a2, a3, a4⟩ := h2.at_ y e
    refine ⟨?_, cc, i1, b1, s1, n1, cells, a2, sm _ _ a3, a4⟩
    rw [upd_ne fun z => ax (by rw [← z]; exact e), upd_ne fun z => ad (by rw [← z]; exact e)]
    exact a1⟩
  exact k (.obj c fs) (.ref x) _ H2 hq (g1.trans gg) (r1.grow gg s3 h3) (.obj upd_same (by rw [upd_ne ne, upd_same]) (hF.mono sm))
theorem dt_makeN {C : Ctx} {c : Str} {n : Nat} {m : MI} {t : TA} {g : MA} {E : XK} (h : DAn C n t g) : DT C (tMake (He.ga C.K c) (spInitX C.K c n m) [] E t) (eMakeN c m g) := by
  refine ⟨fun Hs ρ σ H q qe Q l r w k => ?_⟩
  refine h.run Hs ρ σ H _ _ _ l r w fun ds vs Hs1 H1 w1 g1 r1 p1 hl x dx hx hdx ne => ?_
  rw [List.append_nil]
  refine ⟨C.a, Hs1, H1, x, dx, vs, ds, fun fs => q (.obj c fs), fun _ => False, rfl, hl, rfl, hx, hdx, ne, r1.sh, r1.hd, p1, w1, fun fs fs' Hs2 H2 hq g2 s2 h2 hX hD hF nX nD => ⟨rfl, ?_⟩, fun y hy => hy.elim⟩
  have ax := r1.fresh_a hx
  have ad := r1.fresh_a hdx
  have r2 := r1.grow g2 s2 h2
  have nX2 : (upd Hs2 dx (.own x)) x = none := by rw [upd_ne (Ne.symm ne)]; exact nX
  have sm : Same Hs2 (upd (upd Hs2 dx (.own x)) x (.ins (He.ga C.K c) dx fs')) := (same_upd nD).trans (same_upd nX2)
  have gg : Gr C.a Hs1 H1 (upd (upd Hs2 dx (.own x)) x (.ins (He.ga C.K c) dx fs')) H2 := ⟨g2.s.trans sm, g2.b, fun b o hb => by
    by_cases z : b = x
    · rw [z]; exact .inr ⟨.of hx, ax⟩
    · rw [upd_ne z] at hb
      by_cases y : b = dx
      · rw [y]; exact .inr ⟨.of hdx, ad⟩
      · rw [upd_ne y] at hb
        exact g2.n b o hb⟩
  have s3 : Same (upd (upd Hs2 dx (.own x)) x (.ins (He.ga C.K c) dx fs')) H2 := fun b o hb => by
    by_cases z : b = x
    · subst z
      rw [upd_same] at hb
      cases hb
      exact hX
    · rw [upd_ne z] at hb
      by_cases y : b = dx
      · subst y
        rw [upd_same] at hb
        cases hb
        exact hD
      · rw [upd_ne y] at hb
        exact s2 b o hb
  have h3 : HandOk C.a (upd (upd Hs2 dx (.own x)) x (.ins (He.ga C.K c) dx fs')) H2 := ⟨nt_upd (nt_upd h2.nt fun _ z => by cases z) fun _ z => (by cases z), fun y e => by
    obtain ⟨a1, cc, i1, b1, s1, n1, cells, a2, a3, a4⟩ := h2.at_ y e
    refine ⟨?_, cc, i1, b1, s1, n1, cells, a2, sm _ _ a3, a4⟩
    rw [upd_ne fun z => ax (by rw [← z]; exact e), upd_ne fun z => ad (by rw [← z]; exact e)]
    exact a1⟩
  exact k (.obj c fs) (.ref x) _ H2 hq (g1.trans gg) (r1.grow gg s3 h3) (.obj upd_same (by rw [upd_ne ne, upd_same]) (hF.mono sm))
/-- a class that may be made -/
structure MakX (P : Program) (w : World) (K : PySem.W.Frag) (mg : Str → Option Value) (base : Heap) (k : Nat) (c : Str) (n : Nat) (m : MI) : Prop where
  ex : ∃ f fd ps, Mk K (He.ga K c) f ∧ FnOk P w K mg base (L2.CX P w) k f fd ps (spInitX K c n m) ∧ Binds K fd ps []
  g : mg c = some (.ref (He.ga K c))
theorem pe_makX {X : Cx} {k n : Nat} {m : MI} {c : Str} {p pos : Pos} {e : Expr} {es : List Expr} {t : TA} {E : XK} (cc : MakX X.prog X.w X.K X.mg X.base k c n m) (hx : Passes (L2.CX X.prog X.w) X E) (hr : Room (k + 1) X.A) (hg : Gl X c) (ha : PA X (e :: es) t)
    (hdb : (c == ("__debug__" : Str)) = false := by decide) (he : starEach (e :: es) X.env = (false, eval e X.env) :: starEach es X.env := by rfl) (hpl : (backTo pos (starEach es X.env)).any (·.1) = false := by rfl) :
    PE X (.Call (.Name c p) (e :: es) [] pos) (tMake (He.ga X.K c) (spInitX X.K c n m) [] E t) := by
  obtain ⟨f, fd, ps, M, F, b⟩ := cc.ex
  exact pe_make M F hr hg cc.g b .nil hx ha hdb he hpl
theorem mak_ofX {P : Program} {w : World} {K : PySem.W.Frag} {mg : Str → Option Value} {base : Heap} {c q : Str} {fa : Addr} {st : Stmt} {N ps : List Str} {n k j : Nat} {f : MS}
    (M : Mk K (He.ga K c) fa) (F : ∃ fd, FunD K "__init__" q (defArgs st) (defBody st) (defScope st) [] [] fa fd) (g : mg c = some (.ref (He.ga K c))) (S : FnScope N ps (defScope st)) (hn : ps.length = n + 1) (hN : N.length = n + 1 + j)
    (hb : ∀ (cdv : Value) (A : Around) (outer : List Env) (s : Shared) (H : Hp) (E : XK), Room k (A.deeper (PyProof.Rows.envOfC q (defScope st) s.heap.objs.size fa cdv)) →
      ∃ t, PSs (cxOf (L2.CX P w) P w K mg base N q (defScope st) fa cdv A outer s H E) (defBody st) t ∧ ∀ C : Ctx, C.K = K → (∀ x, C.W x → XAt C.K C.a C.Hs0 C.H0 E x) → DS C t f)
    (bd : ∀ (kV doc pm : Value) (an : Option Addr) (cdv ct : Value) (us : List Value), us.length = ps.length → bindArgs (PySem.W.fnOf "__init__" q (defArgs st) (defBody st) (defScope st) .none kV doc pm an cdv ct) ⟨us, []⟩ = pure (ps.zip us)) :
    MakX P w K mg base (k + 1) c n (mInit c j f) := by
  obtain ⟨fd, F⟩ := F
  refine ⟨⟨fa, fd, ps, M, F.ok S (fun vs H Q E h => ?_) (fun cdv A outer s H vs Q E hr h => ?_), F.bindsN bd⟩, g⟩
  · obtain ⟨a, Hs, H1, x, dx, us, ds, q, qe, rfl, hl, _⟩ := h
    rw [List.length_cons, hl, hn]
  · obtain ⟨t, h1, h2⟩ := hb cdv A outer s H E hr
    exact ⟨t, h1, init_okX hN h2 h⟩
/-- as dsK -/
theorem dsKX {K : PySem.W.Frag} {t : TS} {f : MS} {E : XK} (h : ∀ (a : Hd) (h0 hs0 : Hp) (W : EX → Prop), (∀ x, W x → XAt K a hs0 h0 E x) → DS ⟨K, a, h0, hs0, W⟩ t f) (C : Ctx) (hK : C.K = K) (hW : ∀ x, C.W x → XAt C.K C.a C.Hs0 C.H0 E x) : DS C t f := by
  subst hK
  exact h C.a C.H0 C.Hs0 C.W hW
end Fd
namespace Fd
open PySem PySem.Spec L2
section
variable {C : Ctx}
/-- a call of a def that raises nothing, from a def that may -/
theorem dt_call0 {n : Nat} {m : M} {t : TA} {g : MA} (h : DAn C n t g) : DT C (tCall (spOf C.K n m) [] E0 t) (eCallN m g) := by
  refine ⟨fun Hs ρ σ H q qe Q l r w k => ?_⟩
  refine h.run Hs ρ σ H _ _ _ l r w fun ds vs Hs1 H1 w1 g1 r1 p1 hl => ?_
  rw [List.append_nil]
  refine ⟨C.a, Hs1, ds, q, hl, r1.sh, r1.hd, p1, w1, fun d v Hs2 H2 e g2 s2 h2 p2 => ?_⟩
  exact k d v Hs2 H2 e (g1.trans g2) (r1.grow g2 s2 h2) p2
theorem repF_w {K : PySem.W.Frag} {a : Hd} {Hs : Hp} {g m : Str} : RepF K a Hs [(g, .str m)] [(g, V.str m)] := .cons (.str _) .nil
theorem repF_1 {K : PySem.W.Frag} {a : Hd} {Hs : Hp} {h g m : Str} {ds : List D} {vs : List V} (r : RepL K a Hs ds vs) (hl : ds.length = 1) : RepF K a Hs (ds.map (fun d => (h, d)) ++ [(g, .str m)]) (vs.map (fun v => (h, v)) ++ [(g, V.str m)]) := by
  cases r with
  | nil => cases hl
  | cons p q =>
    cases q with
    | nil => exact .cons p (.cons (.str _) .nil)
    | cons _ _ => simp at hl
end
end Fd
/-! sorted of ints -/
namespace Fd
open PySem PySem.Spec L2
/-- the sorted one of them -/
def dSorted : OF := fun xs q => match xs with
  | [.lst ys] => (match D.ints ys with
    | some ns => ∀ ns' : List Int, ns'.Perm ns → ns'.Pairwise (· ≤ ·) → q (ns'.map D.int)
    | none => False)
  | _ => False
theorem dcf_sorted {C : Ctx} : DCF C (rSortedI C.K) dSorted := by
  refine ⟨fun Hs ρ σ H xs vs q Q r p w k => ?_⟩
  unfold dSorted at w
  split at w
  · obtain ⟨v, rfl, h⟩ := repBL1 p
    obtain ⟨a, us, rfl, h1, h2⟩ := h.lst r.sh
    split at w
    · rename_i ns e
      have e2 := ints_eq e
      subst e2
      have e3 := h2.ints
      subst e3
      exact ⟨a, ns, rfl, SqL.of h1, fun ns' b hp hs hb => k _ b _ Hs H (w ns' hp hs) Gr.refl r hb (RepL.ofInts ns')⟩
    · exact w.elim
  · exact w.elim
/-- there is just one -/
theorem sorted_one : ∀ {xs ys : List Int}, xs.Perm ys → xs.Pairwise (· ≤ ·) → ys.Pairwise (· ≤ ·) → xs = ys := fun {xs ys} hp hx hy => hp.eq_of_pairwise (fun a b _ _ h1 h2 => Int.le_antisymm h1 h2) hx hy
end Fd
/-! ### xs.index(k), of ints -/
namespace Fd
open PySem PySem.Spec L2
def dIndex : O2 := fun x y q => match x, y with
  | .lst ys, .int k => (match D.ints ys with
    | some ns => k ∈ ns ∧ q (.int (ns.idxOf k : Nat))
    | none => False)
  | _, _ => False
theorem index_at : ∀ {ns : List Int} {k : Int}, k ∈ ns → ns[ns.idxOf k]? = some k ∧ ∀ m : Nat, m < ns.idxOf k → ns[m]? ≠ some k
  | [], _, h => by cases h
  | n :: ns, k, h => by
    by_cases e : n = k
    · subst e
      rw [List.idxOf_cons_self]
      exact ⟨rfl, fun m hm => absurd hm (Nat.not_lt_zero _)⟩
    · have h2 : k ∈ ns := by
        rcases List.mem_cons.mp h with h | h
        · exact absurd h.symm e
        · exact h
      obtain ⟨h3, h4⟩ := index_at h2
      have e3 : (n :: ns).idxOf k = ns.idxOf k + 1 := by
        rw [List.idxOf_cons]
        have : (n == k) = false := by simpa using e
        rw [this]
        rfl
      rw [e3]
      refine ⟨by simpa using h3, fun m hm q => ?_⟩
      cases m with
      | zero => exact e (Option.some.inj q)
      | succ m => exact h4 m (Nat.lt_of_succ_lt_succ hm) (by simpa using q)
def eIndex (f g : ME) : ME := fun ρ q qe => f ρ (fun x => match x with
  | .lst ys => g ρ (fun y => dIndex (.lst ys) y q) qe
  | _ => False) qe
theorem dt_index {C : Ctx} {tx ty : TE} {f g : ME} (h : DB C tx f) (h' : DT C ty g) : DT C (tBM C.K "list" (rIndex C.K) tx (tCons ty tNil)) (eIndex f g) := by
  refine ⟨fun Hs ρ σ H q qe Q l r w k => ?_⟩
  refine h.run Hs ρ σ H _ qe _ l r w fun d v Hs1 H1 w1 g1 r1 p1 => ?_
  split at w1
  · rename_i ys
    obtain ⟨a, us, rfl, h1, h2⟩ := p1.lst r1.sh
    refine ⟨.inl ⟨rfl, _, SqL.of h1⟩, h'.run Hs1 ρ σ H1 _ qe _ l r1 w1 fun e u Hs2 H2 w2 g2 r2 p2 => ?_⟩
    unfold dIndex at w2
    split at w2
    · rename_i ys' kk eq
      cases eq
      split at w2
      · rename_i ns en
        obtain ⟨a', us', ev, h1', h2'⟩ := (p1.mono g2.s g2.b).lst r2.sh
        cases ev
        have e2 := ints_eq en
        subst e2
        obtain rfl := h2'.ints
        cases p2
        obtain ⟨j1, j2⟩ := index_at w2.1
        refine ⟨a, _, .int kk, ns.idxOf kk, .int kk, rfl, rfl, SqL.of h1', rfl, List.all_eq_true.mpr (fun x hx => by obtain ⟨n, _, rfl⟩ := List.mem_map.mp hx; rfl), by rw [List.getElem?_map, j1]; rfl, beq_self_eq_true kk, fun m z hm hz => ?_, k _ _ Hs2 H2 w2.2 (g1.trans g2) r2 (.int _)⟩
        rw [List.getElem?_map] at hz
        cases e : ns[m]? with
        | none => rw [e] at hz; cases hz
        | some n =>
          rw [e] at hz
          cases hz
          have := j2 m hm
          rw [e] at this
          show (n == kk) = false
          simpa using fun z => this (congrArg some z)
      · exact w2.elim
    · exact w2.elim
  · exact w1.elim
end Fd
/-! lambdas handed to a def that calls them in a try -/
namespace Fd
open PySem PySem.Spec PyProof.Rows L2
/-- an entry that may be read alone -/
def En.weak : En → En
  | .ol ds => .rl ds
  | .oh _ ds => .rl ds
  | .od kvs => .rd kvs
  | .odl _ _ _ _ => .no
  | .oo _ _ _ _ => .no
  | e => e
theorem En.weak_own (e : En) : e.weak.own = false := by cases e <;> rfl
theorem RS.weak {C : Ctx} {Hs H : Hp} {ρ : List En} {σ : L2.St} (W : EX → Prop) (r : RS C Hs ρ σ H) : RS ⟨C.K, C.a, H, Hs, W⟩ Hs (ρ.map En.weak) σ H where
  len := by rw [List.length_map]; exact r.len
  fr := SB.refl
  sh := r.sh
  sh0 := Same.refl _
  new := fun b o h => .inl h
  hd := r.hd
  hd0 := fun x e => by
    obtain ⟨_, c, i, b, z, n, cells, h1, _⟩ := r.hd.at_ x e
    exact fun q => q.not h1 fun _ q => by cases q
  en := fun i e he => by
    rw [List.getElem?_map] at he
    cases h : ρ[i]? with
    | none => rw [h] at he; cases he
    | some e0 =>
      rw [h] at he
      cases he
      have q := r.en i e0 h
      cases e0 with
      | no => trivial
      | sh d => exact q
      | ol ds =>
        obtain ⟨p, vs, ev, h1, h2, h3, h4, h5⟩ := q
        exact ⟨p, vs, ev, h1, h2, h5, fun z => z.not h1 fun _ z => by cases z⟩
      | oh p ds =>
        obtain ⟨vs, ev, h1, h2, h3, h4, h5⟩ := q
        exact ⟨p, vs, ev, h1, h2, h5, fun z => z.not h1 fun _ z => by cases z⟩
      | od ds =>
        obtain ⟨p, vs, ev, h1, h2, h3, h4, h5⟩ := q
        exact ⟨p, vs, ev, h1, h2, h5, fun z => z.not h1 fun _ z => by cases z⟩
      | odl p ob vs ds => trivial
      | oo c p dx fs => trivial
      | rl ds =>
        obtain ⟨p, vs, ev, h1, h2, h5, h6⟩ := q
        exact ⟨p, vs, ev, h1, h2, h5, fun z => z.not h1 fun _ z => by cases z⟩
      | rd ds =>
        obtain ⟨p, vs, ev, h1, h2, h5, h6⟩ := q
        exact ⟨p, vs, ev, h1, h2, h5, fun z => z.not h1 fun _ z => by cases z⟩
      | xc x p cls d => exact q
      | clo p => exact q
  sep := fun i j p e e' hij he he' o o' hs hs' => by
    rw [List.getElem?_map] at he
    cases h : ρ[i]? with
    | none => rw [h] at he; cases he
    | some e0 =>
      rw [h] at he
      cases he
      rw [En.weak_own] at o
      cases o
/-- nothing is known of the slots -/
theorem rs_none {C : Ctx} {Hs H : Hp} {σ : L2.St} (g : Gr C.a C.Hs0 C.H0 Hs H) (s : Same Hs H) (hd : HandOk C.a Hs H) (hd0 : ∀ x, C.a.p = some x → ¬ Fre C.H0 x) : RS C Hs (List.replicate σ.length .no) σ H where
  len := by rw [List.length_replicate]
  fr := g.b
  sh := s
  sh0 := g.s
  new := fun b o h => by
    rcases g.n b o h with z | z
    · exact .inl z
    · exact .inr z.1
  hd := hd
  hd0 := hd0
  en := fun i e he => by
    rw [List.getElem?_replicate] at he
    split at he
    · cases he; trivial
    · cases he
  sep := fun i j p e e' hij he he' o o' hs hs' => by
    rw [List.getElem?_replicate] at he
    split at he
    · cases he; cases o
    · cases he
theorem RS.forget {C : Ctx} {Hs H : Hp} {ρ : List En} {σ : L2.St} (r : RS C Hs ρ σ H) (i : Nat) (s : Option V) : RS C Hs (ρ.set i .no) (σ.set i s) H where
  len := by rw [List.length_set, List.length_set, r.len]
  fr := r.fr
  sh := r.sh
  sh0 := r.sh0
  new := r.new
  hd := r.hd
  hd0 := r.hd0
  en := fun j e he => by
    by_cases z : i = j
    · subst z
      have hl : i < ρ.length := by
        have := (List.getElem?_eq_some_iff.mp he).1
        rwa [List.length_set] at this
      rw [List.getElem?_set_self hl] at he
      cases he
      trivial
    · rw [List.getElem?_set_ne z] at he
      rw [List.getElem?_set_ne z]
      exact r.en j e he
  sep := fun j k q e1 e2 hjk h1 h2 o1 o2 s1 s2 => by
    have no : ∀ {m : Nat} {e : En}, (ρ.set i .no)[m]? = some e → e.own = true → m ≠ i := fun {m e} h o z => by
      subst z
      have hl : m < ρ.length := by
        have := (List.getElem?_eq_some_iff.mp h).1
        rwa [List.length_set] at this
      rw [List.getElem?_set_self hl] at h
      cases h
      cases o
    have n1 := no h1 o1
    have n2 := no h2 o2
    rw [List.getElem?_set_ne (Ne.symm n1)] at h1 s1
    rw [List.getElem?_set_ne (Ne.symm n2)] at h2 s2
    exact r.sep j k q e1 e2 hjk h1 h2 o1 o2 s1 s2
/-- a slot that holds a caught exception -/
theorem RS.caught {C : Ctx} {Hs H : Hp} {ρ : List En} {σ : L2.St} (r : RS C Hs ρ σ H) (i : Nat) {p : Addr} {e : En} (ho : e.own = false) (he : EnOk C Hs H e (some (some (.ref p)))) : RS C Hs (ρ.set i e) (σ.set i (some (.ref p))) H where
  len := by rw [List.length_set, List.length_set, r.len]
  fr := r.fr
  sh := r.sh
  sh0 := r.sh0
  new := r.new
  hd := r.hd
  hd0 := r.hd0
  en := fun j e' hj => by
    by_cases z : i = j
    · subst z
      have hl : i < ρ.length := by
        have := (List.getElem?_eq_some_iff.mp hj).1
        rwa [List.length_set] at this
      rw [List.getElem?_set_self hl] at hj
      cases hj
      rw [List.getElem?_set_self (by rw [← r.len]; exact hl)]
      exact he
    · rw [List.getElem?_set_ne z] at hj
      rw [List.getElem?_set_ne z]
      exact r.en j e' hj
  sep := fun j k q e1 e2 hjk h1 h2 o1 o2 s1 s2 => by
    have no : ∀ {m : Nat} {e' : En}, (ρ.set i e)[m]? = some e' → e'.own = true → m ≠ i := fun {m e'} h o z => by
      subst z
      have hl : m < ρ.length := by
        have := (List.getElem?_eq_some_iff.mp h).1
        rwa [List.length_set] at this
      rw [List.getElem?_set_self hl] at h
      cases h
      rw [ho] at o
      cases o
    have n1 := no h1 o1
    have n2 := no h2 o2
    rw [List.getElem?_set_ne (Ne.symm n1)] at h1 s1
    rw [List.getElem?_set_ne (Ne.symm n2)] at h2 s2
    exact r.sep j k q e1 e2 hjk h1 h2 o1 o2 s1 s2
/-! ### what is called later -/
abbrev Th := (D → Prop) → QE → Prop
/-- tl, called behind (Hs, H), does what th says -/
def ThS (K : PySem.W.Frag) (a : Hd) (Hs H : Hp) (tl : XK → Hp → VK → Prop) (th : Th) : Prop :=
  ∀ (Hs1 H1 : Hp) (E : XK) (q : D → Prop) (qe : QE) (Q : VK), Gr a Hs H Hs1 H1 → Same Hs1 H1 → HandOk a Hs1 H1 → th q qe → (∀ x, qe x → XAt K a Hs1 H1 E x) →
    (∀ d v Hs2 H2, q d → Gr a Hs1 H1 Hs2 H2 → Same Hs2 H2 → HandOk a Hs2 H2 → Rep K a Hs2 d v → Q v H2) → tl E H1 Q
/-- the promise of a def that is handed a lambda -/
def TTof (K : PySem.W.Frag) (mw : Th → (D → Prop) → Prop) : (XK → Hp → VK → Prop) → Hp → VK → Prop := fun tl H Q =>
  ∃ (a : Hd) (Hs : Hp) (th : Th) (q : D → Prop), Same Hs H ∧ HandOk a Hs H ∧ ThS K a Hs H tl th ∧ mw th q ∧ ∀ d v Hs' H', q d → Gr a Hs H Hs' H' → Same Hs' H' → HandOk a Hs' H' → Rep K a Hs' d v → Q v H'
/-- x(lambda: f) -/
def eLam (mw : Th → (D → Prop) → Prop) (f : ME) : ME := fun ρ q _ => mw (fun q' qe' => f (ρ.map En.weak) q' qe') q
theorem dt_lam {C : Ctx} {T : List (Addr × Str)} {t : XK → TE} {mw : Th → (D → Prop) → Prop} {f : ME} (hT : LamX.Tabs C.a.T C.H0) (hTT : C.a.T = T)
    (body : ∀ (E : XK) (a : Hd) (h0 hs0 : Hp) (W : EX → Prop), (∀ x, W x → XAt C.K a hs0 h0 E x) → DT ⟨C.K, a, h0, hs0, W⟩ (t E) f) : DT C (LamX.tLam T (TTof C.K mw) t) (eLam mw f) := by
  subst hTT
  refine ⟨fun Hs ρ σ H q qe Q l r w k => ⟨r.fr.t hT, fun H1 eN T1 => ?_⟩⟩
  have nt : ∀ {b : Addr} {o : HO}, Hs b = some o → ∀ ps, o ≠ .tbl ps := fun {b o} h ps e => r.hd.nt b ps (by rw [h, e])
  have s1 : Same Hs H1 := fun b o h => eN b o (r.sh b o h) (nt h)
  have g1 : Gr C.a Hs H Hs H1 := ⟨Same.refl _, ⟨fun b o _ h n => eN b o h n, fun _ => T1⟩, fun _ _ h => .inl h⟩
  have h1 : HandOk C.a Hs H1 := ⟨r.hd.nt, fun x e => by
    obtain ⟨z, c, i, b, s, n, cells, a1, a2, a3⟩ := r.hd.at_ x e
    exact ⟨z, c, i, b, s, n, cells, eN _ _ a1 (fun _ z => by cases z), a2, a3⟩⟩
  have r1 := r.grow g1 s1 h1
  refine ⟨C.a, Hs, fun q' qe' => f (ρ.map En.weak) q' qe', q, s1, h1, fun Hs2 H2 E q' qe' Q' g2 s2 h2 w2 hx kk => ?_, w, fun d v Hs2 H2 hq g2 s2 h2 p2 => k d v Hs2 H2 hq (g1.trans g2) (r1.grow g2 s2 h2) p2⟩
  have r2 := r1.grow g2 s2 h2
  refine (body E C.a H2 Hs2 qe' hx).run Hs2 (ρ.map En.weak) σ H2 q' qe' Q' (fun _ z => z) (r2.weak qe') w2 fun d v Hs3 H3 e g3 r3 p3 => ?_
  exact kk d v Hs3 H3 e g3 r3.sh r3.hd p3
end Fd
namespace Fd
open PySem PySem.Spec PyProof.Rows L2
/-! ### the try around the call -/
def unset (i : Nat) (sq : SQ) : SQ := ⟨fun ρ => sq.nx (ρ.set i .no), sq.rt, fun ρ => sq.bk (ρ.set i .no), fun ρ => sq.ct (ρ.set i .no)⟩
/-- try: call() / except DealError as e: suite; p: the call's slot 0, n slots -/
def sTryTh (XS : List Str) (n : Nat) (p : Addr) (th : Th) (i : Nat) (suite : Addr → Value → Option Addr → MS) : MS := fun ρ sq qe =>
  ρ.length = n ∧ ρ[0]? = some (.clo p) ∧ th (fun _ => sq.nx ρ) (fun x => x.1 ∈ XS ∧ ∀ a cls d, suite a cls d ((List.replicate n .no).set i (.xc x a cls d)) (unset i sq) qe)
/-- the except clause takes these -/
def Cats (K : PySem.W.Frag) (CS : Value) (XS : List Str) : Prop := ∀ c ∈ XS, PySem.W.exmOne K (.ref (He.ga K c)) CS = some true
def tTryTh (K : PySem.W.Frag) (CS : Value) (n i : Nat) (f c' : Addr) (q : Str) (tl : XK → Hp → VK → Prop) (ts : Addr → Value → Option Addr → TS) : TS := fun D σ H =>
  ∃ Ech : XK, (∀ cls d σ' H', σ'.length = n → Ech cls d H' → wAs K CS i ts (fun _ _ _ _ => False) D cls d σ' H') ∧ σ[0]? = some (some (.ref f)) ∧ H c' = some (LamX.CodeO c' q) ∧ tl Ech H (fun _ H' => D.nx σ H')
theorem ds_tryTh {C : Ctx} {XS : List Str} {CS : Value} {n i : Nat} {f c' : Addr} {q : Str} {tl : XK → Hp → VK → Prop} {th : Th} {ts : Addr → Value → Option Addr → TS} {suite : Addr → Value → Option Addr → MS}
    (hc : Cats C.K CS XS) (h0 : C.H0 c' = some (LamX.CodeO c' q)) (hna : C.a.p ≠ some c') (ht : ThS C.K C.a C.Hs0 C.H0 tl th) (hs : ∀ a cls d, DS C (ts a cls d) (suite a cls d)) :
    DS C (tTryTh C.K CS n i f c' q tl ts) (sTryTh XS n f th i suite) := by
  refine ⟨fun Hs ρ σ H sq qe D l r w k => ?_⟩
  obtain ⟨wn, w0, w1⟩ := w
  have hf : σ[0]? = some (some (.ref f)) := r.en 0 _ w0
  have hcc : H c' = some (LamX.CodeO c' q) := r.fr.k _ _ hna h0 LamX.codeO_ne
  refine ⟨fun cls d H' => ∀ σ', σ'.length = n → wAs C.K CS i ts (fun _ _ _ _ => False) D cls d σ' H', fun cls d σ' H' hl h => h σ' hl, hf, hcc, ?_⟩
  refine ht Hs H _ _ _ _ r.gr0 r.sh r.hd w1 (fun x hx => ?_) fun d v Hs2 H2 hq g2 s2 h2 p2 => k.nx ρ σ Hs2 H2 hq g2.s (r.grow g2 s2 h2)
  obtain ⟨hX, hsu⟩ := hx
  intro Hs2 H2 dx vs g2 s2 hd2 hdx rf σ' hl
  refine ⟨true, hc _ hX, fun _ a ha => ?_, fun z => by cases z⟩
  have r2 : RS C Hs2 (List.replicate σ'.length .no) σ' H2 := rs_none (r.gr0.trans g2) s2 hd2 r.hd0
  have r3 := r2.side (o := .xd vs) hdx
  have r4 := r3.caught i (p := a) (e := .xc x a (.ref (He.ga C.K x.1)) (some dx)) rfl ⟨rfl, rfl, dx, vs, rfl, upd_same, rf, r2.fresh_a hdx⟩
  have w2 := hsu a (.ref (He.ga C.K x.1)) (some dx)
  rw [← hl] at w2
  exact (hs a _ _).run Hs2 _ _ _ (unset i sq) qe _ l r4 w2 ⟨fun ρ3 σ3 Hs3 H3 q3 s3 r5 => k.nx _ _ Hs3 H3 q3 (g2.s.trans s3) (r5.forget i none), fun d v ρ3 σ3 Hs3 H3 q3 s3 r5 p5 => k.rt d v ρ3 σ3 Hs3 H3 q3 (g2.s.trans s3) r5 p5,
    fun ρ3 σ3 Hs3 H3 q3 s3 r5 => k.bk _ _ Hs3 H3 q3 (g2.s.trans s3) (r5.forget i none), fun ρ3 σ3 Hs3 H3 q3 s3 r5 => k.ct _ _ Hs3 H3 q3 (g2.s.trans s3) (r5.forget i none)⟩
theorem takes_len {X : Cx} {W : WX} (tk : Takes X W) : Takes X (fun cls d σ H => σ.length = X.N.length → W cls d σ H) := fun u s' ⟨a, B, sI, pins, σ, H, cls, d, e, I, nb, up, sky, na, os, ag, w⟩ =>
  tk u s' ⟨a, B, sI, pins, σ, H, cls, d, e, I, nb, up, sky, na, os, ag, w I.len⟩
/-- the call's rule, as a lambda's def has it -/
abbrev ActOf (Z : Cx) (a : Str) (f c' : Addr) (q : Str) (tl : XK → Hp → VK → Prop) : Prop := ∀ (W : WX) (pn : List (Addr × Obj)) (xe : Value → Shared → Prop) (E : XK) (p1 p2 : Pos), Takes (Z.tr pn xe) W → (∀ cls d σ' H', E cls d H' → W cls d σ' H') →
  PE (Z.tr pn xe) (.Call (.Name a p1) [] [] p2) (fun σZ HZ Q => σZ[0]? = some (some (.ref f)) ∧ HZ c' = some (LamX.CodeO c' q) ∧ tl E HZ Q)
/-- the reading that a functional one makes -/
def tOf (K : PySem.W.Frag) (f : MS) : TS := fun D σ H => ∃ (C : Ctx) (Hs : Hp) (ρ : List En) (sq : SQ) (qe : QE), C.K = K ∧ (∀ x, qe x → C.W x) ∧ RS C Hs ρ σ H ∧ f ρ sq qe ∧ SL C Hs sq D
theorem ds_tOf {C : Ctx} {f : MS} : DS C (tOf C.K f) f := ⟨fun Hs ρ σ H sq qe E l r w k => ⟨C, Hs, ρ, sq, qe, rfl, l, r, w, k⟩⟩
theorem pss_tOf {X : Cx} {body : List Stmt} {f : MS} {K : PySem.W.Frag} (h : ∃ t, PSs X body t ∧ ∀ C : Ctx, C.K = K → DS C t f) : PSs X body (tOf K f) := by
  obtain ⟨t, h1, h2⟩ := h
  refine ⟨fun pins s σ H D I w => ?_⟩
  obtain ⟨C, Hs, ρ, sq, qe, e, l, r, w, k⟩ := w
  exact h1.run pins s σ H D I ((h2 C e).run Hs ρ σ H sq qe D l r w k)
theorem ps_tryTh {Z : Cx} {a x y : Str} {c : Value} {i : Nat} {f c' : Addr} {q : Str} {tl : XK → Hp → VK → Prop} {fs : Addr → Value → Option Addr → MS} {b₀ : Stmt} {suite : List Stmt} {p1 p2 p3 np pos pos' : Pos}
    (act : ActOf Z a f c' q tl) (hs : Z.stack = Z.env :: Z.outer) (hf : Z.env.frame = some Z.env.locals) (hN : Z.N.Nodup) (hi : Z.N[i]? = some y) (hln : Z.env.kindOf y = some .local) (hc : Names Z x c)
    (hsu : ∀ (a : Addr) (oe : Obj) (cls : Value) (d : Option Addr) (pn : List (Addr × Obj)), Zc cls d oe → (∃ vs, oe.data = .fields vs) → ∃ t, PSs (Z.suite a ((a, oe) :: pn)) (b₀ :: suite) t ∧ ∀ C : Ctx, C.K = Z.K → DS C t (fs a cls d)) :
    PS Z (.Try [.Expr (.Call (.Name a p1) [] [] p2) p3] [.ExceptHandler (some (.Name x np)) (some y) (b₀ :: suite) pos'] [] [] pos) (tTryTh Z.K c Z.N.length i f c' q tl fun a cls d => tOf Z.K (fs a cls d)) := by
  refine ps_try_as (Wout := fun _ _ _ _ => False) (tb := fun W D σ H => ∃ Ech : XK, (∀ cls d σ' H', σ'.length = Z.N.length → Ech cls d H' → W cls d σ' H') ∧ σ[0]? = some (some (.ref f)) ∧ H c' = some (LamX.CodeO c' q) ∧ tl Ech H (fun _ H' => D.nx σ H'))
    hs hf hN hi hln hc LamX.takes0 (fun W pn xe tk _ => ?_) (fun a oe cls d pn hz hf => pss_tOf (hsu a oe cls d pn hz hf))
  refine ⟨fun pins s' σ H' D I h' => ?_⟩
  obtain ⟨Ech, hW, h1, h2, h3⟩ := h'
  have hp := act _ pn xe Ech p1 p2 (takes_len tk) (fun cls d σ' H'' e hl => hW cls d σ' H'' hl e)
  exact (pss_one (ps_expr (pos := p3) hp)).run pins s' σ H' D I ⟨h1, h2, h3⟩
/-! ### the def that is handed the lambda -/
def mWord (j : Nat) (fw : Addr → Th → MS) : Th → (D → Prop) → Prop := fun th q => ∀ p, fw p th (.clo p :: List.replicate j .no) ⟨fun _ => q .non, fun _ d => q d, fun _ => False, fun _ => False⟩ (fun _ => False)
/-- as LamX.GivesTo, by the context's parts -/
abbrev GivesC (P : Program) (w : World) (K : PySem.W.Frag) (mg : Str → Option Value) (base : Heap) (A : Around) (stack : List Env) (Ng : List Str) (x : Str) (sg : Scope) (g : Addr) (cdg : Value) (bg : List Stmt) (a : Str) (q : Str) (TT : (XK → Hp → VK → Prop) → Hp → VK → Prop) : Prop :=
  ∀ (f c' : Addr) (s : Shared) (H : Hp) (Q : VK) (tl : XK → Hp → VK → Prop), ActOf (cxOf C8.CX0 P w K mg base Ng x sg g cdg A stack s H C8.E0) a f c' q tl → H c' = some (LamX.CodeO c' q) → TT tl H Q →
    ∃ t, PSs (cxOf C8.CX0 P w K mg base Ng x sg g cdg A stack s H C8.E0).nox bg t ∧ t { nx := fun _ H' => Q .non H', rt := Q } (L2.start Ng [.ref f]) H
theorem gives_of {P : Program} {w : World} {K : PySem.W.Frag} {mg : Str → Option Value} {base : Heap} {A : Around} {stack : List Env} {Ng : List Str} {x a q : Str} {sg : Scope} {g : Addr} {cdg : Value} {bg : List Stmt} {j : Nat} {fw : Addr → Th → MS} (hN : Ng.length = 1 + j) (hr0 : Room 1 A)
    (hb : ∀ (f c' : Addr) (s : Shared) (H : Hp) (tl : XK → Hp → VK → Prop), Room 0 (A.deeper (envOfC x sg s.heap.objs.size g cdg)) → ActOf (cxOf C8.CX0 P w K mg base Ng x sg g cdg A stack s H C8.E0).nox a f c' q tl →
      ∃ t, PSs (cxOf C8.CX0 P w K mg base Ng x sg g cdg A stack s H C8.E0).nox bg t ∧
        ∀ (C : Ctx) (th : Th), C.K = K → (∀ x, ¬ C.W x) → C.H0 c' = some (LamX.CodeO c' q) → C.a.p ≠ some c' → ThS C.K C.a C.Hs0 C.H0 tl th → DS C t (fw f th)) :
    GivesC P w K mg base A stack Ng x sg g cdg bg a q (TTof K (mWord j fw)) := by
  intro f c' s H Q tl act hc h
  obtain ⟨aH, Hs, th, qq, s1, hd, ht, w, kk⟩ := h
  obtain ⟨t, ht1, ht2⟩ := hb f c' s H tl (hr0.deeper _) act
  refine ⟨t, ht1, ?_⟩
  have hd0 : ∀ x, aH.p = some x → ¬ Fre H x := fun x e => by
    obtain ⟨_, c, i, b, z, n, cells, h1, _⟩ := hd.at_ x e
    exact fun q => q.not h1 fun _ q => by cases q
  have hna : aH.p ≠ some c' := fun e => by
    obtain ⟨_, c, i, b, z, n, cells, h1, _⟩ := hd.at_ c' e
    rw [hc] at h1
    cases h1
  have est : L2.start Ng [V.ref f] = some (.ref f) :: List.replicate j none := by
    unfold L2.start
    rw [hN, show 1 + j - [V.ref f].length = j by show 1 + j - 1 = j; omega]
    rfl
  have r0 : RS ⟨K, aH, H, Hs, fun _ => False⟩ Hs (List.replicate (L2.start Ng [V.ref f]).length .no) (L2.start Ng [V.ref f]) H := rs_none (Gr.refl) s1 hd hd0
  have r1 := r0.caught 0 (p := f) (e := .clo f) rfl rfl
  rw [est] at r1 ⊢
  have e2 : (List.replicate (some (V.ref f) :: List.replicate j none).length En.no).set 0 (.clo f) = .clo f :: List.replicate j .no := by
    rw [List.length_cons, List.length_replicate, List.replicate_succ]
    rfl
  rw [e2] at r1
  exact (ht2 ⟨K, aH, H, Hs, fun _ => False⟩ th rfl (fun _ z => z) hc hna ht).run Hs _ _ H ⟨fun _ => qq .non, fun _ d => qq d, fun _ => False, fun _ => False⟩ (fun _ => False) _ (fun _ z => z) r1 (w f)
    ⟨fun ρ' σ' Hs' H' w' s' r' => kk .non .non Hs' H' w' r'.gr0 r'.sh r'.hd .non, fun d v ρ' σ' Hs' H' w' s' r' p' => kk d v Hs' H' w' r'.gr0 r'.sh r'.hd p', fun _ _ _ _ z => z.elim, fun _ _ _ _ z => z.elim⟩
/-- an expression's reading that a functional one makes -/
def tOfE (K : PySem.W.Frag) (f : ME) (E : XK) : TE := fun σ H Q => ∃ (C : Ctx) (Hs : Hp) (ρ : List En) (q : D → Prop) (qe : QE), C.K = K ∧ (∀ x, C.W x → XAt C.K C.a C.Hs0 C.H0 E x) ∧ (∀ x, qe x → C.W x) ∧ RS C Hs ρ σ H ∧ f ρ q qe ∧
  ∀ d v Hs' H', q d → Gr C.a Hs H Hs' H' → RS C Hs' ρ σ H' → Rep C.K C.a Hs' d v → Q v H'
theorem dt_tOfE {C : Ctx} {f : ME} {E : XK} (hE : ∀ x, C.W x → XAt C.K C.a C.Hs0 C.H0 E x) : DT C (tOfE C.K f E) f := ⟨fun Hs ρ σ H q qe Q l r w k => ⟨C, Hs, ρ, q, qe, rfl, hE, l, r, w, k⟩⟩
theorem pe_tOfE {X : Cx} {e : Expr} {f : ME} {K : PySem.W.Frag} {E : XK} (h : ∃ t, PE X e t ∧ ∀ (a : Hd) (h0 hs0 : Hp) (W : EX → Prop), (∀ x, W x → XAt K a hs0 h0 E x) → DT ⟨K, a, h0, hs0, W⟩ t f) : PE X e (tOfE K f E) := by
  obtain ⟨t, h1, h2⟩ := h
  refine ⟨fun pins s σ H Q I w => ?_⟩
  obtain ⟨C, Hs, ρ, q, qe, e, hE, l, r, w, k⟩ := w
  subst e
  exact h1.run pins s σ H Q I ((h2 C.a C.H0 C.Hs0 C.W hE).run Hs ρ σ H q qe Q l r w k)
/-- x(lambda: body), by the def's facts -/
theorem pe_word {X : Cx} {T : List (Addr × Str)} {mw : Th → (D → Prop) → Prop} {x a : Str} {st : Stmt} {Ng : List Str} {c P : Addr} {k : Nat} {params : Arguments} {body : Expr} {scope : Scope} {f : ME} {p lpos pos : Pos}
    (F : ∃ fd, FunD X.K x x (defArgs st) (defBody st) (defScope st) [] [] (He.ga X.K x) fd) (hm : X.mg x = some (.ref (He.ga X.K x))) (hg : Gl X x) (Sg : FnScope Ng [a] (defScope st)) (hNg : Ng[0]? = some a) (hva : Vis (defScope st) a)
    (bd : ∀ (kV doc pm : Value) (an : Option Addr) (cdv ct : Value) (us : List Value), us.length = 1 → bindArgs (PySem.W.fnOf x x (defArgs st) (defBody st) (defScope st) .none kV doc pm an cdv ct) ⟨us, []⟩ = pure (([a] : List Str).zip us))
    (hG : ∀ cdv, GivesC X.prog X.w X.K X.mg X.base X.A X.stack Ng x (defScope st) (He.ga X.K x) cdv (defBody st) a (X.env.qual ++ "<lambda>") (TTof X.K mw))
    (TB : LamX.TabB X.base X.mg c P) (hcode : X.env.code = .ref c) (hmT : (P, X.env.qual ++ "<lambda>") ∈ T) (hu : ∀ p ∈ T, p.1 = P → p.2 = X.env.qual ++ "<lambda>") (hr : Room (k + 2) X.A) (L : LamX.LamS X.env.scope scope) (hdef : defaultsOf params X.env = ([], []))
    (hbind : ∀ (q : Str) (cl : List (Str × Addr)) (pm cv ctv : Value), bindArgs (PySem.W.kla_fn "<lambda>" q params body scope cl pm cv ctv) ⟨[], []⟩ = pure [])
    (hbody : ∀ (A : Around) (outer : List Env) (s : Shared) (H : Hp) (E : XK) (f' c' : Addr), Room k (A.deeper (LamX.lamEnv X scope s.heap.objs.size f' c')) → ∃ t, PE (LamX.lamCx X A outer s H E scope f' c') body t ∧ ∀ (a : Hd) (h0 hs0 : Hp) (W : EX → Prop), (∀ x, W x → XAt X.K a hs0 h0 E x) → DT ⟨X.K, a, h0, hs0, W⟩ t f)
    (hdb : (x == ("__debug__" : Str)) = false := by decide) (hd : (a == ("__debug__" : Str)) = false := by decide) (hcd : (a == ("__classdict__" : Str)) = false := by decide) :
    PE X (.Call (.Name x p) [.Lambda params body scope lpos] [] pos) (LamX.tLam T (TTof X.K mw) (tOfE X.K f)) := by
  obtain ⟨fd, F⟩ := F
  have hb := F.bindsN (ps := [a]) bd
  have kp := F.kp
  obtain ⟨oc, od, dV, kV, doc, pm, an, cdv, ct, osl, rfl, lk, hcd', _, _⟩ := F.ex
  exact LamX.pe_lamcall hg hm kp lk hcd' hb Sg hNg hva (hG cdv) TB hcode hmT hu hr L hdef hbind (fun A outer s H E f' c' hr => pe_tOfE (hbody A outer s H E f' c' hr)) hdb hd hcd
theorem passesM {CXg : CXT} {P : Program} {w : World} {K : PySem.W.Frag} {mg : Str → Option Value} {base : Heap} {N : List Str} {qual : Str} {sc0 : Scope} {g : Addr} {cd : Value} {A0 : Around} {o0 : List Env} {s0 : Shared} {H0 : Hp} {E0 : XK} {A : Around} {outer : List Env} {s : Shared} {H : Hp} {E : XK} {scope : Scope} {f c' : Addr} :
    Passes (L2.CX P w) (LamX.lamCx (cxOf CXg P w K mg base N qual sc0 g cd A0 o0 s0 H0 E0).nox A outer s H E scope f c') E :=
  passes_tk (X := LamX.lamCx (cxOf CXg P w K mg base N qual sc0 g cd A0 o0 s0 H0 E0).nox A outer s H E scope f c') (takes_of rfl rfl rfl rfl)
end Fd
/-! looks at a caught exception; count and index of flat items -/
namespace Fd
open PySem PySem.Spec PyProof.Rows L2
/-- what isinstance asks of an exception's class -/
structure ExcCD (K : PySem.W.Frag) (D : Addr) : Prop where
  cl : (PySem.W.clsIn K D).isSome = true
  x : L2.ExcC K D
/-- isinstance(e, c), e the exception that the suite holds -/
def rIsXc (K : PySem.W.Frag) (a : Addr) (cls : Value) (d : Option Addr) : List V → Hp → VK → Prop := fun xs H Q => ∃ (D dx : Addr) (fs : List (Str × V)) (c : V) (cv : Value) (b : Bool),
  cls = .ref D ∧ d = some dx ∧ H dx = some (.xd fs) ∧ ExcCD K D ∧ xs = [.ref a, c] ∧ (∀ u, RelV c u → u = cv) ∧ PySem.W.kitOne K (.ref D) cv = some b ∧ Q (.bl b) H
theorem call_isX {X : Cx} {a : Addr} {cls : Value} {d : Option Addr} {oe : Obj} {pn : List (Addr × Obj)} (hz : Zc cls d oe) (hf : ∃ vs, oe.data = .fields vs) : CallR (X.suite a ((a, oe) :: pn)) (.builtin "isinstance") (rIsXc X.K a cls d) := by
  intro pins s σ H xs us Q I r h
  obtain ⟨D, dx, fs, c, cv, b, e1, e2, hdx, C, rfl, hcv, e, q⟩ := h
  subst e1
  subst e2
  cases r with
  | cons rx rr =>
    cases rr with
    | cons rt rr =>
      cases rr
      cases rx
      have ec := hcv _ rt
      subst ec
      obtain ⟨hget, _⟩ := I.pin (a, oe) (List.mem_append.mpr (.inl List.mem_cons_self))
      have hx : ObjOk X.prog X.w H s.heap dx (.xd fs) := I.hok dx _ hdx
      obtain ⟨mA, hns, hr⟩ := hx
      obtain ⟨od, ho, hl⟩ := lookIn_ns hns
      obtain ⟨vs, hv⟩ := hf
      have J : PySem.W.InstAt s.heap a oe D (some od) := ⟨hget, hz.1, by unfold PySem.W.notCls; rw [hv] <;> rfl, by rw [hz.2]; exact ho⟩
      exact PySem.W.kia_one (PySem.W.kitx_exc C.cl C.x.hg C.x.hk C.x.hs C.x.ha C.x.hn C.x.ht C.x.hm) I.kIn J e (fun z => nomatch z) fun tk => ⟨.bl b, H, I.kept (t' := tk) fun _ _ z => z, rfl, q⟩
/-- the classes XS, all below base -/
def isX (base : Str) (c t : Str) : Bool := decide (c = t) || decide (t = base)
structure XIs (K : PySem.W.Frag) (base : Str) (XS TS : List Str) : Prop where
  cd : ∀ c ∈ XS, ExcCD K (He.ga K c)
  is_ : ∀ c ∈ XS, ∀ t ∈ TS, PySem.W.kitOne K (.ref (He.ga K c)) (.ref (He.ga K t)) = some (isX base c t)
  val : ∀ c ∈ XS, PySem.W.kitOne K (.ref (He.ga K c)) (.type "ValueError") = some true
/-- isinstance(e, t) -/
def eIsX (base : Str) (XS : List Str) (a : Addr) (cls : Value) (d : Option Addr) (i : Nat) (t : Str) : ME := fun ρ q _ => match ρ[i]? with
  | some (.xc x a' cls' d') => a' = a ∧ cls' = cls ∧ d' = d ∧ x.1 ∈ XS ∧ q (.bl (isX base x.1 t))
  | _ => False
/-- isinstance(e, ValueError) -/
def eIsV (XS : List Str) (a : Addr) (cls : Value) (d : Option Addr) (i : Nat) : ME := fun ρ q _ => match ρ[i]? with
  | some (.xc x a' cls' d') => a' = a ∧ cls' = cls ∧ d' = d ∧ x.1 ∈ XS ∧ q (.bl true)
  | _ => False
section
variable {C : Ctx} {base : Str} {XS TS : List Str} {a : Addr} {cls : Value} {d : Option Addr} {i : Nat}
theorem dt_isX {t : Str} (h : XIs C.K base XS TS) (ht : t ∈ TS) : DT C (tCB (rIsXc C.K a cls d) (tCons (tVar i) (tCons (tC (.ref (He.ga C.K t))) tNil))) (eIsX base XS a cls d i t) := by
  refine ⟨fun Hs ρ σ H q qe Q l r w k => ?_⟩
  unfold eIsX at w
  split at w
  · rename_i x a' cls' d' e
    obtain ⟨rfl, rfl, rfl, hx, w⟩ := w
    obtain ⟨ev, ec, dx, vs, ed, h1, h2, h5⟩ := r.en i _ e
    refine ⟨.ref a', ev, _, dx, vs, .ref (He.ga C.K t), .ref (He.ga C.K t), _, ec, ed, h1, h.cd _ hx, rfl, fun u hu => hu, h.is_ _ hx _ ht, ?_⟩
    exact k _ _ Hs H w Gr.refl r (.bl _)
  · exact w.elim
theorem dt_isV (h : XIs C.K base XS TS) : DT C (tCB (rIsXc C.K a cls d) (tCons (tVar i) (tCons (tC (.ty "ValueError")) tNil))) (eIsV XS a cls d i) := by
  refine ⟨fun Hs ρ σ H q qe Q l r w k => ?_⟩
  unfold eIsV at w
  split at w
  · rename_i x a' cls' d' e
    obtain ⟨rfl, rfl, rfl, hx, w⟩ := w
    obtain ⟨ev, ec, dx, vs, ed, h1, h2, h5⟩ := r.en i _ e
    refine ⟨.ref a', ev, _, dx, vs, .ty "ValueError", .type "ValueError", _, ec, ed, h1, h.cd _ hx, rfl, fun u hu => hu, h.val _ hx, ?_⟩
    exact k _ _ Hs H w Gr.refl r (.bl _)
  · exact w.elim
end
theorem bt_ValueError : bootBuiltins "ValueError" = some (.type "ValueError") := by decide +kernel
/-- a class by its name -/
theorem pe_gcls {X : Cx} {x : Str} {pos : Pos} (hg : Gl X x) (h : X.mg x = some (.ref (He.ga X.K x))) (hd : (x == ("__debug__" : Str)) = false := by decide) : PE X (.Name x pos) (tC (.ref (He.ga X.K x))) := pe_glob hg h rfl hd
/-! ### e.f -/
structure XFl (K : PySem.W.Frag) (XS : List Str) (f : Str) : Prop where
  c : ∀ c ∈ XS, XfC K (He.ga K c)
  no : ∀ c ∈ XS, PySem.W.findIn K (.ref (He.ga K c)) f = some none
/-- the reading: any class -/
def tXfA (K : PySem.W.Frag) (a : Addr) (cls : Value) (d : Option Addr) (f : Str) (te : TE) : TE := fun σ H Q => te σ H fun x H1 => ∃ C, XfC K C ∧ PySem.W.findIn K (.ref C) f = some none ∧ x = .ref a ∧ cls = .ref C ∧ ∃ (dd : Addr) (fs : List (Str × V)) (v : V), d = some dd ∧ H1 dd = some (.xd fs) ∧ fs.lookup f = some v ∧ Q v H1
theorem pe_xfA {X : Cx} {a : Addr} {oe : Obj} {cls : Value} {d : Option Addr} {pn : List (Addr × Obj)} {e : Expr} {te : TE} {pos : Pos} {n : Str}
    (hz : Zc cls d oe) (hf : ∃ vs, oe.data = .fields vs) (he : PE (X.suite a ((a, oe) :: pn)) e te) (hb : attributeBase e n X.env (eval e X.env) = eval e X.env := by rfl) :
    PE (X.suite a ((a, oe) :: pn)) (.Attribute e n pos) (tXfA X.K a cls d n te) := by
  refine ⟨fun pins s σ H Q I h => ?_⟩
  refine attr_of hb (thn (he.run pins s σ H _ I h) fun u s1 hh => ?_)
  obtain ⟨x, H1, I1, rx, C, T, hno, ex, ec, dd, fs, v, ed, ea, l, q⟩ := hh
  subst ex
  obtain rfl : u = Value.ref a := rx
  subst ec
  subst ed
  obtain ⟨ha, _⟩ := I1.pin (a, oe) (List.mem_append_left _ List.mem_cons_self)
  obtain ⟨vs, hd⟩ := hf
  have hx : ObjOk X.prog X.w H1 s1.heap dd (.xd fs) := I1.hok dd _ ea
  obtain ⟨mA, hns, hr⟩ := hx
  obtain ⟨od, ho, hl⟩ := lookIn_ns hns
  obtain ⟨u, hu, ru⟩ := RelO.some_of (v := v) (o := mA n) (by rw [← l]; exact hr n)
  have J : PySem.W.InstAt s1.heap a oe C (some od) := ⟨ha, hz.1, by unfold PySem.W.notCls; rw [hd] <;> rfl, by rw [hz.2]; exact ho⟩
  exact HandSPX.exc_get I1.kIn J T.ga T.gg T.exC (PySem.W.findObj_own T.hdC hno rfl (by rw [hl, hu])) (handed_of ru) ⟨v, H1, I1.tok _, ru, q⟩
/-- e.f, e the caught one -/
def eXf (XS : List Str) (a : Addr) (cls : Value) (d : Option Addr) (i : Nat) (f : Str) : ME := fun ρ q _ => match ρ[i]? with
  | some (.xc x a' cls' d') => a' = a ∧ cls' = cls ∧ d' = d ∧ x.1 ∈ XS ∧ ∃ y, x.2.lookup f = some y ∧ q y
  | _ => False
theorem dt_xf {C : Ctx} {XS : List Str} {a : Addr} {cls : Value} {d : Option Addr} {i : Nat} {f : Str} (h : XFl C.K XS f) : DT C (tXfA C.K a cls d f (tVar i)) (eXf XS a cls d i f) := by
  refine ⟨fun Hs ρ σ H q qe Q l r w k => ?_⟩
  unfold eXf at w
  split at w
  · rename_i x a' cls' d' e
    obtain ⟨rfl, rfl, rfl, hx, y, hy, w⟩ := w
    obtain ⟨ev, ec, dx, vs, ed, h1, h2, h5⟩ := r.en i _ e
    obtain ⟨v, hv, rv⟩ := RepF.look h2 hy
    exact ⟨.ref a', ev, _, h.c _ hx, h.no _ hx, rfl, ec, dx, vs, v, ed, h1, hv, k _ _ Hs H w Gr.refl r rv⟩
  · exact w.elim
/-! ### xs.count(k), xs.index(k), flat -/
def rCount (K : PySem.W.Frag) : V → List V → Hp → VK → Prop := fun x xs H Q => ∃ (p : Addr) (ys : List V) (y : V), x = .ref p ∧ xs = [y] ∧ SqL K H p ys ∧ flatV y = true ∧ ys.all flatV = true ∧ Q (.int (ys.countP fun z => eqV z y)) H
theorem countP_vals {y : V} : ∀ {ys : List V} {its : List Value}, Vals ys its → ys.all flatV = true → its.countP (eqU y) = ys.countP fun z => eqV z y
  | _, _, .nil, _ => rfl
  | _, _, .cons r q, h => by
    rw [List.all_cons, Bool.and_eq_true] at h
    rw [List.countP_cons, List.countP_cons, countP_vals q h.2, eqU_of r h.1]
theorem mt_lcountF {X : Cx} : MtR X "list.count" (rCount X.K) := by
  intro pins s σ H x xs v us Q I rx rxs h
  obtain ⟨a, ys, y, rfl, rfl, hs, fy, fys, q⟩ := h
  cases rx
  obtain ⟨uy, rfl, ry⟩ := rxs.one
  obtain ⟨its, rv, ⟨⟨cls, dd, data, sl⟩, n, ho, hc, hdn, hd⟩, hlen⟩ := I.list hs
  simp only at hc hd
  subst hc hd
  refine call_meets PySem.F.slot_list_count ⟨_, ho, rfl⟩ PySem.F.entry_list_count (PySem.F.args_list_count_2 _ _)
    (SeqAt.list_countAt a its.toArray n dd sl uy (eqU y)) ⟨ho, fun u' hu' => mem_eqAt ry fy rv fys u' (by simpa using hu'), ?_⟩
  have ec : its.toArray.toList.countP (eqU y) = ys.countP fun z => eqV z y := countP_vals rv fys
  refine ⟨.int (ys.countP (fun z => eqV z y) : Nat), H, I.tok _, ⟨s.toks, ?_⟩, q⟩
  rw [ec]
def eCount (f g : ME) : ME := fun ρ q qe => f ρ (fun x => match x with
  | .lst ys => g ρ (fun y => (y.flat = true ∧ ys.all D.flat = true) ∧ q (.int ((ys.map D.v).countP fun z => eqV z y.v))) qe
  | _ => False) qe
def eIndexF (f g : ME) : ME := fun ρ q qe => f ρ (fun x => match x with
  | .lst ys => g ρ (fun y => (y.flat = true ∧ ys.all D.flat = true) ∧ (match (ys.map D.v).findIdx? fun z => eqV z y.v with
    | some j => q (.int (j : Nat))
    | none => False)) qe
  | _ => False) qe
theorem rep_flat {K : PySem.W.Frag} {a : Hd} {Hs : Hp} {d : D} {v : V} (h : Rep K a Hs d v) (f : d.flat = true) : v = d.v := by
  cases h <;> first | rfl | simp [D.flat] at f
theorem dt_count {C : Ctx} {tx ty : TE} {f g : ME} (h : DB C tx f) (h' : DT C ty g) : DT C (tBM C.K "list" (rCount C.K) tx (tCons ty tNil)) (eCount f g) := by
  refine ⟨fun Hs ρ σ H q qe Q l r w k => ?_⟩
  refine h.run Hs ρ σ H _ qe _ l r w fun d v Hs1 H1 w1 g1 r1 p1 => ?_
  split at w1
  · rename_i ys
    obtain ⟨a, us, rfl, h1, h2⟩ := p1.lst r1.sh
    refine ⟨.inl ⟨rfl, _, SqL.of h1⟩, h'.run Hs1 ρ σ H1 _ qe _ l r1 w1 fun e u Hs2 H2 w2 g2 r2 p2 => ?_⟩
    obtain ⟨⟨f1, f2⟩, w3⟩ := w2
    obtain ⟨a', us', ev, h1', h2'⟩ := (p1.mono g2.s g2.b).lst r2.sh
    cases ev
    obtain rfl := flat_vs h2' f2
    obtain rfl := rep_flat p2 f1
    exact ⟨a, _, _, rfl, rfl, SqL.of h1', flat_V f1, flat_Vs f2, k _ _ Hs2 H2 w3 (g1.trans g2) r2 (.int _)⟩
  · exact w1.elim
theorem dt_indexF {C : Ctx} {tx ty : TE} {f g : ME} (h : DB C tx f) (h' : DT C ty g) : DT C (tBM C.K "list" (rIndex C.K) tx (tCons ty tNil)) (eIndexF f g) := by
  refine ⟨fun Hs ρ σ H q qe Q l r w k => ?_⟩
  refine h.run Hs ρ σ H _ qe _ l r w fun d v Hs1 H1 w1 g1 r1 p1 => ?_
  split at w1
  · rename_i ys
    obtain ⟨a, us, rfl, h1, h2⟩ := p1.lst r1.sh
    refine ⟨.inl ⟨rfl, _, SqL.of h1⟩, h'.run Hs1 ρ σ H1 _ qe _ l r1 w1 fun e u Hs2 H2 w2 g2 r2 p2 => ?_⟩
    obtain ⟨⟨f1, f2⟩, w3⟩ := w2
    obtain ⟨a', us', ev, h1', h2'⟩ := (p1.mono g2.s g2.b).lst r2.sh
    cases ev
    obtain rfl := flat_vs h2' f2
    obtain rfl := rep_flat p2 f1
    split at w3
    · rename_i j hj
      obtain ⟨hl, he, hn⟩ := List.findIdx?_eq_some_iff_getElem.mp hj
      refine ⟨a, _, _, j, (ys.map D.v)[j], rfl, rfl, SqL.of h1', flat_V f1, flat_Vs f2, List.getElem?_eq_getElem hl, he, fun m z hm hz => ?_, k _ _ Hs2 H2 w3 (g1.trans g2) r2 (.int _)⟩
      obtain ⟨hml, hme⟩ := List.getElem?_eq_some_iff.mp hz
      have := hn m hm
      rw [hme] at this
      simpa using this
    · exact w3.elim
  · exact w1.elim
end Fd
/-! defs that make lambdas; the head with exceptions, further looks, tables -/
namespace Fd
open PySem PySem.Spec PyProof.Rows L2
/-! ### promises where tables are asked -/
def spOfT (K : PySem.W.Frag) (T : List (Addr × Str)) (n : Nat) (m : M) : Sp := fun vs H Q _ => ∃ (a : Hd) (Hs : Hp) (ds : List D) (q : D → Prop), a.T = T ∧ LamX.Tabs T H ∧ vs.length = n ∧ Same Hs H ∧ HandOk a Hs H ∧ RepL K a Hs ds vs ∧ m ds q (fun _ => False) ∧
  ∀ d v Hs' H', q d → Gr a Hs H Hs' H' → Same Hs' H' → HandOk a Hs' H' → Rep K a Hs' d v → Q v H'
theorem dt_callT {C : Ctx} {T : List (Addr × Str)} {n : Nat} {m : M} {t : TA} {g : MA} (hTT : C.a.T = T) (hT : LamX.Tabs C.a.T C.H0) (h : DAn C n t g) : DT C (tCall (spOfT C.K T n m) [] E0 t) (eCallN m g) := by
  subst hTT
  refine ⟨fun Hs ρ σ H q qe Q l r w k => ?_⟩
  refine h.run Hs ρ σ H _ _ _ l r w fun ds vs Hs1 H1 w1 g1 r1 p1 hl => ?_
  rw [List.append_nil]
  refine ⟨C.a, Hs1, ds, q, rfl, r1.fr.t hT, hl, r1.sh, r1.hd, p1, w1, fun d v Hs2 H2 e g2 s2 h2 p2 => ?_⟩
  exact k d v Hs2 H2 e (g1.trans g2) (r1.grow g2 s2 h2) p2
theorem body_okT {K : PySem.W.Frag} {T : List (Addr × Str)} {t : TS} {f : MS} {n k : Nat} {N : List Str} {vs : List V} {H : Hp} {Q : VK} {E : XK} (hN : N.length = n + k) (ht : ∀ C : Ctx, C.K = K → (∀ x, ¬ C.W x) → C.a.T = T → LamX.Tabs C.a.T C.H0 → DS C t f)
    (h : spOfT K T n (mBody k f) vs H Q E) : t { nx := fun _ H' => Q .non H', rt := Q } (L2.start N vs) H := by
  obtain ⟨a, Hs, ds, q, aT, hT, hl, s, hd, r, w, kk⟩ := h
  subst aT
  have rs : RS ⟨K, a, H, Hs, fun _ => False⟩ Hs (ds.map .sh ++ List.replicate k .no) (L2.start N vs) H := rs_start s hd r (by rw [hl]; exact hN)
  exact (ht ⟨K, a, H, Hs, fun _ => False⟩ rfl (fun _ z => z) rfl hT).run Hs _ _ H ⟨fun _ => q .non, fun _ => q, fun _ => False, fun _ => False⟩ (fun _ => False) _ (fun _ z => z) rs w
    ⟨fun ρ' σ' Hs' H' w' s' r' => kk .non .non Hs' H' w' r'.gr0 r'.sh r'.hd .non, fun d v ρ' σ' Hs' H' w' s' r' p' => kk d v Hs' H' w' r'.gr0 r'.sh r'.hd p', fun _ _ _ _ z => z.elim, fun _ _ _ _ z => z.elim⟩
theorem dsKT {K : PySem.W.Frag} {T : List (Addr × Str)} {t : TS} {f : MS} (h : ∀ (a : Hd) (h0 hs0 : Hp) (W : EX → Prop), (∀ x, ¬ W x) → a.T = T → LamX.Tabs a.T h0 → DS ⟨K, a, h0, hs0, W⟩ t f) (C : Ctx) (hK : C.K = K) (hW : ∀ x, ¬ C.W x) (hTT : C.a.T = T) (hT : LamX.Tabs C.a.T C.H0) : DS C t f := by
  subst hK
  exact h C.a C.H0 C.Hs0 C.W hW hTT hT
/-- the def's code object is known -/
theorem funD_okc {P : Program} {w : World} {K : PySem.W.Frag} {mg : Str → Option Value} {base : Heap} {x qual : Str} {params : Arguments} {body : List Stmt} {scope : Scope} {dvs : List V} {kws : List (Str × V)} {f c : Addr} {fd : FuncData} {CX : CXT} {N ps : List Str} {k : Nat} {sp : Sp}
    (F : FunD K x qual params body scope dvs kws f fd) (hc : fd.code = .ref c) (S : FnScope N ps scope) (len : ∀ vs H Q E, sp vs H Q E → vs.length = ps.length)
    (hbody : ∀ (A : Around) (outer : List Env) (s : Shared) (H : Hp) (vs : List V) (Q : VK) (E : XK), Room k (A.deeper (envOfC qual scope s.heap.objs.size f (.ref c))) → sp vs H Q E →
      ∃ t, PSs (cxOf CX P w K mg base N qual scope f (.ref c) A outer s H E) body t ∧ t { nx := fun _ H' => Q .non H', rt := Q } (L2.start N vs) H) : FnOk P w K mg base CX (k + 1) f fd ps sp := by
  obtain ⟨oc, od, dV, kV, doc, pm, an, cdv, ct, osl, rfl, lk, hcd, _, _⟩ := F.ex
  obtain rfl : cdv = .ref c := hc
  exact fn_of lk hcd S len fun A outer s H vs Q E hr hsp => hbody A outer s H vs Q E hr hsp
structure CalT (P : Program) (w : World) (K : PySem.W.Frag) (mg : Str → Option Value) (base : Heap) (T : List (Addr × Str)) (k : Nat) (x : Str) (n : Nat) (m : M) : Prop where
  ex : ∃ fd ps, FnOk P w K mg base CX0 k (He.ga K x) fd ps (spOfT K T n m) ∧ L2.Binds K fd ps []
  kp : PySem.W.keepIn K (.ref (He.ga K x)) = true
  g : mg x = some (.ref (He.ga K x))
theorem pe_calT {X : Cx} {T : List (Addr × Str)} {k n : Nat} {m : M} {x : Str} {p pos : Pos} {e : Expr} {es : List Expr} {t : TA} (c : CalT X.prog X.w X.K X.mg X.base T k x n m) (hr : Room k X.A) (hg : Gl X x) (ha : PA X (e :: es) t)
    (hdb : (x == ("__debug__" : Str)) = false := by decide) (he : starEach (e :: es) X.env = (false, eval e X.env) :: starEach es X.env := by rfl) (hpl : (backTo pos (starEach es X.env)).any (·.1) = false := by rfl) :
    PE X (.Call (.Name x p) (e :: es) [] pos) (tCall (spOfT X.K T n m) [] E0 t) := by
  obtain ⟨fd, ps, F, b⟩ := c.ex
  exact pe_call F hr hg c.g c.kp b .nil pass0 ha hdb he hpl
theorem cal_ofT {P : Program} {w : World} {K : PySem.W.Frag} {mg : Str → Option Value} {base : Heap} {T : List (Addr × Str)} {x : Str} {st : Stmt} {N ps : List Str} {n k j : Nat} {f : MS} {c : Addr}
    (F : ∃ fd, FunD K x x (defArgs st) (defBody st) (defScope st) [] [] (He.ga K x) fd) (hc : ∀ fd, FunD K x x (defArgs st) (defBody st) (defScope st) [] [] (He.ga K x) fd → fd.code = .ref c) (g : mg x = some (.ref (He.ga K x))) (S : FnScope N ps (defScope st)) (hn : ps.length = n) (hN : N.length = n + j)
    (hb : ∀ (A : Around) (outer : List Env) (s : Shared) (H : Hp) (E : XK), Room k (A.deeper (PyProof.Rows.envOfC x (defScope st) s.heap.objs.size (He.ga K x) (.ref c))) →
      ∃ t, PSs (cxOf CX0 P w K mg base N x (defScope st) (He.ga K x) (.ref c) A outer s H E).nox (defBody st) t ∧ ∀ C : Ctx, C.K = K → (∀ x, ¬ C.W x) → C.a.T = T → LamX.Tabs C.a.T C.H0 → DS C t f)
    (bd : ∀ (kV doc pm : Value) (an : Option Addr) (cdv ct : Value) (us : List Value), us.length = ps.length → bindArgs (PySem.W.fnOf x x (defArgs st) (defBody st) (defScope st) .none kV doc pm an cdv ct) ⟨us, []⟩ = pure (ps.zip us)) :
    CalT P w K mg base T (k + 1) x n (mBody j f) := by
  obtain ⟨fd, F⟩ := F
  refine ⟨⟨fd, ps, funD_okc F (hc fd F) S (fun vs H Q E h => ?_) (fun A outer s H vs Q E hr h => ?_), F.bindsN bd⟩, F.kp, g⟩
  · obtain ⟨a, Hs, ds, q, _, _, hl, _⟩ := h
    rw [hl, hn]
  · obtain ⟨t, h1, h2⟩ := hb A outer s H E hr
    exact ⟨t, h1.nox, body_okT hN h2 h⟩
end Fd
namespace Fd
open PySem PySem.Spec PyProof.Rows L2 He
/-! ### the head -/
/-- no table of code objects -/
def notTab (o : Obj) : Bool := match o.cls, o.data with
  | .none, .fields _ => false
  | _, _ => true
abbrev kT (g : Addr → Option Obj) (n : Nat) : PySem.W.Frag := frG (fun a => (g a).filter notTab) (asD g n ++ [cStatics])
/-- a look of one's own at the written part -/
abbrev Look1 := PySem.W.Frag → Bool
structure SaysB (P : Program) (fa : List Fa) (fn : List DefD) (xs : List ExD) (ups : List (Str × Str)) (bs : List Look1) (K : PySem.W.Frag) : Prop where
  s : SaysS P fa fn xs ups K
  b : ∀ b ∈ bs, b K = true
  nt : ∀ a o, K.lookup a = some o → notTab o = true
def obsB (P : Program) (n : Nat) (fa : List Fa) (fn : List DefD) (xs : List ExD) (ups : List (Str × Str)) (bs : List Look1) (g : Addr → Option Obj) : AlS :=
  (obsD fa fn (kT g n), (xs.all (fun d => d.ok P.main.file (kT g n)) && (ups.all (upB (kT g n)) && (eqO (PySem.W.nsIn (kT g n) cStatics "thirdparty.any") (some none) && bs.all fun b => b (kT g n))), xs.map fun d => exW (kT g n) d.cls))
theorem kT_in {h : Heap} {n : Nat} : (kT h.get? n).In h := fun a o e => by
  have e2 := frG_at _ e
  cases q : h.get? a with
  | none => rw [q] at e2; cases e2
  | some o' =>
    rw [q] at e2
    have e3 : (if notTab o' = true then some o' else none) = some o := e2
    split at e3
    · exact e3
    · cases e3
theorem kT_nt {g : Addr → Option Obj} {n : Nat} : ∀ a o, (kT g n).lookup a = some o → notTab o = true := fun a o e => by
  have e2 := frG_at _ e
  cases q : g a with
  | none => rw [q] at e2; cases e2
  | some o' =>
    rw [q] at e2
    have e3 : (if notTab o' = true then some o' else none) = some o := e2
    split at e3
    · rename_i z
      cases e3
      exact z
    · cases e3
def hookB (P : Program) (n : Nat) (fa : List Fa) (fn : List DefD) (xs : List ExD) (ups : List (Str × Str)) (bs : List Look1) : PySem.W.Hook where
  α := AlS
  obs := fun s => obsB P n fa fn xs ups bs s.heap.get?
  val := fun _ => (valD fn, (true, xs.map ExD.val))
  says := fun _ h => ∃ K : PySem.W.Frag, K.In h ∧ SaysB P fa fn xs ups bs K
  of := fun _ s e => by
    have e1 := congrArg (fun z : AlS => z.2.1) e
    obtain ⟨a1, a2⟩ := ba (show (_ && _) = true from e1)
    obtain ⟨a3, a4⟩ := ba a2
    obtain ⟨a5, a6⟩ := ba a4
    exact ⟨kT s.heap.get? n, kT_in, ⟨congrArg (fun z : AlS => z.1) e, fun d hd => List.all_eq_true.mp a1 d hd, congrArg (fun z : AlS => z.2.2) e, fun d hd => List.all_eq_true.mp a3 d hd, eqO_ok a5⟩, fun b hb => List.all_eq_true.mp a6 b hb, kT_nt⟩
  keeps := fun _ _ _ ⟨K, hK, c⟩ k => ⟨K, PySem.W.Frag.In.keeps hK k, c⟩
theorem obsB_eq {P : Program} {n : Nat} {fa : List Fa} {fn : List DefD} {xs : List ExD} {ups : List (Str × Str)} {bs : List Look1} {g : Addr → Option Obj} {s : Shared} (h : ∀ a, g a = s.heap.get? a) : obsB P n fa fn xs ups bs g = (hookB P n fa fn xs ups bs).obs s := by
  have e : g = s.heap.get? := funext h
  rw [e] <;> rfl
/-- what the top says of a def's code object and its table -/
def TabF (mg : Str → Option Value) (h : Heap) (x : Str) : Prop := ∃ (a : Addr) (o : Obj) (fd : FuncData) (c P : Addr), mg x = some (.ref a) ∧ h.get? a = some o ∧ o.data = .func fd ∧ fd.code = .ref c ∧ PySem.W.CodeHd h c P ∧ h.get? P = some { cls := .none, data := .fields #[] }
theorem walk_tab {l : PySem.W.OpenLaw} {n k : Nat} {q : Program} {loose : List Str} {XP : (Str → Option Value) → Heap → Prop} {YP : World → Heap → Prop} {d : DefRec} {CX : World → CXT} {x : Str} (xs : List Str)
    (hn : l.most = some n) (hn2 : n ≤ sizeLine) (hdf : d.params.defaults = []) (hr : Room k callerA) (hrec : (xs.all fun x => (recsOf q).any fun e => e.name == x) = true)
    (F : ∀ (w : World) (mg : Str → Option Value) (fa : Addr) (h : Heap), YP w h → h.Ns mainGlobals mg → mg d.name = some (.ref fa) → (∀ x ∈ xs, TabF mg h x) → ∃ K : PySem.W.Frag, K.In h ∧ LamX.LawAtS l w K (CX w) k n x mg fa h)
    (hCX : ∀ (w : World) (H : Hp) (s : Shared) (e : Value) (s' : Shared), CX w [] H s (fun _ _ _ => False) e s' → False) :
    PySem.W.WalkO q loose XP YP l.row.toRowW d [] (fun f vs => PySem.call f vs) := by
  refine Att.attach_callB hn hdf fun w s₀ s₁ mg mb fa o pm cd doc a vs ns G Y ho hd hcd hmg hobj hints hlen hbits hg => ?_
  have tf : ∀ x ∈ xs, TabF mg s₁.heap x := fun x hx => by
    obtain ⟨dL, hm, hn1⟩ := List.any_eq_true.mp (List.all_eq_true.mp hrec x hx)
    obtain ⟨a', o', fd', c', P', h1, h2, h3, h4, h5, h6⟩ := G.T.tab dL hm
    rw [beq_iff_eq.mp hn1] at h1
    exact ⟨a', o', fd', c', P', h1, h2, h3, h4, .of h5 h6, h6.2⟩
  obtain ⟨K, KX, fd, cs, sp, hT, nT, C, hb, hsp, hF⟩ := F w mg fa _ Y G.T.g hmg tf
  exact LamX.law_callTs KX G.T.g G.T.b G.T.builtins G.T.nolimit hg hT nT C G.T.bmain hobj hints (Nat.le_trans hlen hn2) hr hF hb (fun H hH hS => hsp H a ns hlen hbits hH hS) fun H e s' => hCX w H s₁ e s'
end Fd
/-! looks of one's own, and what they say -/
namespace Fd
open PySem PySem.Spec PyProof.Rows L2 He
def exB (K : PySem.W.Frag) (c : Str) : Bool := (PySem.W.clsIn K (ga K c)).isSome && (eqO (PySem.W.findIn K (.ref (ga K c)) "__getattribute__") (some (some (.builtin "BaseException.__getattribute__"))) &&
  (eqO (PySem.W.findIn K (.ref (ga K c)) "__getattr__") (some none) && (decide (PySem.W.subIn K (.ref (ga K c)) (.type "BaseException") = some true) && (PySem.W.hasDictIn K (ga K c) &&
  (eqO (PySem.W.findIn K (.ref (ga K c)) "__class__") (some (some (.builtin "object.__class__"))) && (eqO (PySem.W.specialIn K (.builtin "object.__class__") "__get__") (some (some (.builtin "getset_descriptor.__get__"))) &&
  (decide (PySem.W.takesIn K (.builtin "object.__class__") = some true) && decide (PySem.W.mroIn K (ga K c) (.type "object") = some true))))))))
theorem exB_ok {K : PySem.W.Frag} {c : Str} (h : exB K c = true) : ExcCD K (ga K c) := by
  obtain ⟨h1, h⟩ := ba h
  obtain ⟨h2, h⟩ := ba h
  obtain ⟨h3, h⟩ := ba h
  obtain ⟨h4, h⟩ := ba h
  obtain ⟨h5, h⟩ := ba h
  obtain ⟨h6, h⟩ := ba h
  obtain ⟨h7, h⟩ := ba h
  obtain ⟨h8, h9⟩ := ba h
  exact ⟨h1, eqO_ok h2, eqO_ok h3, of_decide_eq_true h4, h5, eqO_ok h6, eqO_ok h7, of_decide_eq_true h8, of_decide_eq_true h9⟩
/-- isinstance of the classes XS -/
def lkIs (base : Str) (XS TS : List Str) : Look1 := fun K => XS.all fun c => exB K c && (TS.all (fun t => decide (PySem.W.kitOne K (.ref (ga K c)) (.ref (ga K t)) = some (isX base c t))) && decide (PySem.W.kitOne K (.ref (ga K c)) (.type "ValueError") = some true))
theorem xis_ok {K : PySem.W.Frag} {base : Str} {XS TS : List Str} (h : lkIs base XS TS K = true) : XIs K base XS TS := by
  have h := fun c hc => ba (List.all_eq_true.mp h c hc)
  exact ⟨fun c hc => exB_ok (h c hc).1, fun c hc t ht => of_decide_eq_true (List.all_eq_true.mp (ba (h c hc).2).1 t ht), fun c hc => of_decide_eq_true (ba (h c hc).2).2⟩
def lkCat (base : Str) (XS : List Str) : Look1 := fun K => XS.all fun c => decide (PySem.W.exmOne K (.ref (ga K c)) (.ref (ga K base)) = some true)
theorem cat_ok {K : PySem.W.Frag} {base : Str} {XS : List Str} (h : lkCat base XS K = true) : Cats K (.ref (ga K base)) XS := fun c hc => of_decide_eq_true (List.all_eq_true.mp h c hc)
def lkFl (XS : List Str) (f : Str) : Look1 := fun K => XS.all fun c => xfB K (ga K c) && eqO (PySem.W.findIn K (.ref (ga K c)) f) (some none)
theorem fl_ok {K : PySem.W.Frag} {XS : List Str} {f : Str} (h : lkFl XS f K = true) : XFl K XS f :=
  ⟨fun c hc => xfB_ok (ba (List.all_eq_true.mp h c hc)).1, fun c hc => eqO_ok (ba (List.all_eq_true.mp h c hc)).2⟩
def lkNo (c f : Str) : Look1 := fun K => eqO (PySem.W.findIn K (.ref (ga K c)) f) (some none)
theorem no_ok {K : PySem.W.Frag} {c f : Str} (h : lkNo c f K = true) : PySem.W.findIn K (.ref (ga K c)) f = some none := eqO_ok h
/-- the name stands for the class -/
def lkGl (c : Str) : Look1 := fun K => eqO (PySem.W.nsIn K mainGlobals c) (some (some (.ref (ga K c))))
theorem gl_ok {K : PySem.W.Frag} {c : Str} {hp : Heap} {mg : Str → Option Value} (h : lkGl c K = true) (X : K.In hp) (G : hp.Ns mainGlobals mg) : mg c = some (.ref (ga K c)) := PySem.W.mg_of X G (eqO_ok h)
/-- the tables of the defs' code objects are several -/
def tbP (K : PySem.W.Frag) (x : Str) : Addr × Addr := (PySem.W.tabIn K x).getD (0, 0)
def lkTab (xs : List Str) : Look1 := fun K => xs.all fun x => (PySem.W.tabIn K x).isSome && xs.all fun y => decide (x = y) || decide ((tbP K x).2 ≠ (tbP K y).2)
/-- the list of them -/
def tabL (K : PySem.W.Frag) (xs : List (Str × Str)) : List (Addr × Str) := xs.map fun x => ((tbP K x.1).2, x.2)
theorem tab_mem {K : PySem.W.Frag} {xs : List (Str × Str)} {x : Str × Str} (hx : x ∈ xs) : ((tbP K x.1).2, x.2) ∈ tabL K xs := List.mem_map.mpr ⟨x, hx, rfl⟩
theorem tab_uq {K : PySem.W.Frag} {xs : List (Str × Str)} (nd : (xs.map (·.1)).Nodup) (h : lkTab (xs.map (·.1)) K = true) {x : Str × Str} (hx : x ∈ xs) : ∀ p ∈ tabL K xs, p.1 = (tbP K x.1).2 → p.2 = x.2 := fun p hp e => by
  obtain ⟨y, hy, rfl⟩ := List.mem_map.mp hp
  have h1 := (ba (List.all_eq_true.mp h x.1 (List.mem_map.mpr ⟨x, hx, rfl⟩))).2
  have h2 := List.all_eq_true.mp h1 y.1 (List.mem_map.mpr ⟨y, hy, rfl⟩)
  rcases Bool.or_eq_true_iff.mp h2 with z | z
  · have z := of_decide_eq_true z
    have key : ∀ {l : List (Str × Str)}, (l.map (·.1)).Nodup → ∀ {u v : Str × Str}, u ∈ l → v ∈ l → u.1 = v.1 → u = v := by
      intro l
      induction l with
      | nil => intro _ u v hu; cases hu
      | cons w l ih =>
        intro hn u v hu hv he
        rw [List.map_cons, List.nodup_cons] at hn
        rcases List.mem_cons.mp hu with rfl | hu
        · rcases List.mem_cons.mp hv with rfl | hv
          · rfl
          · exact absurd (List.mem_map.mpr ⟨v, hv, he.symm⟩) hn.1
        · rcases List.mem_cons.mp hv with hv' | hv
          · rw [hv'] at he
            exact absurd (List.mem_map.mpr ⟨u, hu, he⟩) hn.1
          · exact ih hn.2 hu hv he
    rw [key nd hx hy z]
  · exact absurd e.symm (of_decide_eq_true z)
/-- the look's table is the top's -/
theorem tab_look {K : PySem.W.Frag} {hp : Heap} {mg : Str → Option Value} {x : Str} (X : K.In hp) (G : hp.Ns mainGlobals mg) (h : (PySem.W.tabIn K x).isSome = true) (t : TabF mg hp x) :
    PySem.W.CodeHd hp (tbP K x).1 (tbP K x).2 ∧ hp.get? (tbP K x).2 = some { cls := .none, data := .fields #[] } ∧ ∃ (a : Addr) (o : Obj) (fd : FuncData), mg x = some (.ref a) ∧ hp.get? a = some o ∧ o.data = .func fd ∧ fd.code = .ref (tbP K x).1 := by
  obtain ⟨a, o, fd, c, P, h1, h2, h3, h4, h5, h6⟩ := t
  obtain ⟨⟨c', P'⟩, e⟩ := Option.isSome_iff_exists.mp h
  have e2 : tbP K x = (c', P') := by unfold tbP; rw [e]; rfl
  have hc : fd.code = .ref c' := PySem.W.law_code X G e h1 h2 h3
  rw [h4] at hc
  cases hc
  unfold PySem.W.tabIn at e
  split at e
  · rename_i f hf
    split at e
    · rename_i k1 k2 fd2 k3 hfo
      split at e
      · rename_i c2 hcc
        split at e
        · rename_i k4 k5 vs k6 hco
          split at e
          · rename_i P2 hv
            cases e
            obtain ⟨o2, us, file, tf, flags, tg, inF, text, tt, g1, g2, g3, g4, g5, g6⟩ := h5
            have g0 := X _ _ hco
            have g1' := g0.symm.trans g1
            cases g1'
            cases g3
            have g4' := g4.symm.trans hv
            cases g4'
            rw [e2]
            exact ⟨⟨_, _, file, tf, flags, tg, inF, text, tt, g1, g2, rfl, g4, g5, g6⟩, h6, a, o, fd, h1, h2, h3, h4⟩
          · cases e
        · cases e
      · cases e
    · cases e
  · cases e
theorem nt_tab {K : PySem.W.Frag} {hp : Heap} {P : Addr} (X : K.In hp) (n : ∀ a o, K.lookup a = some o → notTab o = true) (h : hp.get? P = some { cls := .none, data := .fields #[] }) : K.lookup P = none := by
  cases q : K.lookup P with
  | none => rfl
  | some o =>
    have e := X _ _ q
    rw [h] at e
    cases e
    have := n _ _ q
    cases this
theorem code_of {K : PySem.W.Frag} {hp : Heap} {mg : Str → Option Value} {x qual : Str} {params : Arguments} {body : List Stmt} {scope : Scope} {c : Addr} (X : K.In hp) (g : mg x = some (.ref (ga K x)))
    (t : ∃ (a : Addr) (o : Obj) (fd : FuncData), mg x = some (.ref a) ∧ hp.get? a = some o ∧ o.data = .func fd ∧ fd.code = .ref c) (fd : FuncData) (F : FunD K x qual params body scope [] [] (ga K x) fd) : fd.code = .ref c := by
  obtain ⟨a, o, fd2, h1, h2, h3, h4⟩ := t
  rw [g] at h1
  cases h1
  obtain ⟨oc, od, dV, kV, doc, pm, an, cdv, ct, osl, rfl, lk, _⟩ := F.ex
  have e := X _ _ lk
  rw [h2] at e
  cases e
  cases h3
  exact h4
end Fd
/-! sum(lists, []) -/
namespace Fd
open PySem PySem.Spec PyProof.Rows L2
theorem args_sum2 (a b : Value) : argsOk "sum" ⟨[a, b], []⟩ := by unfold argsOk; kernel_rfl
section
variable {prog : Program} {w : World} {A : Around} {R : Result → Shared → Prop}
/-- the loop, from the i-th list on -/
theorem sum_cat (I l : Addr) (rs : List Addr) (rows : Nat → Array Value) (W : Walks prog w A.in1 I [I, l] [I] rs.length (fun i v => (rs.map Value.ref).toArray[i]? = some v) (fun i h => h.IsListIter I l i ∧ h.IsList l (rs.map Value.ref).toArray)) (S : Addr) (hSf : S ∉ [I, l]) :
    ∀ (k i : Nat) (s : Shared) (t : Addr) (acc : Array Value) (na c : Nat), rs.length - i = k → i ≤ rs.length → (s.heap.IsListIter I l i ∧ s.heap.IsList l (rs.map Value.ref).toArray) →
      s.heap.get? S = some { cls := .type "list", dict := none, data := .seq #[.ref t] c, slots := #[] } → IsL s.heap t acc na → t ∉ [I, l] → t ≠ S → True →
      (∀ j r, rs[j]? = some r → ∃ n, IsL s.heap r (rows j) n) → (∀ r ∈ rs, r ∉ [I] ∧ r ≠ S) → (∀ j, j ≤ rs.length - i → acc.size + (((List.range j).map fun x => (rows (i + x)).size).sum) ≤ sizeLine) →
      (∀ h' tk t' n', (∀ b o, b ∉ [I] → b ≠ S → s.heap.get? b = some o → h'.get? b = some o) → IsL h' t' (((List.range (rs.length - i)).map fun x => rows (i + x)).foldl (· ++ ·) acc) n' → (t' = t ∧ rs.length = i ∨ s.heap.get? t' = none) → R (.ok (.ret (.ref t'))) { s with heap := h', toks := tk }) →
      codeAny (model prog w) A (.builtin "sum.loop" ⟨[.ref I, .ref S, rawInt 2, rawInt 0], []⟩) R s := by
  have hSw : S ∉ [I] := fun h => hSf (W.sub _ h)
  intro k
  induction k with
  | zero =>
    intro i s t acc na c hk hi hst hS hT tf tS tz hrows hsep hbd hR
    have hin : i = rs.length := by omega
    subst hin
    refine codeAny_builtin F.entry_sum_loop ?_
    rw [Around.under_plainId F.plain_sum_loop _]
    show wpAny _ A.in1 (seqItems? (.ref S) >>= _) _ _ s
    refine wpAny_bind (wpAny_seqItems hS rfl ?_)
    show wpAny _ A.in1 (tryCatch (pyNext (.ref I)) _ >>= _) _ _ s
    refine wpAny_bind (wpAny_tryCatch (W.done s _ _ hst fun h' tk hk' => ?_))
    refine wpAny_pure (hR h' tk t na (fun b o hbw _ e => hk' b o hbw e) ?_ (.inl ⟨rfl, rfl⟩))
    rw [Nat.sub_self]
    exact hk' t _ (fun h => tf (W.sub _ h)) hT
  | succ k ih =>
    intro i s t acc na c hk hi hst hS hT tf tS tz hrows hsep hbd hR
    have hlt : i < rs.length := by omega
    refine codeAny_builtin F.entry_sum_loop ?_
    rw [Around.under_plainId F.plain_sum_loop _]
    show wpAny _ A.in1 (seqItems? (.ref S) >>= _) _ _ s
    refine wpAny_bind (wpAny_seqItems hS rfl ?_)
    show wpAny _ A.in1 (tryCatch (pyNext (.ref I)) _ >>= _) _ _ s
    refine wpAny_bind (wpAny_tryCatch (W.item i s _ _ hlt hst fun v h' tk hP hst' hk' => ?_))
    obtain ⟨r, hr, rfl⟩ : ∃ r, rs[i]? = some r ∧ v = .ref r := by
      have hP' : (rs.map Value.ref)[i]? = some v := by simpa using hP
      rw [List.getElem?_map] at hP'
      cases q : rs[i]? with
      | none => rw [q] at hP'; cases hP'
      | some r => rw [q] at hP'; cases hP'; exact ⟨r, rfl, rfl⟩
    have hrm : r ∈ rs := List.mem_of_getElem? hr
    have keepN : ∀ b o, b ∉ [I, l] → s.heap.get? b = some o → h'.get? b = some o := fun b o hb e => hk' b o (fun h => hb (W.sub _ h)) e
    obtain ⟨nr, hrow⟩ := hrows i r hr
    have hrow' : IsL h' r (rows i) nr := hk' r _ (hsep r hrm).1 hrow
    have hT' : IsL h' t acc na := keepN t _ tf hT
    have hS' := keepN S _ hSf hS
    show wpAny _ A.in1 ((holding [Value.ref r] (binaryOp .Add (.ref t) (.ref r))).attempt >>= _) _ _ _
    have hszl : acc.size + (rows i).size ≤ sizeLine := by
      have := hbd 1 (by omega)
      simpa using this
    refine wpAny_bind (wpAny_attempt (wpAny_holding (PySem.P.add_list (s := { s with heap := h', toks := tk }) hT' hrow' ?_ hszl)))
    -- the new list
    have nI : h'.objs.size ∉ [I] := fun z => by
      obtain ⟨o, e, _⟩ := hst'.1
      have q := List.mem_singleton.mp z
      rw [← q] at e
      exact Nat.lt_irrefl _ (Heap.lt_size e)
    have gone : ∀ {b : Addr}, b ∉ [I] → h'.get? b = none → s.heap.get? b = none := fun {b} hb e => by
      cases q : s.heap.get? b with
      | none => rfl
      | some o =>
        rw [hk' b o hb q] at e
        cases e
    have e0 : h'.get? h'.objs.size = none := by
      cases q : h'.get? h'.objs.size with
      | none => rfl
      | some o => exact absurd (Heap.lt_size q) (Nat.lt_irrefl _)
    generalize hd : h'.push { cls := .type "list", data := .seq (acc ++ rows i) } = h2
    have hp2 : ∀ b o, h'.get? b = some o → h2.get? b = some o := fun b o e => by rw [← hd]; exact Heap.get?_push_of_some _ e
    have hn2 : IsL h2 h'.objs.size (acc ++ rows i) 0 := by rw [← hd]; exact Heap.get?_push_size _ rfl
    have hS2 := hp2 S _ hS'
    have tl : h'.objs.size ∉ [I, l] := fun z => by
      rcases List.mem_cons.mp z with z | z
      · exact nI (by rw [z]; exact List.mem_singleton.mpr rfl)
      · obtain ⟨o, e, _⟩ := hst'.2
        rw [← List.mem_singleton.mp z] at e
        exact Nat.lt_irrefl _ (Heap.lt_size e)
    have tS2 : h'.objs.size ≠ S := fun z => by
      rw [← z] at hS'
      exact Nat.lt_irrefl _ (Heap.lt_size hS')
    have oth : ∀ {h3 : Heap} {f : Obj → Obj} {b : Addr}, b ≠ S → (h3.update S f).get? b = h3.get? b := fun {h3 f b} n => Heap.get?_update_other _ _ (Ne.symm n)
    show wpAny _ A.in1 (updateSeq S (fun _ => #[.ref h'.objs.size]) >>= _) _ _ _
    refine wpAny_bind (wpAny_updateSeq hS2 rfl ?_)
    have hS3 := Heap.get?_update_self (Obj.mapSeq fun _ => #[Value.ref h'.objs.size]) hS2 rfl
    refine wpAny_bind (wpAny_letGo ?_)
    refine wpAny_bind (wpAny_updateSeq hS3 rfl (wpAny_pure ⟨plainId_quiet F.plain_sum_loop _, ih (i + 1) _ h'.objs.size (acc ++ rows i) 0 _ (by omega) hlt ?_ (Heap.get?_update_self _ hS3 rfl) ?_ tl tS2 trivial ?_ hsep ?_ ?_⟩))
    · refine W.frame _ _ _ (W.frame _ _ h2 hst' fun b _ o e => hp2 b o e) fun b hb o e => ?_
      have nb : b ≠ S := fun z => hSf (by rw [← z]; exact hb)
      exact (oth nb).trans ((oth nb).trans e)
    · exact (oth tS2).trans ((oth tS2).trans hn2)
    · intro j r' hr'
      obtain ⟨n, q⟩ := hrows j r' hr'
      have hm := List.mem_of_getElem? hr'
      exact ⟨n, (oth (hsep r' hm).2).trans ((oth (hsep r' hm).2).trans (hp2 _ _ (hk' r' _ (hsep r' hm).1 q)))⟩
    · intro j hj
      have := hbd (j + 1) (by omega)
      rw [List.range_succ_eq_map, List.map_cons, List.map_map, List.sum_cons] at this
      have e : (List.range j).map ((fun x => (rows (i + x)).size) ∘ Nat.succ) = (List.range j).map fun x => (rows (i + 1 + x)).size := by
        refine List.map_congr_left fun x _ => ?_
        show (rows (i + (x + 1))).size = _
        rw [show i + (x + 1) = i + 1 + x by omega]
      rw [e] at this
      rw [Array.size_append]
      simp only [Nat.add_zero] at this
      omega
    · intro h'' tk'' t'' n'' hk'' hL ht''
      have e : (List.range (rs.length - i)).map (fun x => rows (i + x)) = rows i :: (List.range (rs.length - (i + 1))).map fun x => rows (i + 1 + x) := by
        rw [show rs.length - i = rs.length - (i + 1) + 1 by omega, List.range_succ_eq_map, List.map_cons, List.map_map]
        refine congrArg (rows i :: ·) (List.map_congr_left fun x _ => ?_)
        show rows (i + (x + 1)) = _
        rw [show i + (x + 1) = i + 1 + x by omega]
      refine hR h'' tk'' t'' n'' (fun b o hb hbS e1 => hk'' b o hb hbS ((oth hbS).trans ((oth hbS).trans (hp2 _ _ (hk' b o hb e1))))) (by rw [e, List.foldl_cons]; exact hL) (.inr ?_)
      rcases ht'' with ⟨z, _⟩ | z
      · rw [z]
        exact gone nI e0
      · have nS : t'' ≠ S := fun q => by
          rw [q] at z
          have z' := (Heap.get?_update_self (Obj.mapSeq fun _ => #[Value.ref h'.objs.size]) hS3 rfl).symm.trans z
          cases z'
        have z1 : h2.get? t'' = none := by
          rw [oth nS, oth nS] at z
          exact z
        have z2 : h'.get? t'' = none := by
          cases q : h'.get? t'' with
          | none => rfl
          | some o => rw [hp2 _ _ q] at z1; cases z1
        have nI2 : t'' ∉ [I] := fun q => by
          obtain ⟨o, e3, _⟩ := hst'.1
          rw [List.mem_singleton.mp q, e3] at z2
          cases z2
        exact gone nI2 z2
theorem sum_lists {E : Value → Shared → Prop} {s : Shared} {l t : Addr} {rs : List Addr} {rows : Nat → Array Value} {na : Nat} {Q : Value → Shared → Prop} (hh : A.handled = none) (hl : s.heap.IsList l (rs.map Value.ref).toArray) (ht : IsL s.heap t #[] na) (nl : t ≠ l)
    (hrows : ∀ j r, rs[j]? = some r → ∃ n, IsL s.heap r (rows j) n) (hbd : ∀ j, j ≤ rs.length → (((List.range j).map fun x => (rows x).size).sum) ≤ sizeLine)
    (h : ∀ h' tk t' n', (∀ b o, s.heap.get? b = some o → h'.get? b = some o) → IsL h' t' (((List.range rs.length).map rows).foldl (· ++ ·) #[]) n' → (t' = t ∧ rs.length = 0 ∨ s.heap.get? t' = none) → Q (.ref t') { s with heap := h', toks := tk }) :
    wpAny (model prog w) A (call (.builtin "sum") [.ref l, .ref t]) Q E s := by
  obtain ⟨ol, hol, hcl, nol, hdl⟩ := id hl
  have ltl := Heap.lt_size hol
  have ltt := Heap.lt_size ht
  refine call_function_tree F.kind_sum F.plain_sum F.entry_sum (args_sum2 _ _) ?_
  unfold Builtin.«sum»
  simp only [List.length_cons, List.length_nil]
  rw [if_neg (by decide)]
  refine wpAny_bind (wpAny_of_eq (show Builtin.Builtins.bindParams "sum" ["start"] 0 ⟨[Value.ref t], []⟩ = pure [some (.ref t)] from rfl) ?_)
  refine wpAny_bind (wpAny_pyIter_list hl ?_)
  refine wpAny_bind (wpAny_pure ?_)
  simp only [List.forIn_cons, List.forIn_nil]
  generalize hd : s.heap.push { cls := .type "list_iterator", data := .fields #[.ref l, .int 0 0] } = h1
  have k1 : ∀ b o, s.heap.get? b = some o → h1.get? b = some o := fun b o e => by rw [← hd]; exact Heap.get?_push_of_some _ e
  have hI : h1.get? s.heap.objs.size = some { cls := .type "list_iterator", data := .fields #[.ref l, .int 0 0] } := by rw [← hd]; exact Heap.get?_push_size _ rfl
  have ty : ∀ {h : Heap} {g : Array GenState} {d : Drawn} {tk : Nat} {os : OsState}, (∀ b o, s.heap.get? b = some o → h.get? b = some o) → (⟨h, g, d, tk, os⟩ : Shared).TypeIs (.ref t) "list" := fun k => ⟨_, k _ _ ht, rfl⟩
  refine wpAny_bind (wpAny_bind (wpAny_bind (wpAny_isInstance (T := "list") (b := false) (ty k1) F.sub_list_str ?_)))
  simp only [Bool.false_eq_true, if_false]
  refine wpAny_pure (wpAny_bind (wpAny_bind (wpAny_isInstance (T := "list") (b := false) (ty k1) F.sub_list_bytes ?_)))
  simp only [Bool.false_eq_true, if_false]
  refine wpAny_pure (wpAny_bind (wpAny_bind (wpAny_isInstance (T := "list") (b := false) (ty k1) F.sub_list_bytearray ?_)))
  simp only [Bool.false_eq_true, if_false]
  refine wpAny_pure (wpAny_pure ?_)
  refine wpAny_bind (wpAny_newObj_type ?_)
  have sz1 : h1.objs.size = s.heap.objs.size + 1 := by rw [← hd, Heap.size_push]
  have lt1 : s.heap.objs.size < h1.objs.size := by rw [sz1]; exact Nat.lt_succ_self _
  have low : ∀ {b : Nat}, b < s.heap.objs.size → b < h1.objs.size := fun {b} z => Nat.lt_trans z lt1
  have nIl : l ≠ s.heap.objs.size := Nat.ne_of_lt ltl
  have W := Walks.list (prog := prog) (w := w) (A := A.in1) hh s.heap.objs.size l nIl (rs.map Value.ref).toArray
  have esz : (rs.map Value.ref).toArray.size = rs.length := by simp
  rw [esz] at W
  have kS : ∀ b o, h1.get? b = some o → (h1.push { cls := .type "list", data := .seq #[.ref t] }).get? b = some o := fun b o e => Heap.get?_push_of_some _ e
  have lr : ∀ j r, rs[j]? = some r → r ∉ [s.heap.objs.size] ∧ r ≠ h1.objs.size := fun j r hr => by
    obtain ⟨n, e⟩ := hrows j r hr
    have q := Heap.lt_size e
    exact ⟨fun z => Nat.ne_of_lt q (List.mem_singleton.mp z), Nat.ne_of_lt (low q)⟩
  refine wpAny_pure ⟨plainId_quiet F.plain_sum_loop _, sum_cat s.heap.objs.size l rs rows W h1.objs.size ?_ rs.length 0 _ t #[] na 0 rfl (Nat.zero_le _) ⟨⟨_, kS _ _ hI, rfl, rfl⟩, hl.at fun o e => kS _ _ (k1 _ _ e)⟩ (Heap.get?_push_size _ rfl) (kS _ _ (k1 _ _ ht)) ?_ ?_ trivial ?_ ?_ ?_ ?_⟩
  · intro z
    rcases List.mem_cons.mp z with z | z
    · exact Nat.ne_of_gt lt1 z
    · exact Nat.ne_of_gt (low ltl) (List.mem_singleton.mp z)
  · intro z
    rcases List.mem_cons.mp z with z | z
    · exact Nat.ne_of_lt ltt z
    · exact nl (List.mem_singleton.mp z)
  · exact Nat.ne_of_lt (low ltt)
  · intro j r hr
    obtain ⟨n, e⟩ := hrows j r hr
    exact ⟨n, kS _ _ (k1 _ _ e)⟩
  · intro r hr
    obtain ⟨j, hj⟩ := List.getElem?_of_mem hr
    exact lr j r hj
  · intro j hj
    simp only [Nat.zero_add]
    have := hbd j (by omega)
    simpa using this
  · intro h' tk t' n' hk hL ht'
    simp only [Nat.zero_add, Nat.sub_zero] at hL
    refine h h' tk t' n' (fun b o e => ?_) hL ?_
    · have hb := Heap.lt_size e
      exact hk b o (fun z => Nat.ne_of_lt hb (List.mem_singleton.mp z)) (Nat.ne_of_lt (low hb)) (kS _ _ (k1 _ _ e))
    · rcases ht' with z | z
      · exact .inl z
      · refine .inr ?_
        cases q : s.heap.get? t' with
        | none => rfl
        | some o => rw [kS _ _ (k1 _ _ q)] at z; cases z
end
/-! ### the rule -/
def rSumL (K : PySem.W.Frag) : List V → Hp → VK → Prop := fun xs H Q => ∃ (a b : Addr) (rs : List Addr) (rows : List (List V)), xs = [.ref a, .ref b] ∧ H a = some (.lst (rs.map V.ref)) ∧ H b = some (.lst []) ∧ b ≠ a ∧ rows.length = rs.length ∧
  (∀ (i : Nat) r row, rs[i]? = some r → rows[i]? = some row → H r = some (.lst row)) ∧ rows.flatten.length ≤ sizeLine ∧ (rs = [] → Q (.ref b) H) ∧ (∀ p, H p = none → Q (.ref p) (upd H p (.lst rows.flatten)))
theorem vals_refs : ∀ {rs : List Addr} {us : List Value}, Vals (rs.map V.ref) us → us = rs.map Value.ref
  | [], _, .nil => rfl
  | r :: rs, _, .cons h q => by
    cases h
    rw [vals_refs q]
    rfl
theorem vals_flat : ∀ {rows : List (List V)} {f : Nat → Array Value}, (∀ (i : Nat) row, rows[i]? = some row → Vals row (f i).toList) → Vals rows.flatten (((List.range rows.length).map fun x => (f x).toList).flatten)
  | [], _, _ => .nil
  | row :: rows, f, h => by
    rw [List.flatten_cons, List.length_cons, List.range_succ_eq_map, List.map_cons, List.map_map, List.flatten_cons]
    exact (h 0 row rfl).append (vals_flat (f := fun x => f (x + 1)) fun i r hr => h (i + 1) r hr)
theorem foldl_app : ∀ (L : List (Array Value)) (acc : Array Value), (L.foldl (· ++ ·) acc).toList = acc.toList ++ (L.map Array.toList).flatten
  | [], acc => by simp
  | a :: L, acc => by
    rw [List.foldl_cons, foldl_app L, Array.toList_append, List.map_cons, List.flatten_cons, List.append_assoc]
theorem objok_there {P : Program} {w : World} {H : Hp} {h : Heap} {a : Addr} {o : HO} (x : ObjOk P w H h a o) : ∃ ob, h.get? a = some ob := by
  induction o with
  | lst xs => obtain ⟨z, its, n, r, e⟩ := x; exact ⟨_, e⟩
  | tup xs => obtain ⟨z, its, r, ob, e, c⟩ := x; exact ⟨_, e⟩
  | dK kvs => obtain ⟨z, y, vs, r, ob, es, ep, e, c⟩ := x; exact ⟨_, e⟩
  | dT kvs => obtain ⟨z, y, xs, r, ob, es, ep, e, c⟩ := x; exact ⟨_, e⟩
  | set S n => obtain ⟨ob, es, ep, t, e, c⟩ := x; exact ⟨_, e⟩
  | ins C dx fs => obtain ⟨d, z, ne, e, mA, ⟨od, es, ep, e2, c⟩, r⟩ := x; exact ⟨_, e⟩
  | own y => obtain ⟨ob, e⟩ := x; exact ⟨_, e⟩
  | xd fs => obtain ⟨mA, ⟨od, es, ep, e, c⟩, r⟩ := x; exact ⟨_, e⟩
  | rng lo hi => obtain ⟨t, u, v, e⟩ := x; exact ⟨_, e⟩
  | frz ob u ih => obtain ⟨e, q⟩ := x; exact ⟨_, e⟩
  | tbl ps => exact ⟨_, x⟩
  | met f y => exact ⟨_, x⟩
  | ext φ => obtain ⟨p, ⟨o, e⟩, st⟩ := x; exact ⟨_, e⟩
theorem cr_sumL {X : Cx} (hc : X.calm = true) : CallR X (.builtin "sum") (rSumL X.K) := by
  intro pins s σ H xs us Q I r h
  obtain ⟨a, b, rs, rows, rfl, ha, hb, nab, hl, hrow, hsz, q1, q2⟩ := h
  cases r with
  | cons r1 r2 =>
    cases r2 with
    | cons r2 r3 =>
      cases r3
      cases r1
      cases r2
      obtain ⟨_, its, n, rv, hlen, e⟩ := I.lstM ha
      obtain rfl := vals_refs rv
      obtain ⟨_, itb, nb, rvb, _, eb⟩ := I.lstM hb
      cases rvb
      let f : Nat → Array Value := fun j => match rs[j]? with
        | some r => (match s.heap.get? r with
          | some ⟨_, _, .seq its _, _⟩ => its
          | _ => #[])
        | none => #[]
      have hf : ∀ (j : Nat) r row, rs[j]? = some r → rows[j]? = some row → (∃ n, IsL s.heap r (f j) n) ∧ Vals row (f j).toList := fun j r row h1 h2 => by
        have g2 := hrow j r row h1 h2
        obtain ⟨_, itr, nr, rvr, _, er⟩ := I.lstM g2
        have ef : f j = itr.toArray := by
          show (match rs[j]? with
            | some r => (match s.heap.get? r with
              | some ⟨_, _, .seq its _, _⟩ => its
              | _ => #[])
            | none => #[]) = _
          rw [h1]
          show (match s.heap.get? r with
            | some ⟨_, _, .seq its _, _⟩ => its
            | _ => #[]) = _
          rw [er]
        rw [ef]
        exact ⟨⟨nr, er⟩, rvr⟩
      have get2 : ∀ {j : Nat} {r : Addr}, rs[j]? = some r → ∃ row, rows[j]? = some row := fun {j r} h1 => by
        have := (List.getElem?_eq_some_iff.mp h1).1
        exact ⟨_, List.getElem?_eq_getElem (by rw [hl]; exact this)⟩
      have hv : ∀ (i : Nat) row, rows[i]? = some row → Vals row (f i).toList := fun i row h2 => by
        have := (List.getElem?_eq_some_iff.mp h2).1
        exact (hf i _ row (List.getElem?_eq_getElem (by rw [← hl]; exact this)) h2).2
      have sizes : ∀ j, j ≤ rs.length → (((List.range j).map fun x => (f x).size).sum) ≤ sizeLine := fun j hj => by
        refine Nat.le_trans ?_ hsz
        have key : ∀ {rows : List (List V)} {f : Nat → Array Value} {j : Nat}, j ≤ rows.length → (∀ (i : Nat) row, rows[i]? = some row → Vals row (f i).toList) → ((List.range j).map fun x => (f x).size).sum ≤ rows.flatten.length := by
          intro rows
          induction rows with
          | nil => intro f j hj _; obtain rfl : j = 0 := by simpa using hj
                   simp
          | cons row rows ih =>
            intro f j hj hv
            cases j with
            | zero => simp
            | succ j =>
              rw [List.range_succ_eq_map, List.map_cons, List.map_map, List.sum_cons, List.flatten_cons, List.length_append]
              have h0 := (hv 0 row rfl).length
              have := ih (f := fun x => f (x + 1)) (j := j) (by simpa using hj) fun i r hr => hv (i + 1) r hr
              have e0 : (f 0).size = row.length := by
                rw [Array.length_toList] at h0
                exact h0.symm
              rw [e0]
              exact Nat.add_le_add_left this _
        exact key (by rw [hl]; exact hj) hv
      refine sum_lists (rows := f) (na := nb) (I.ok.hd hc) ⟨_, e, rfl, n, rfl⟩ eb nab (fun j r hr => ?_) sizes fun h' tk t' n' hk hL ht' => ?_
      · obtain ⟨row, h2⟩ := get2 hr
        exact (hf j r row hr h2).1
      · rcases ht' with ⟨z1, z2⟩ | z
        · rw [z1]
          exact ⟨.ref b, H, I.kept hk, rfl, q1 (List.eq_nil_of_length_eq_zero z2)⟩
        · have nH : H t' = none := by
            cases qq : H t' with
            | none => rfl
            | some u =>
              obtain ⟨o, eo⟩ := objok_there (I.hok t' u qq)
              rw [z] at eo
              cases eo
          refine ⟨.ref t', _, I.laidN (o := .lst rows.flatten) hk z nH ?_, rfl, q2 t' nH⟩
          have e3 := foldl_app ((List.range rs.length).map f) #[]
          refine ⟨hsz, (((List.range rs.length).map f).foldl (· ++ ·) #[]).toList, n', ?_, hL⟩
          rw [e3, List.map_map, ← hl]
          exact vals_flat hv
/-- sum(lists, []) -/
def D.rowsL : List D → Option (List (List D))
  | [] => some []
  | .lst xs :: r => (D.rowsL r).map (xs :: ·)
  | _ => none
def eSumL (f : ME) : ME := fun ρ q qe => f ρ (fun x => match x with
  | .lst ys => (match D.rowsL ys with
    | some rows => rows.flatten.length ≤ sizeLine ∧ q (.lst rows.flatten)
    | none => False)
  | _ => False) qe
theorem rowsL_rep {K : PySem.W.Frag} {a : Hd} {Hs : Hp} : ∀ {ys : List D} {vs : List V} {rows : List (List D)}, RepL K a Hs ys vs → D.rowsL ys = some rows → ∃ (rs : List Addr) (vss : List (List V)), vs = rs.map V.ref ∧ vss.length = rs.length ∧ rows.length = rs.length ∧
    (∀ (i : Nat) r row, rs[i]? = some r → vss[i]? = some row → Hs r = some (.lst row)) ∧ RepL K a Hs rows.flatten vss.flatten
  | [], _, rows, .nil, e => by
    cases e
    exact ⟨[], [], rfl, rfl, rfl, fun i r row h => (by simp at h), .nil⟩
  | d :: ys, _, rows, .cons h r, e => by
    cases h with
    | lst h1 h2 =>
      rename_i p us ds
      have e1 : (D.rowsL ys).map (ds :: ·) = some rows := e
      obtain ⟨rows', e2, rfl⟩ := Option.map_eq_some_iff.mp e1
      obtain ⟨rs, vss, rfl, l1, l2, h3, h4⟩ := rowsL_rep r e2
      refine ⟨p :: rs, us :: vss, rfl, congrArg (· + 1) l1, congrArg (· + 1) l2, fun i r row hr hw => ?_, ?_⟩
      · cases i with
        | zero => cases hr; cases hw; exact h1
        | succ i => exact h3 i r row (by simpa using hr) (by simpa using hw)
      · rw [List.flatten_cons, List.flatten_cons]
        exact h2.append h4
    | _ => cases e
theorem dt_sumL {C : Ctx} {t : TE} {f : ME} (h : DB C t f) : DT C (tCB (rSumL C.K) (tCons t (tCons (tLst tNil) tNil))) (eSumL f) := by
  refine ⟨fun Hs ρ σ H q qe Q l r w k => ?_⟩
  refine h.run Hs ρ σ H _ qe _ l r w fun d v Hs1 H1 w1 g1 r1 p1 => ?_
  split at w1
  · rename_i ys
    split at w1
    · rename_i rows er
      obtain ⟨a, us, rfl, h1, h2⟩ := p1.lst r1.sh
      obtain ⟨rs, vss, rfl, l1, l2, h3, h4⟩ := rowsL_rep h2 er
      refine ⟨by show 0 ≤ sizeLine; exact Nat.zero_le _, fun b hb => ?_⟩
      have r2 := r1.side (o := .lst []) hb
      have g2 := r1.gr_side (o := .lst []) hb
      have nba : b ≠ a := fun z => by rw [z, h1] at hb; cases hb
      have keepb : ∀ {c : Addr} {o : HO}, H1 c = some o → (upd H1 b (.lst [])) c = some o := fun {c o} e => by rw [upd_ne (ne_of_none e hb)]; exact e
      refine ⟨a, b, rs, vss, rfl, keepb h1, upd_same, nba, l1, fun i r row hr hw => ?_, by rw [← h4.length]; exact w1.1, fun z => ?_, fun p hp => ?_⟩
      · exact keepb (r1.sh _ _ (h3 i r row hr hw))
      · subst z
        have e0 : vss = [] := List.eq_nil_of_length_eq_zero l1
        have e1 : rows = [] := List.eq_nil_of_length_eq_zero l2
        subst e0 e1
        exact k (.lst []) (.ref b) (upd Hs1 b (.lst [])) _ w1.2 (g1.trans (r1.gr_new hb)) (r1.alloc hb) (.lst upd_same .nil)
      · have e5 := (h4.mono (same_upd (o := .lst vss.flatten) (r2.fresh_s hp)))
        exact k _ (.ref p) _ _ w1.2 (g1.trans (g2.trans (r2.gr_new hp))) (r2.alloc hp) (.lst upd_same e5)
    · exact w1.elim
  · exact w1.elim
end Fd
/-! a tuple times an int -/
namespace Fd
open PySem PySem.Spec PyProof.Rows L2
open AutoSeq1 (wpAny_loadPart')
theorem tupleOnce (l : Addr) (items : Array Value) (n : Nat) (dd : Option Addr) (sl : Array (Option Value)) (x : Int) (u : Tok) (c0 : (decide (x < -(2 ^ 63)) || decide (x ≥ 2 ^ 63)) = false) (c1 : (items.isEmpty || x == 1) = true) :
    Meets (Builtin.«tuple.__mul__» ⟨[.ref l, .int x u], []⟩) (fun _ R s => s.heap.get? l = some { cls := .type "tuple", dict := dd, data := .seq items n, slots := sl } ∧ R (.ok (.ret (Value.ref l))) s) :=
  .of_wp fun prog w A R s h => by
    obtain ⟨hh, gs, dr, tks, oss⟩ := s
    obtain ⟨hl, hr⟩ := h
    have fi := AutoSeq1.idx_int
    wp_walk using wpAny_loadPart' hl
    repeat (first
      | (refine wpAny_ite_false (decide_eq_false (by rw [c0]; exact Bool.false_ne_true)) ?_; wp_walk using wpAny_loadPart' hl)
      | (refine wpAny_ite_true (decide_eq_true c1) ?_; wp_walk using wpAny_loadPart' hl))
    exact ⟨_, rfl, hr⟩
theorem tupleNever (l : Addr) (items : Array Value) (n : Nat) (dd : Option Addr) (sl : Array (Option Value)) (x : Int) (u : Tok) (c0 : (decide (x < -(2 ^ 63)) || decide (x ≥ 2 ^ 63)) = false) (c1 : (items.isEmpty || x == 1) = false) (c2 : (decide (x ≤ 0) || items.isEmpty) = true) :
    Meets (Builtin.«tuple.__mul__» ⟨[.ref l, .int x u], []⟩) (fun _ R s => s.heap.get? l = some { cls := .type "tuple", dict := dd, data := .seq items n, slots := sl } ∧
      R (.ok (.ret (Value.ref s.heap.objs.size))) { s with heap := s.heap.push { cls := Value.type "tuple", data := Data.seq #[] }, toks := s.toks }) :=
  .of_wp fun prog w A R s h => by
    obtain ⟨hh, gs, dr, tks, oss⟩ := s
    obtain ⟨hl, hr⟩ := h
    have fi := AutoSeq1.idx_int
    wp_walk using wpAny_loadPart' hl
    repeat (first
      | (refine wpAny_ite_false (decide_eq_false (by rw [c0]; exact Bool.false_ne_true)) ?_; wp_walk using wpAny_loadPart' hl)
      | (refine wpAny_ite_false (decide_eq_false (by rw [c1]; exact Bool.false_ne_true)) ?_; wp_walk using wpAny_loadPart' hl)
      | (refine wpAny_ite_true (decide_eq_true c2) ?_; wp_walk using wpAny_loadPart' hl))
    exact ⟨_, rfl, hr⟩
/-- once: itself; never: the empty one -/
def rRepT1 (K : PySem.W.Frag) : R2 := fun x y H Q => ∃ l k xs, x = .ref l ∧ y = .int k ∧ SqT K H l xs ∧ -1000 ≤ k ∧ k ≤ 1000 ∧
  (((xs = [] ∨ k = 1) ∧ Q (.ref l) H) ∨ (xs ≠ [] ∧ k ≤ 0 ∧ ∀ (p : Addr) (o : Obj), o.dict = none → H p = none → Q (.ref p) (upd H p (frT o []))))
theorem op_repT1 {X : Cx} : OpR X (binaryOp .Mult) (rRepT1 X.K) := by
  intro pins s σ H x y v u Q I rx ry h
  obtain ⟨l, k, xs, rfl, rfl, hT, h1, h2, hq⟩ := h
  cases rx
  obtain ⟨t, rfl⟩ := ry
  obtain ⟨its, r, ⟨⟨cls, dd, data, sl⟩, ho, hc, n, hd⟩, hs⟩ := I.tuple hT
  simp only at hc hd
  subst hc hd
  have c0 : (decide (k < -(2 ^ 63)) || decide (k ≥ 2 ^ 63)) = false := by
    rw [decide_eq_false (by omega), decide_eq_false (by omega)] <;> rfl
  have hnil : xs = [] ↔ its = [] := r.nil_iff.symm
  have eE : its.toArray.isEmpty = its.isEmpty := by cases its <;> rfl
  refine wpAny_binaryOp_repeat_ref (T := "tuple") (U := "int") (by decide) ⟨_, ho, rfl⟩ (fun s' => typeIs_int s' k t) L2.noFill_tuple_mul F.fills_int_mul F.slot_int_rmul L2.repeat_tuple F.slot_int_index.lookup
    (call_meets F.slot_int_rmul (typeIs_int s k t) F.entry_int_rmul (F.args_int_rmul_2 _ _) (L2.int_rmul_tuple k t l its.toArray n dd sl) ⟨ho, rfl, ⟨_, ho, rfl⟩, ?_⟩)
  rcases hq with ⟨hx, q⟩ | ⟨hx, hk, q⟩
  · refine call_meets F.slot_tuple_mul ⟨_, ho, rfl⟩ F.entry_tuple_mul (F.args_tuple_mul_2 _ _) (tupleOnce l its.toArray n dd sl k t c0 ?_) ⟨ho, ?_⟩
    · rw [eE]
      rcases hx with z | z
      · rw [hnil.mp z]; rfl
      · subst z
        rw [Bool.or_eq_true]
        exact .inr rfl
    · exact ⟨.ref l, H, I, rfl, q⟩
  · have hi : its.isEmpty = false := by
      cases its with
      | nil => exact absurd (hnil.mpr rfl) hx
      | cons a b => rfl
    refine call_meets F.slot_tuple_mul ⟨_, ho, rfl⟩ F.entry_tuple_mul (F.args_tuple_mul_2 _ _) (tupleNever l its.toArray n dd sl k t c0 ?_ ?_) ⟨ho, ?_⟩
    · rw [eE, hi, Bool.false_or]
      exact beq_eq_false_iff_ne.mpr (by omega)
    · rw [Bool.or_eq_true]
      exact .inl (decide_eq_true hk)
    · exact ⟨.ref s.heap.objs.size, _, I.laid (t' := s.toks) (o := frT { cls := .type "tuple", data := .seq #[] } []) (fun b ob q => Heap.get?_push_of_some _ q) (Nat.le_refl _) ⟨Heap.get?_push_size _ rfl, Nat.zero_le _, [], .nil, IsTup.new _ _⟩, rfl, q _ _ rfl (I.hok.fresh (Nat.le_refl _))⟩
/-- t * k, k from 2 on, t not empty: a new tuple, whose object is known -/
def rRepF (K : PySem.W.Frag) : R2 := fun x y H Q => ∃ l k xs, x = .ref l ∧ y = .int k ∧ SqT K H l xs ∧ xs ≠ [] ∧ 2 ≤ k ∧ k ≤ 1000 ∧ xs.length ≤ 1000 ∧ ∀ (p : Addr) (o : Obj), o.dict = none → H p = none → Q (.ref p) (upd H p (frT o (List.replicate k.toNat xs).flatten))
theorem rep_big {n : Nat} {k : Int} (h1 : 2 ≤ k) (h2 : k ≤ 1000) (hz : n ≤ 1000) : (n : Int) * k ≤ 1000000 := by
  have : (n : Int) * k ≤ 1000 * k := Int.mul_le_mul_of_nonneg_right (by omega) (by omega)
  omega
theorem rep_raw {prog : Program} {w : World} {A : Around} {E : Value → Shared → Prop} {s : Shared} {Q : Value → Shared → Prop} {l : Addr} {its : List Value} {n : Nat} {dd : Option Addr} {sl : Array (Option Value)} {k : Int} {t : Tok}
    (ho : s.heap.get? l = some ⟨.type "tuple", dd, .seq its.toArray n, sl⟩) (hn : its ≠ []) (h1 : 2 ≤ k) (h2 : k ≤ 1000) (hz : its.length ≤ 1000)
    (h : Q (.ref s.heap.objs.size) { s with heap := s.heap.push { cls := .type "tuple", data := .seq (List.replicate k.toNat its).flatten.toArray } }) : wpAny (model prog w) A (binaryOp .Mult (.ref l) (.int k t)) Q E s := by
  have eE : its.toArray.isEmpty = false := by
    cases its with
    | nil => exact absurd rfl hn
    | cons a b => rfl
  have es : its.toArray.size = its.length := List.size_toArray ..
  have big := rep_big (n := its.toArray.size) h1 h2 (by rw [es]; exact hz)
  have fl : (List.replicate k.toNat its).flatten.length ≤ sizeLine := by
    have : k.toNat * its.length ≤ 1000 * 1000 := Nat.mul_le_mul (by omega) hz
    rw [PyProof.Rows.lm_len_rep_flat, sizeLine_eq]
    omega
  have b0 : (decide (k < -(2 ^ 63)) || decide (k ≥ 2 ^ 63)) = false := by rw [Bool.or_eq_false_iff, decide_eq_false_iff_not, decide_eq_false_iff_not]; omega
  have b1 : (its.toArray.isEmpty || k == 1) = false := by rw [eE, Bool.false_or, beq_eq_false_iff_ne]; omega
  have b2 : (decide (k ≤ 0) || its.toArray.isEmpty) = false := by rw [eE, Bool.or_false, decide_eq_false_iff_not]; omega
  have b4 : Builtin.Tuple.tupleTooMany (((its.toArray.size : Nat) : Int) * k) = false := by
    unfold Builtin.Tuple.tupleTooMany
    rw [sizeLine_eq, decide_eq_false_iff_not]
    omega
  have ty : s.TypeIs (.ref l) "tuple" := ⟨_, ho, rfl⟩
  have sz : (List.foldl (fun x1 x2 => x1 ++ x2) #[] (List.replicate k.toNat its.toArray)).size ≤ sizeLine := by rw [L2.size_rep, List.size_toArray]; exact fl
  refine wpAny_binaryOp_repeat_ref (T := "tuple") (U := "int") (by decide) ty (fun s' => typeIs_int s' k t) L2.noFill_tuple_mul F.fills_int_mul F.slot_int_rmul L2.repeat_tuple F.slot_int_index.lookup ?_
  refine call_meets F.slot_int_rmul (typeIs_int s k t) F.entry_int_rmul (F.args_int_rmul_2 _ _) (L2.int_rmul_tuple k t l its.toArray n dd sl) ⟨ho, rfl, ty, ?_⟩
  refine call_meets F.slot_tuple_mul ty F.entry_tuple_mul (F.args_tuple_mul_2 _ _) (L2.tuple_mulW l its.toArray n dd sl k t b0 b1 b2 (by omega) b4 sz) ⟨ho, ?_⟩
  rw [L2.size_rep]
  exact h
theorem op_repF {X : Cx} : OpR X (binaryOp .Mult) (rRepF X.K) := by
  intro pins s σ H x y v u Q I rx ry h
  obtain ⟨l, k, xs, rfl, rfl, hT, hne, h1, h2, hz, q⟩ := h
  obtain rfl : v = Value.ref l := rx
  obtain ⟨t, rfl⟩ := ry
  obtain ⟨its, r, ⟨⟨cls, dd, data, sl⟩, ho, hc, n, hd⟩, _⟩ := I.tuple hT
  obtain rfl : cls = .type "tuple" := hc
  obtain rfl : data = .seq its.toArray n := hd
  have e1 := r.length
  refine rep_raw ho (fun z => hne (r.nil_iff.mp z)) h1 h2 (by omega) ?_
  refine ⟨.ref s.heap.objs.size, _, I.laid (t' := s.toks) (o := frT { cls := .type "tuple", data := .seq (List.replicate k.toNat its).flatten.toArray } (List.replicate k.toNat xs).flatten) (fun _ _ e => Heap.get?_push_of_some _ e) (Nat.le_refl _) ⟨Heap.get?_push_size _ rfl, ?_, _, r.rep k.toNat, IsTup.new _ _⟩, rfl, q _ _ rfl (I.hok.fresh (Nat.le_refl _))⟩
  have : k.toNat * xs.length ≤ 1000 * 1000 := Nat.mul_le_mul (by omega) hz
  rw [PyProof.Rows.lm_len_rep_flat, sizeLine_eq]
  omega
/-! ### all products -/
def dMulT : O2 := fun x y q => match x, y with
  | .int i, .int j => CMul i j ∧ q (.int (i * j))
  | .lst xs, .int k => (-(2 ^ 63) ≤ k ∧ k < 2 ^ 63 ∧ xs.length * k.toNat ≤ sizeLine) ∧ q (.lst (List.replicate k.toNat xs).flatten)
  | .tup xs, .int k => (-1000 ≤ k ∧ k ≤ 1000 ∧ xs.length ≤ 1000) ∧ q (.tup (List.replicate k.toNat xs).flatten)
  | _, _ => False
def rMulT (K : PySem.W.Frag) : R2 := fun x y H Q => rMulX x y H Q ∨ (rRepF K x y H Q ∨ rRepT1 K x y H Q)
theorem op_mulT {X : Cx} : OpR X (binaryOp .Mult) (rMulT X.K) := OpR.or op_mulXX (OpR.or op_repF op_repT1)
theorem d2_mulT {C : Ctx} : D2 C (rMulT C.K) dMulT := by
  refine ⟨fun Hs ρ σ H x y vx vy q Q r px py w k => ?_⟩
  unfold dMulT at w
  split at w
  · exact .inl (d2_mul.run Hs ρ σ H _ _ vx vy q Q r px py w k)
  · exact .inl (d2_mul.run Hs ρ σ H _ _ vx vy q Q r px py w k)
  · rename_i xs j
    obtain ⟨p, vs, rfl, h1, h2⟩ := px.tup r.sh
    cases py with
    | sh py =>
      cases py
      obtain ⟨⟨k0, k1, kl⟩, w⟩ := w
      have hl := h2.length
      by_cases e : vs = []
      · have ex : xs = [] := List.eq_nil_of_length_eq_zero (by rw [hl, e]; rfl)
        subst ex
        have e2 : (List.replicate j.toNat ([] : List D)).flatten = [] := by simp
        rw [e2] at w
        exact .inr (.inr ⟨p, j, vs, rfl, rfl, h1, k0, k1, .inl ⟨.inl e, k _ _ Hs H w Gr.refl r px.tupR⟩⟩)
      · by_cases e1 : j = 1
        · subst e1
          have e2 : (List.replicate (1 : Int).toNat xs).flatten = xs := by
            show (List.replicate 1 xs).flatten = xs
            simp
          rw [e2] at w
          exact .inr (.inr ⟨p, 1, vs, rfl, rfl, h1, k0, k1, .inl ⟨.inr rfl, k _ _ Hs H w Gr.refl r px.tupR⟩⟩)
        · by_cases e0 : j ≤ 0
          · refine .inr (.inr ⟨p, j, vs, rfl, rfl, h1, k0, k1, .inr ⟨e, e0, fun b o ho hb => ?_⟩⟩)
            have z : j.toNat = 0 := by omega
            rw [z] at w
            obtain ⟨s, g, r'⟩ := upd_rs (o := frT o []) r hb
            exact k _ _ _ _ w g r' (.tup sqT_fr (ndT_fr ho) .nil)
          · refine .inr (.inl ⟨p, j, vs, rfl, rfl, h1, e, by omega, k1, by rw [← hl]; exact kl, fun b o ho hb => ?_⟩)
            obtain ⟨s, g, r'⟩ := upd_rs (o := frT o (List.replicate j.toNat vs).flatten) r hb
            exact k _ _ _ _ w g r' (.tup sqT_fr (ndT_fr ho) ((h2.rep _).mono s))
  · exact w.elim
end Fd
/-! e.told(), e a caught exception: a method that returns a field -/
namespace Fd
open PySem PySem.Spec PyProof.Rows L2
/-- e.f wherever e's object is pinned -/
theorem pe_xfG {X : Cx} {a : Addr} {oe : Obj} {cls : Value} {d : Option Addr} {e : Expr} {te : TE} {pos : Pos} {n : Str}
    (hp : (a, oe) ∈ X.pn) (hz : Zc cls d oe) (hf : ∃ vs, oe.data = .fields vs) (he : PE X e te) (hb : attributeBase e n X.env (eval e X.env) = eval e X.env := by rfl) :
    PE X (.Attribute e n pos) (tXfA X.K a cls d n te) := by
  refine ⟨fun pins s σ H Q I h => ?_⟩
  refine attr_of hb (thn (he.run pins s σ H _ I h) fun u s1 hh => ?_)
  obtain ⟨x, H1, I1, rx, C, T, hno, ex, ec, dd, fs, v, ed, ea, l, q⟩ := hh
  subst ex
  obtain rfl : u = Value.ref a := rx
  subst ec
  subst ed
  obtain ⟨ha, _⟩ := I1.pin (a, oe) (List.mem_append_left _ hp)
  obtain ⟨vs, hd⟩ := hf
  have hx : ObjOk X.prog X.w H1 s1.heap dd (.xd fs) := I1.hok dd _ ea
  obtain ⟨mA, hns, hr⟩ := hx
  obtain ⟨od, ho, hl⟩ := lookIn_ns hns
  obtain ⟨u, hu, ru⟩ := RelO.some_of (v := v) (o := mA n) (by rw [← l]; exact hr n)
  have J : PySem.W.InstAt s1.heap a oe C (some od) := ⟨ha, hz.1, by unfold PySem.W.notCls; rw [hd] <;> rfl, by rw [hz.2]; exact ho⟩
  exact HandSPX.exc_get I1.kIn J T.ga T.gg T.exC (PySem.W.findObj_own T.hdC hno rfl (by rw [hl, hu])) (handed_of ru) ⟨v, H1, I1.tok _, ru, q⟩
section
variable {K : PySem.W.Frag} {prog : Program} {w : World} {A : Around} {E : Value → Shared → Prop} {s : Shared} {x C f : Addr} {ox : Obj} {od : Obj} {name : Str}
/-- the method of an exception's class -/
theorem exc_meth {pl : Sem Bool} {Q : Value × List Value → Shared → Prop} (kin : K.In s.heap) (J : PySem.W.InstAt s.heap x ox C (some od)) (T : XfC K C) (hm : PySem.W.findIn K (.ref C) name = some (some (.ref f)))
    (hfn : PySem.W.isFn K (.ref f) = true) (hl : PySem.W.lookIn name od = some none) (q : Q (.ref f, [.ref x]) s) : wpAny (model prog w) A (getMethod (.ref x) name pl) Q E s := by
  have hcan : Manifest.canonical "BaseException.__getattribute__" = "object.__getattribute__" := by kernel_rfl
  unfold getMethod specialOf
  refine wpAny_bind (wpAny_bind (J.type.here ((PySem.W.looks_findIn kin T.ga).here ?_)))
  dsimp only
  rw [hcan, if_neg (by decide)]
  refine wpAny_bind (wpAny_bind (J.type.here ((PySem.W.looks_findIn kin T.gg).here ?_)))
  refine wpAny_bind (wpAny_bind (J.type.here ((PySem.W.looks_findIn kin hm).here (wpAny_bind ((PySem.W.looks_typeIn kin (beq_iff_eq.mp hfn)).here ?_)))))
  rw [if_neg (by decide +kernel)]
  refine wpAny_bind (wpAny_loadPart J.at_ ?_)
  have hdx := J.dict
  cases e : ox.dict with
  | none => rw [e] at hdx; exact hdx.elim
  | some dx =>
    rw [e] at hdx
    refine wpAny_bind (wpAny_bind (wpAny_loadPart hdx ?_))
    rw [PySem.W.nsLook_of hl]
    exact wpAny_pure (wpAny_bind (wpAny_rule (wpAny_pure q)))
end
/-- what the classes XS have: told(), a def that returns the field g -/
structure XTol (K : PySem.W.Frag) (XS : List Str) (m : Str) (f : Addr) : Prop where
  c : ∀ c ∈ XS, XfC K (He.ga K c)
  at_ : ∀ c ∈ XS, PySem.W.findIn K (.ref (He.ga K c)) m = some (some (.ref f))
  fn : PySem.W.isFn K (.ref f) = true
  kp : PySem.W.keepIn K (.ref f) = true
/-- e.told(), of any class -/
def tTold (K : PySem.W.Frag) (f : Addr) (m g : Str) (a : Addr) (cls : Value) (d : Option Addr) (te : TE) : TE := fun σ H Q => te σ H fun x H1 => ∃ C, XfC K C ∧ PySem.W.findIn K (.ref C) m = some (some (.ref f)) ∧ PySem.W.findIn K (.ref C) g = some none ∧ x = .ref a ∧ cls = .ref C ∧
  ∃ (dd : Addr) (fs : List (Str × V)) (v : V), d = some dd ∧ H1 dd = some (.xd fs) ∧ fs.lookup m = none ∧ fs.lookup g = some v ∧ Q v H1
theorem pe_told {X : Cx} {a f : Addr} {oe : Obj} {cls : Value} {d : Option Addr} {pn : List (Addr × Obj)} {o : Expr} {te : TE} {apos pos q1 q2 q3 : Pos} {m g qual : Str} {params : Arguments} {scope : Scope} {pl : Sem Bool}
    (F : ∃ fd, FunD X.K m qual params [.Return (some (.Attribute (.Name "self" q1) g q2)) q3] scope [] [] f fd) (S : FnScope ["self"] ["self"] scope) (hfn : PySem.W.isFn X.K (.ref f) = true) (hkp : PySem.W.keepIn X.K (.ref f) = true)
    (bd : ∀ (kV doc pm : Value) (an : Option Addr) (cdv ct : Value) (us : List Value), us.length = 1 → bindArgs (PySem.W.fnOf m qual params [.Return (some (.Attribute (.Name "self" q1) g q2)) q3] scope .none kV doc pm an cdv ct) ⟨us, []⟩ = pure ((["self"] : List Str).zip us))
    (hdp : X.A.depth < recursionLimit) (hvs : Vis scope "self")
    (hz : Zc cls d oe) (hf : ∃ vs, oe.data = .fields vs) (he : PE (X.suite a ((a, oe) :: pn)) o te)
    (ht : eval (.Call (.Attribute o m apos) [] [] pos) X.env = (do
      let ov ← eval o X.env
      standAt apos.atName
      let (f, first) ← holding [ov] (getMethod ov m pl)
      callWith pos f first (backTo pos (starEach [] X.env)) (backToKw pos (keywordEach [] X.env))) := by rfl) :
    PE (X.suite a ((a, oe) :: pn)) (.Call (.Attribute o m apos) [] [] pos) (tTold X.K f m g a cls d te) := by
  obtain ⟨fd, F⟩ := F
  have hb := F.bindsN (ps := ["self"]) bd
  obtain ⟨oc, odf, dV, kV, doc, pm, an, cdv, ct, osl, rfl, lk, hcd, _, _⟩ := F.ex
  refine ⟨fun pins s σ H Q I h => ?_⟩
  refine PySem.W.methodCall_KW (pl := pl) (thn (he.run pins s σ H _ I h) fun u s1 hh => ?_) ht
  obtain ⟨x, H1, I1, rx, C, T, hm, hg, ex, ec, dd, fs, v, ed, ea, lm, lg, q⟩ := hh
  subst ex
  obtain rfl : u = Value.ref a := rx
  subst ec
  subst ed
  obtain ⟨ha, hna, hnL, hnF, hncell⟩ := I1.pin (a, oe) (List.mem_append_left _ List.mem_cons_self)
  have hx : ObjOk X.prog X.w H1 s1.heap dd (.xd fs) := I1.hok dd _ ea
  obtain ⟨mA, hns, hr⟩ := hx
  obtain ⟨od, ho, hl⟩ := lookIn_ns hns
  have hnone : mA m = none := RelO.none_of (by rw [← lm]; exact hr m)
  obtain ⟨vsO, hdO⟩ := hf
  have J : PySem.W.InstAt s1.heap a oe C (some od) := ⟨ha, hz.1, by unfold PySem.W.notCls; rw [hdO] <;> rfl, by rw [hz.2]; exact ho⟩
  refine exc_meth I1.kIn J T hm hfn (by rw [hl, hnone]) ?_
  refine PySem.W.callWith_K0 (first := [.ref a]) I1.kIn hkp ?_
  have e0 := I1.env0
  have KX : X.K.In s1.heap := I1.kIn
  have lim : s1.heap.NoLimit := e0.mod.nolimit.keeps fun b o e => (e0.bs b o e).1
  have bt := hb s1 [.ref a] KX rfl
  have hpin : L2H.PinOk X.stack H1 s1 (a, oe) := ⟨ha, hna, fun hm => (List.mem_cons.mp (I1.stkSub a hm)).elim hnL hnF, hncell⟩
  have hkind : ∀ y ∈ (["self"] : List Str).zip [Value.ref a], scope.names.lookup y.1 = some .local ∨ (scope.names.lookup y.1 = some .cell ∧ ((cellsFrom (s1.heap.objs.size + 1) scope.names []).lookup y.1).isSome = true) := fun ⟨n, v⟩ hy => by
    rcases S.par n (List.of_mem_zip hy).1 with z | z
    · exact .inl z
    · exact .inr ⟨z, PySem.W.cellsFrom_some _ _ _ (.inl z)⟩
  have rc : codeAny (model X.prog X.w) (X.suite a ((a, oe) :: pn)).A (.call (.ref f) ⟨[.ref a], []⟩) (CR C8.CX0 X.stack X.prog X.w H1 s1 Q C8.E0) s1 := by
    refine codeAny_call_function hdp (KX _ _ lk) rfl S.co S.gen rfl (PySem.W.codeRec_of KX hcd) (bt _ _ _ _ ?_)
    refine wpAny_newFunctionEnv_cells S.kind hkind fun env hev s2 y => ?_
    subst hev
    refine ⟨lim.keeps y.toInCall.keep, codeAny_func ?_⟩
    have I2 : Inv (L2H.cxH C8.CX0 X.prog X.w X.K X.mg X.base ["self"] qual scope f cdv (X.suite a ((a, oe) :: pn)).A X.stack s1 H1 C8.E0 (a, oe)) [] (L2.start ["self"] [.ref a]) H1 s2 := L2H.inv_startH S hpin e0 rfl (.cons rfl .nil) y
    have hps := pss_one (ps_ret (pos := q3) (pe_xfG (X := L2H.cxH C8.CX0 X.prog X.w X.K X.mg X.base ["self"] qual scope f cdv (X.suite a ((a, oe) :: pn)).A X.stack s1 H1 C8.E0 (a, oe)) (pos := q2) (n := g) (cls := .ref C) (d := some dd) (List.mem_singleton.mpr rfl) hz ⟨vsO, hdO⟩ (pe_var (i := 0) (pos := q1) rfl hvs (by decide) (by decide))))
    refine wpAny_mono (hps.run [] s2 (L2.start ["self"] [.ref a]) H1 { nx := fun _ H' => Q .non H', rt := Q } I2 ⟨.ref a, rfl, C, T, hg, rfl, rfl, dd, fs, v, rfl, ea, lg, q⟩) (fun fl s3 hs => ?_) fun e s3 hs => hs
    cases fl with
    | ret u =>
      obtain ⟨v', σ', H', J', rv, q'⟩ := hs
      exact ⟨v', H', J'.os, J'.bare, J'.base, J'.hok, rv, q'⟩
    | next =>
      obtain ⟨σ', H', J', q'⟩ := hs
      exact ⟨.non, H', J'.os, J'.bare, J'.base, J'.hok, rfl, q'⟩
    | brk =>
      obtain ⟨_, _, _, q'⟩ := hs
      exact False.elim q'
    | cont =>
      obtain ⟨_, _, _, q'⟩ := hs
      exact False.elim q'
  refine wpAny_call (codeAny_mono rc fun r s3 hq => ?_)
  cases r with
  | error e => exact (show False from hq).elim
  | ok fl =>
    cases fl with
    | ret u => exact I1.after hq
    | next => exact False.elim hq
    | brk => exact False.elim hq
    | cont => exact False.elim hq
/-- e.told(), e the caught one -/
def eTold (XS : List Str) (a : Addr) (cls : Value) (d : Option Addr) (i : Nat) (m g : Str) : ME := fun ρ q _ => match ρ[i]? with
  | some (.xc x a' cls' d') => a' = a ∧ cls' = cls ∧ d' = d ∧ x.1 ∈ XS ∧ x.2.lookup m = none ∧ ∃ y, x.2.lookup g = some y ∧ q y
  | _ => False
theorem repF_none {K : PySem.W.Frag} {a : Hd} {H : Hp} {f : Str} : ∀ {ds : List (Str × D)} {vs : List (Str × V)}, RepF K a H ds vs → ds.lookup f = none → vs.lookup f = none
  | _, _, .nil, _ => rfl
  | _, _, .cons (k := k) h r, e => by
    by_cases q : (f == k) = true
    · simp only [List.lookup, q] at e
      cases e
    · have q2 : (f == k) = false := by simpa using q
      simp only [List.lookup, q2] at e ⊢
      exact repF_none r e
theorem dt_told {C : Ctx} {XS : List Str} {a f : Addr} {cls : Value} {d : Option Addr} {i : Nat} {m g : Str} (h : XTol C.K XS m f) (hg : XFl C.K XS g) : DT C (tTold C.K f m g a cls d (tVar i)) (eTold XS a cls d i m g) := by
  refine ⟨fun Hs ρ σ H q qe Q l r w k => ?_⟩
  unfold eTold at w
  split at w
  · rename_i x a' cls' d' e
    obtain ⟨rfl, rfl, rfl, hx, hm, y, hy, w⟩ := w
    obtain ⟨ev, ec, dx, vs, ed, h1, h2, h5⟩ := r.en i _ e
    obtain ⟨v, hv, rv⟩ := RepF.look h2 hy
    exact ⟨.ref a', ev, _, h.c _ hx, h.at_ _ hx, hg.no _ hx, rfl, ec, dx, vs, v, ed, h1, repF_none h2 hm, hv, k _ _ Hs H w Gr.refl r rv⟩
  · exact w.elim
def lkTol (base : Str) (XS : List Str) (m : Str) : Look1 := fun K => XS.all (fun c => xfB K (He.ga K c) && He.eqO (PySem.W.findIn K (.ref (He.ga K c)) m) (some (some (.ref (He.ma K (He.ga K base) m))))) && (PySem.W.isFn K (.ref (He.ma K (He.ga K base) m)) && PySem.W.keepIn K (.ref (He.ma K (He.ga K base) m)))
theorem tol_ok {K : PySem.W.Frag} {base : Str} {XS : List Str} {m : Str} (h : lkTol base XS m K = true) : XTol K XS m (He.ma K (He.ga K base) m) := by
  obtain ⟨h1, h2⟩ := He.ba h
  obtain ⟨h3, h4⟩ := He.ba h2
  exact ⟨fun c hc => xfB_ok (He.ba (List.all_eq_true.mp h1 c hc)).1, fun c hc => He.eqO_ok (He.ba (List.all_eq_true.mp h1 c hc)).2, h3, h4⟩
end Fd
/-! an empty dict as a value; tuples of the top; defs that call themselves -/
namespace Fd
open PySem PySem.Spec PyProof.Rows L2
theorem dt_dnew {C : Ctx} : DT C tDNewK (eC (.dct [])) := ⟨fun Hs ρ σ H q qe Q l r w k p hp => k _ _ _ _ w (r.gr_new hp) (r.alloc hp) (.dct upd_same .nil)⟩
/-- the name stands for a tuple of ints of the top -/
def TupG (K : PySem.W.Frag) (x : Str) (ns : List Int) : Prop := ∃ (o : Obj) (its : Array Value) (n : Nat), K.lookup (He.ga K x) = some o ∧ o.cls = .type "tuple" ∧ o.data = .seq its n ∧ its.size ≤ sizeLine ∧ Vals (ns.map V.int) its.toList ∧ o.dict = none
def intsB : List Int → List Value → Bool
  | [], [] => true
  | i :: is, .int j _ :: us => decide (i = j) && intsB is us
  | _, _ => false
theorem intsB_ok : ∀ {is : List Int} {us : List Value}, intsB is us = true → Vals (is.map V.int) us
  | [], [], _ => .nil
  | [], _ :: _, h => by cases h
  | i :: is, [], h => by cases h
  | i :: is, u :: us, h => by
    cases u with
    | int j t =>
      obtain ⟨h1, h2⟩ := He.ba (show (decide (i = j) && intsB is us) = true from h)
      obtain rfl := of_decide_eq_true h1
      exact .cons ⟨t, rfl⟩ (intsB_ok h2)
    | _ => cases h
def lkTup (x : Str) (ns : List Int) : Look1 := fun K => match K.lookup (He.ga K x) with
  | some ⟨.type t, none, .seq its _, _⟩ => decide (t = "tuple") && (decide (its.size ≤ 1000) && intsB ns its.toList)
  | _ => false
theorem tup_ok {K : PySem.W.Frag} {x : Str} {ns : List Int} (h : lkTup x ns K = true) : TupG K x ns := by
  unfold lkTup at h
  split at h
  · rename_i t dd its n sl ho
    obtain ⟨h1, h2⟩ := He.ba h
    obtain ⟨h3, h4⟩ := He.ba h2
    obtain rfl := of_decide_eq_true h1
    exact ⟨_, its, n, ho, rfl, rfl, Nat.le_trans (of_decide_eq_true h3) (by decide), intsB_ok h4, rfl⟩
  · cases h
theorem dt_gtup {C : Ctx} {x : Str} {ns : List Int} (h : TupG C.K x ns) : DT C (tC (.ref (He.ga C.K x))) (eC (.tup (ns.map D.int))) :=
  ⟨fun Hs ρ σ H q qe Q l r w k => k _ _ Hs H w Gr.refl r (.tup (.inr (by
    obtain ⟨o, its, n, h1, h2, h3, h4, h5, _⟩ := h
    exact ⟨o, its, n, h1, h2, h3, h4, h5⟩)) (by
    obtain ⟨o, its, n, h1, _, _, _, _, h6⟩ := h
    exact .inr ⟨o, h1, h6⟩) (RepL.ofInts ns))⟩
/-! ### recursion -/
def recM (j : Nat) (f : M → MS) : Nat → M
  | 0 => fun _ _ _ => False
  | k + 1 => mBody j (f (recM j f k))
theorem cal_none {P : Program} {w : World} {K : PySem.W.Frag} {mg : Str → Option Value} {base : Heap} {x : Str} {st : Stmt} {N ps : List Str} {n k : Nat}
    (F : ∃ fd, FunD K x x (defArgs st) (defBody st) (defScope st) [] [] (He.ga K x) fd) (g : mg x = some (.ref (He.ga K x))) (S : FnScope N ps (defScope st)) (hn : ps.length = n)
    (bd : ∀ (kV doc pm : Value) (an : Option Addr) (cdv ct : Value) (us : List Value), us.length = ps.length → bindArgs (PySem.W.fnOf x x (defArgs st) (defBody st) (defScope st) .none kV doc pm an cdv ct) ⟨us, []⟩ = pure (ps.zip us)) :
    Cal P w K mg base (k + 1) x n (fun _ _ _ => False) := by
  obtain ⟨fd, F⟩ := F
  refine ⟨⟨fd, ps, F.ok S (fun vs H Q E h => ?_) (fun cdv A outer s H vs Q E hr h => ?_), F.bindsN bd⟩, F.kp, g⟩
  · obtain ⟨a, Hs, ds, q, hl, _⟩ := h
    rw [hl, hn]
  · obtain ⟨a, Hs, ds, q, _, _, _, _, w, _⟩ := h
    exact w.elim
end Fd
/-! tables, drawn things: plain words -/
namespace Fd
open PySem L2
theorem cut63 {α : Type} (xs : List α) (h : xs.length ≤ 63) : cutD xs none (some 63) = xs := (cutD_to xs 63).trans (List.take_of_length_le h)
abbrev natI (n : Nat) : D := .int (n : Int)
abbrev nats (xs : List Nat) : D := .tup (xs.map natI)
abbrev intT (xs : List Int) : D := .tup (xs.map .int)
abbrev intL (xs : List Int) : D := .lst (xs.map .int)
def tab (p t : Nat) (R : List (List Int)) : D := .obj "Table" [("persons", .int p), ("things", .int t), ("rows", .tup (R.map intT))]
def W (R : List (List Int)) (i j : Nat) : Int := (R.getD i []).getD j 0
structure Tab (p t : Nat) (R : List (List Int)) : Prop where
  rows : R.length = p
  cols : ∀ r ∈ R, r.length = t
  low : ∀ r ∈ R, ∀ x ∈ r, -100 ≤ x ∧ x ≤ 100
  p1 : 1 ≤ p
  p5 : p ≤ 5
  t9 : t ≤ 9
theorem lk_p (a b c : D) : List.lookup (Str.ofString "persons") [(Str.ofString "persons", a), (Str.ofString "things", b), (Str.ofString "rows", c)] = some a := rfl
theorem lk_t (a b c : D) : List.lookup (Str.ofString "things") [(Str.ofString "persons", a), (Str.ofString "things", b), (Str.ofString "rows", c)] = some b := rfl
theorem lk_r (a b c : D) : List.lookup (Str.ofString "rows") [(Str.ofString "persons", a), (Str.ofString "things", b), (Str.ofString "rows", c)] = some c := rfl
theorem inT : (Str.ofString "Table") ∈ [Str.ofString "Table"] := List.mem_cons_self ..
theorem ne_pt : (Str.ofString "persons" = Str.ofString "things") = False := eq_false (by decide)
theorem ne_pr : (Str.ofString "persons" = Str.ofString "rows") = False := eq_false (by decide)
theorem ne_tr : (Str.ofString "things" = Str.ofString "rows") = False := eq_false (by decide)
theorem isi_tt : (["tuple"].any fun n => isiB "tuple" n) = true := by decide
theorem isi_lt : (["list", "tuple"].any fun n => isiB "tuple" n) = true := by decide
theorem isi_ll : (["list", "tuple"].any fun n => isiB "list" n) = true := by decide
theorem small {n : Nat} (h : n ≤ 100000) : n ≤ sizeLine := Nat.le_trans h (by decide)
theorem rgB_small {n : Nat} (h : n ≤ 1000) : RgB (n : Int) := rgB_nat (by omega)
theorem cast_beq (a b : Nat) : ((a : Int) == (b : Int)) = (a == b) := by
  rw [Bool.eq_iff_iff, beq_iff_eq, beq_iff_eq]
  omega
/-- an exception of a word alone -/
abbrev xW (c w : Str) : EX := (c, [(("word" : Str), D.str w)])
/-- no object, no hand -/
def D.plain : D → Bool
  | .obj _ _ => false
  | .hand => false
  | .scr _ => false
  | _ => true
def isIntD : D → Bool
  | .int _ => true
  | _ => false
def withinD (d : D) (lo hi : Int) : Bool := match d with
  | .int i => decide (lo ≤ i) && decide (i ≤ hi)
  | _ => false
theorem within_nat {i lo hi : Int} (h1 : lo ≤ i) (h2 : i ≤ hi) : withinD (.int i) lo hi = true := by
  show (decide (lo ≤ i) && decide (i ≤ hi)) = true
  rw [decide_eq_true h1, decide_eq_true h2]
  rfl
section
variable {p t : Nat} {R : List (List Int)}
theorem row_at (T : Tab p t R) {i : Nat} (hi : i < p) : atI (R.map intT) (i : Int) = some (intT (R.getD i [])) := by
  have h : i < R.length := by rw [T.rows]; exact hi
  rw [atI_n, List.getElem?_map, List.getElem?_eq_getElem h, List.getD_eq_getElem?_getD, List.getElem?_eq_getElem h]
  rfl
theorem row_get (T : Tab p t R) {i : Nat} (hi : i < p) : (R.map intT)[i]? = some (intT (R.getD i [])) := by
  rw [← atI_n]
  exact row_at T hi
theorem row_mem (T : Tab p t R) {i : Nat} (hi : i < p) : R.getD i [] ∈ R := by
  have h : i < R.length := by rw [T.rows]; exact hi
  rw [List.getD_eq_getElem?_getD, List.getElem?_eq_getElem h]
  exact List.getElem_mem h
theorem cell_of {r : List Int} {j : Nat} (h : j < r.length) : atI (r.map D.int) (j : Int) = some (.int (r.getD j 0)) := by
  rw [atI_n, List.getElem?_map, List.getElem?_eq_getElem h, List.getD_eq_getElem?_getD, List.getElem?_eq_getElem h]
  rfl
theorem cell_get {r : List Int} {j : Nat} (h : j < r.length) : (r.map D.int)[j]? = some (.int (r.getD j 0)) := by
  rw [← atI_n]
  exact cell_of h
theorem cell_at (T : Tab p t R) {i j : Nat} (hi : i < p) (hj : j < t) : atI ((R.getD i []).map D.int) (j : Int) = some (.int (W R i j)) := cell_of (by rw [T.cols _ (row_mem T hi)]; exact hj)
theorem Tab.w_low (T : Tab p t R) {i j : Nat} (hi : i < p) (hj : j < t) : -100 ≤ W R i j ∧ W R i j ≤ 100 := by
  have hm := row_mem T hi
  refine T.low _ hm _ ?_
  have h : j < (R.getD i []).length := by rw [T.cols _ hm]; exact hj
  unfold W
  rw [List.getD_eq_getElem?_getD (i := j), List.getElem?_eq_getElem h]
  exact List.getElem_mem h
end
/-! ### data that are compared kind by kind -/
def sm : Nat → D → Bool
  | _, .non => true
  | _, .bl _ => true
  | _, .int _ => true
  | n + 1, .tup xs => decide (xs.length ≤ 1000) && xs.all (sm n)
  | n + 1, .lst xs => decide (xs.length ≤ 1000) && xs.all (sm n)
  | _, _ => false
/-! ### drawn rows -/
theorem getElem?_map' {α β : Type} (f : α → β) (xs : List α) (i : Nat) : (xs.map f)[i]? = (xs[i]?).map f := List.getElem?_map ..
end Fd
/-! an exception leaves a list comprehension -/
namespace L2
open PySem PySem.Spec PyProof.Rows
def compPostX (M : Model) (A : Around) (E : Value → Shared → Prop) (Q : Value → Shared → Prop) (acc : Value) (cenv : Env) (r : Result) (s' : Shared) : Prop :=
  match r with
  | .ok _ => ∃ m, s'.heap.Ns cenv.locals m ∧ ∀ h', Heap.SameBut cenv.locals s'.heap h' → Q acc { s' with heap := h' }
  | .error x => ∃ m, s'.heap.Ns cenv.locals m ∧ ∀ h', Heap.SameBut cenv.locals s'.heap h' → wpAny M A (passOn "comprehension.variables-let-go" x cenv : Sem Value) (fun _ _ => False) E { s' with heap := h' }
section
variable {M : Model} {A : Around} {E : Value → Shared → Prop} {env : Env} {s : Shared}
theorem wpAny_comp_freeX {e : Expr} {scope : Scope} {pos : Pos} {newAcc first : Sem Value} {g : Comprehension} {gs : List Comprehension} {cl : List (Str × Addr)}
    {Q : Value → Shared → Prop}
    (hcl : clausesOf e = g :: gs) (hs : ∀ x, foldedSetIterable g.iter env x = pure x) (hclos : closureFor scope env = pure cl)
    (hkind : scope.kind = .function) (hnames : ∀ x ∈ scope.names, x.2 = .local → scope.names.lookup x.1 = some .local)
    (h : wpAny M A first (fun x s₁ => wpAny M A (pyIter x) (fun it s₂ => wpAny M A newAcc (fun acc s₃ =>
      wpAny M A (newFunctionEnv scope env.globals cl [] env.qual none .none (some env)) (fun cenv s₄ =>
        codeAny M A (.compStart e 0 it acc { cenv with scope := relabel scope env }) (compPostX M A E Q acc { cenv with scope := relabel scope env }) s₄) E s₃) E s₂) E s₁) E s) :
    wpAny M A (comprehension e scope env pos newAcc false first none) Q E s := by
  unfold comprehension
  rw [hclos, hcl]
  refine wpAny_bind (wpAny_mono h (fun x s₁ h₁ => wpAny_bind (wpAny_standAt (wpAny_bind (wpAny_of_eq (hs x) (wpAny_bind (wpAny_holding (wpAny_mono h₁ (fun it s₂ h₂ =>
    wpAny_standIf (wpAny_bind (wpAny_mono h₂ (fun acc s₃ h₃ => wpAny_bind (wpAny_pure (wpAny_bind (wpAny_mono h₃ (fun cenv s₄ h₄ => ?_) fun _ _ h' => h')))) fun _ _ h' => h')))
      fun _ _ h' => h'))))))) fun _ _ h' => h')
  dsimp only
  have hv : ∀ x ∈ (scope.names.filter fun x => (x.2 == .local || x.2 == .cell) && x.1 != (".0" : Str)).reverse, x.2 = .local →
      Env.kindOf { cenv with scope := relabel scope env } x.1 = some .local := fun x hx hl => lookup_relabel_local (hnames x (List.mem_filter.mp (List.mem_reverse.mp hx)).1 hl)
  refine wpAny_holding (wpAny_bind (wpAny_attempt (wpAny_holding (wpAny_run (codeAny_mono h₄ fun r s' hr => ?_)))))
  cases r with
  | ok f =>
    obtain ⟨m, hn, hr⟩ := hr
    exact wpAny_bind (wpAny_holding (wpAny_comp_letGo (cenv := { cenv with scope := relabel scope env }) hkind _ s' m hv hn fun h' m' _ hs' => wpAny_pure (hr h' hs')))
  | error x =>
    obtain ⟨m, hn, hr⟩ := hr
    exact wpAny_bind (wpAny_holding (wpAny_comp_letGo (cenv := { cenv with scope := relabel scope env }) hkind _ s' m hv hn fun h' m' _ hs' => wpAny_mono (hr h' hs') (fun _ _ f => f.elim) fun _ _ y => y))
end

/-- an exception in the air of a block -/
def XB (X : Cx) (E : XK) (Xb : Cx) (u : Value) (s' : Shared) : Prop :=
  ∃ (a : Addr) (B : Heap) (sI : Shared) (pins : List (Addr × Obj)) (σ : St) (H : Hp) (cls : Value) (d : Option Addr),
    u = .ref a ∧ Inv Xb pins σ H sI ∧ (∀ b o, sI.heap.get? b = some o → b ∉ frs X.stack → B.get? b = some o) ∧ sI.heap.UpToSlots s'.heap ∧
      HandSPX.FlyingZ B X.stack a (Zc cls d) s'.heap ∧ H a = none ∧ s'.os = sI.os ∧ AllBare s'.gens ∧ E cls d H
abbrev Cx.blkX (X : Cx) (E : XK) (s : Shared) (H : Hp) (scope : Scope) (cenv : Env) (fp : List Addr) : Cx := { X with s_0 := s, H_0 := H, env := cenv, outer := X.stack, ex := fp, fn := fun x => scope.names.lookup x == some .cell, pn := [], xe := XB X E (X.blk s H scope cenv fp) }
theorem passesB {X : Cx} {E : XK} {s0 : Shared} {H0 : Hp} {scope : Scope} {cenv : Env} {fp : List Addr} : Passes (L2.CX X.prog X.w) (X.blkX E s0 H0 scope cenv fp) E := by
  intro pins σ H s u s' I c
  have I : Inv (X.blk s0 H0 scope cenv fp) pins σ H s := Inv.unwish (X := X.blk s0 H0 scope cenv fp) (E := XB X E (X.blk s0 H0 scope cenv fp)) I
  show XB X E (X.blk s0 H0 scope cenv fp) u s'
  obtain ⟨a, B, H', cls, d, rfl, fl, hok, ub, na, os, ag, hE⟩ := c
  have fl : HandSPX.FlyingZ B X.stack a (Zc cls d) s'.heap := fl
  have ub : UB (frs X.stack) H H' s.heap B s'.heap := ub
  obtain ⟨G, g1, g2⟩ := restrict s'.heap fun b => (B.get? b).isSome || decide (b ∈ frs X.stack)
  have st : B.StaysIn s'.heap := fl.1
  have gB : ∀ b o, B.get? b = some o → G.get? b = some o := fun b o e => by
    rw [g1 b (by simp [e])]
    exact st b o e
  have gF : ∀ b, b ∈ frs X.stack → G.get? b = s'.heap.get? b := fun b hb => g1 b (by simp [hb])
  have og : ∀ b o, G.get? b = some o → s'.heap.get? b = some o ∧ ((B.get? b).isSome = true ∨ b ∈ frs X.stack) := fun b o e => by
    cases q : ((B.get? b).isSome || decide (b ∈ frs X.stack)) with
    | false => rw [g2 b q] at e; cases e
    | true =>
      rw [g1 b q] at e
      exact ⟨e, by simpa [Bool.or_eq_true] using q⟩
  refine ⟨a, B, { s with heap := G, gens := s'.gens, drawn := s'.drawn, toks := s'.toks }, pins, σ, H', cls, d, rfl, ?_, fun b o e hb => ?_, Heap.UpToSlots.of_keeps fun b o e => (og b o e).1, fl, na, os, ag, hE⟩
  · refine I.call (ch := []) ⟨fun b o e n hb _ => gB b o (ub.keep b o e n hb), fun b o e n hb _ => ?_, fun b o e n _ => ub.free b o e n, fun b o e _ => ?_, ub.tups, ub.frzs, ub.tbls⟩ (hok.kept gB) ag (fun _ z => nomatch z)
    · obtain ⟨sl, q⟩ := ub.slot b o e hb
      exact ⟨sl, by rw [gF b hb]; exact q⟩
    · by_cases hb : b ∈ frs X.stack
      · obtain ⟨sl, q⟩ := ub.slot b o e hb
        exact ⟨_, by rw [gF b hb]; exact q⟩
      · obtain ⟨o', q⟩ := ub.there b o e hb
        exact ⟨o', gB b o' q⟩
  · obtain ⟨e', h⟩ := og b o e
    rcases h with h | h
    · obtain ⟨o', q⟩ := Option.isSome_iff_exists.mp h
      have z := st b o' q
      rw [e'] at z; cases z
      exact q
    · exact absurd h hb
theorem noteFrame_frame {e : Value} {a b : Env} (h : a.frame = b.frame) : noteFrame e a = noteFrame e b := by
  unfold noteFrame PySem.frameOf
  rw [h]
theorem funFrames_swap {B h h' : Heap} : ∀ {l : List Env}, h.FunFrames B l → (∀ L ∈ frs l, h'.get? L = h.get? L) → h'.FunFrames B l
  | [], _, _ => trivial
  | env :: l, h, hn => by
    obtain ⟨hk, ⟨L, o, hf, hb, ho, hd⟩, hr⟩ := h
    exact ⟨hk, ⟨L, o, hf, hb, (hn L (List.mem_filterMap.mpr ⟨env, List.mem_cons_self, hf⟩)).trans ho, hd⟩, funFrames_swap hr fun b hb => by
      obtain ⟨e, he, q⟩ := List.mem_filterMap.mp hb
      exact hn b (List.mem_filterMap.mpr ⟨e, List.mem_cons_of_mem _ he, q⟩)⟩
/-- noted, the block's names let go, passed on -/
theorem XB.up {X : Cx} {E : XK} {pins : List (Addr × Obj)} {σ : St} {H3 : Hp} {s3 : Shared} {scope : Scope} {ce : Env} {fp : List Addr} {Q : Value → Shared → Prop} {acc u : Value} {s' : Shared}
    (tk : Takes X (fun cls d _ H => E cls d H)) (hst : X.stack = X.env :: X.outer) (hf : X.env.frame = some X.env.locals) (I3 : Inv X pins σ H3 s3) (hcl : ce.locals = s3.heap.objs.size) (hcf : ce.frame = X.env.frame)
    (f3 : ∀ b ∈ fp, (b ∈ X.ex ∨ X.s_0.heap.objs.size ≤ b) ∧ b ≠ X.env.locals ∧ (∀ x c, X.env.cells.lookup x = some c → c ≠ b) ∧ ∀ p ∈ X.pn ++ pins, p.1 ≠ b)
    (x : XB X E (X.blk s3 H3 scope ce fp) u s') :
    notedBy (model X.prog X.w) X.A ce (fun e s'' => compPostX (model X.prog X.w) X.A X.xe Q acc ce (.error e) s'') u s' := by
  obtain ⟨a, B, sI, pinsI, σI, HI, cls, d, rfl, I, nb, up, fl, na, os, ag, w⟩ := x
  have hfr : X.A.frames = some (X.env :: X.outer) := by rw [I3.ok.frames, hst]
  have hC : ce.locals ∉ frs X.stack := fun hm => by
    have z := I3.nofs (a := ce.locals) (by rw [hcl]; exact Nat.le_refl _)
    rcases List.mem_cons.mp (I3.stkSub _ hm) with q | q
    · have := I3.lt
      rw [← q, hcl] at this
      exact absurd this (Nat.lt_irrefl _)
    · exact z q
  unfold notedBy
  rw [noteFrame_frame hcf]
  rw [hst] at fl
  refine HandSPX.looks_onZ Zc.steady hfr hf fl fun h1 hh up1 => ?_
  obtain ⟨m, ⟨o, es, ep, ho, r⟩, _⟩ := I.loc
  have ho : sI.heap.get? ce.locals = some o := ho
  have hB : B.get? ce.locals = some o := nb _ _ ho hC
  obtain ⟨k1, k2, k3, k4⟩ := hh
  refine ⟨m, ⟨o, es, ep, k1 _ _ hB, r⟩, fun h2 sb => ?_⟩
  have aC : a ≠ ce.locals := fun e => by rw [e, hB] at k2; cases k2
  have hide : ∀ {h : Heap} {b : Addr} {o : Obj}, (PySem.W.hideAll h [ce.locals]).get? b = some o → h.get? b = some o ∧ b ≠ ce.locals := fun {h b o} e =>
    ⟨PySem.W.of_hideAll _ e, fun z => by rw [z, PySem.W.hideAll_none _ (List.mem_singleton.mpr rfl)] at e; cases e⟩
  have hides : ∀ {h : Heap} {b : Addr} {o : Obj}, h.get? b = some o → b ≠ ce.locals → (PySem.W.hideAll h [ce.locals]).get? b = some o := fun {h b o} e n =>
    PySem.W.hideAll_get _ e fun z => n (List.mem_singleton.mp z)
  have nn : ∀ {b : Addr}, B.get? b = none → (PySem.W.hideAll B [ce.locals]).get? b = none := fun {b} e => by
    cases q : (PySem.W.hideAll B [ce.locals]).get? b with
    | none => rfl
    | some o => rw [(hide q).1] at e; cases e
  have hh' : HandSPX.HeldZ (PySem.W.hideAll B [ce.locals]) (X.env :: X.outer) a (Zc cls d) X.env.locals h2 := by
    refine ⟨fun b o e => ?_, nn k2, ?_, ?_⟩
    · obtain ⟨e1, n⟩ := hide e
      exact (sb.2 b n).trans (k1 b o e1)
    · have hfn : ∀ L ∈ frs (X.env :: X.outer), (PySem.W.hideAll B [ce.locals]).get? L = none := fun L hL => nn (k3.mem hL).1
      have k3' := funFrames_none k3 hfn
      refine funFrames_swap k3' fun L hL => sb.2 L fun z => hC (by rw [hst]; rw [← z]; exact hL)
    · obtain ⟨oe, vs, T, oT, ts, he, hz, hd, q1, hnT, hTe, hT, hdT, q3⟩ := k4
      have tC : T ≠ ce.locals := fun e => by rw [e, hB] at hnT; cases hnT
      exact ⟨oe, vs, T, oT, ts, (sb.2 a aC).trans he, hz, hd, q1, nn hnT, hTe, (sb.2 T tC).trans hT, hdT, q3⟩
  have ht := hh'
  obtain ⟨_, _, _, oe, vs, T, oT, ts, he, hz, hd, q1, hnT, hTe, hT, hdT, q3⟩ := ht
  unfold PySem.passOn
  refine wpAny_bind (wpAny_field he hd q1 ?_)
  rw [if_neg (show ¬ ((Value.ref T == Value.none) = true) from by simp)]
  rw [hcf, hf]
  refine wpAny_bind (HandSPX.setFlight_onZ hh' fun h4 hh4 up4 => wpAny_throw ?_)
  have nC : HI ce.locals = none := I.free
  have I7 : Inv X pins σ HI sI := I3.call' (ch := fp) I.os I.base I.hok I.bare f3
  obtain ⟨f0, f1, f2, f3, f4, f5⟩ := I3.fpOk (b := ce.locals) (by rw [hcl]; exact Nat.le_refl _) nC
  refine tk _ _ ⟨a, PySem.W.hideAll B [ce.locals], { sI with heap := PySem.W.hideAll sI.heap [ce.locals] }, pins, σ, HI, cls, d, rfl, I7.turned (t' := sI.toks) (fun b o hb e => hides e hb) f0 f1 f3 f4 f5, fun b o e hb => ?_, fun b o e hn => ?_, ?_, na, os, ag, w⟩
  · obtain ⟨e1, n⟩ := hide e
    exact hides (nb b o e1 hb) n
  · obtain ⟨e1, n⟩ := hide e
    obtain ⟨sl, e2⟩ := up b o e1 hn
    obtain ⟨sl2, e3⟩ := up1 b _ e2 hn
    obtain ⟨sl3, e4⟩ := up4 b { o with slots := sl2 } ((sb.2 b n).trans e3) hn
    exact ⟨sl3, e4⟩
  · rw [hst]
    exact .inr (.inr hh4)
section
variable {X : Cx}
/-- [elt for target in iter if ..], its parts may raise -/
theorem pe_lcX {E : XK} {elt tg iter : Expr} {ifs : List Expr} {scope : Scope} {own : List (Str × Nat)} {pos : Pos} {wi : TI} {g : TG} {tt : TT} {te : TE} (tk : Takes X (fun cls d _ H => E cls d H)) (hst : X.stack = X.env :: X.outer) (hf : X.env.frame = some X.env.locals)
    (hc : X.calm = true) (hN : X.N.Nodup) (hi : PI X tg iter wi) (ok : BlkOk X.N X.env.scope scope own)
    (hg : ∀ (s : Shared) (H : Hp) (C : Addr) (cl : List (Str × Addr)) (fp : List Addr), PG (X.blkX E s H scope (compEnvC scope cl C X.env) fp) tg g) (ht : ∀ (s : Shared) (H : Hp) (C : Addr) (cl : List (Str × Addr)) (fp : List Addr), PTs (X.blkX E s H scope (compEnvC scope cl C X.env) fp) ifs tt)
    (he : ∀ (s : Shared) (H : Hp) (C : Addr) (cl : List (Str × Addr)) (fp : List Addr), PE (X.blkX E s H scope (compEnvC scope cl C X.env) fp) elt te) (hs : ∀ x, foldedSetIterable iter X.env x = pure x := by intro _; rfl) :
    PE X (.ListComp elt [⟨tg, iter, ifs, 0⟩] scope pos) (tLc wi g tt te (own.map (·.2))) := by
  refine ⟨fun pins s σ H Q I h => ?_⟩
  rw [eval_ListComp]
  have hfree : ∀ y ∈ scope.names, y.2 = .free → ∃ c, X.env.cells.lookup y.1 = some c := fun y hy e => by
    rcases ok.free y hy e with k | k
    · exact I.ok.has _ (.inl k)
    · exact I.ok.has _ (.inr k)
  refine wpAny_comp_freeX rfl hs (closure_ok hfree) ok.kind (fun y hy e => by rw [ok.uniq y hy, e])
    (thn (hi.run pins s σ H _ I h) fun xv s1 hx => thn hx fun itv s2 h2 => ?_)
  obtain ⟨it, fp, tn, J, H2, e, I2, T, st2, f2, q⟩ := h2
  subst e
  refine wpAny_newObj_type (newEnv_comp ?_) (by show 0 ≤ sizeLine; decide)
  generalize hD : s2.heap.objs.size = D
  have hDn : H2 D = none := I2.hok.fresh (Nat.le_of_eq hD)
  obtain ⟨W, ⟨m0, w0⟩, turn⟩ := q D hDn
  generalize hs3 : ({ s2 with heap := s2.heap.push { cls := .type "list", data := .seq ([] : List Value).toArray } } : Shared) = s3
  have I3 : Inv X pins σ (upd H2 D (.lst [])) s3 := by
    rw [← hs3]
    refine I2.laid (t' := s2.toks) (fun b o e => Heap.get?_push_of_some _ e) (Nat.le_of_eq hD) ⟨Nat.zero_le _, [], 0, .nil, ?_⟩
    rw [← hD]
    exact Heap.get?_push_size _ rfl
  have h3 : s3.heap = s2.heap.push { cls := .type "list", data := .seq ([] : List Value).toArray } := by rw [← hs3]
  have sz : ∀ b ∈ fp, b < s2.heap.objs.size := fun b hb => by
    obtain ⟨o, e, _⟩ := T.obj _ _ st2 b hb
    exact Heap.lt_size e
  have f3 : ∀ b ∈ fp, FpOk X pins (upd H2 D (.lst [])) b ∧ b < s3.heap.objs.size := fun b hb => by
    have hlt := sz b hb
    refine ⟨⟨?_, (f2 b hb).2⟩, by rw [h3, Heap.size_push]; exact Nat.lt_succ_of_lt hlt⟩
    rw [upd_ne (by rw [← hD]; exact Nat.ne_of_lt hlt)]
    exact (f2 b hb).1
  have st3 : tn 0 s3.heap := T.keep _ _ _ st2 fun b _ o e => by rw [h3]; exact Heap.get?_push_of_some _ e
  have I4 := block_start I3 ok hN f3
  have pg := hg s3 (upd H2 D (.lst [])) s3.heap.objs.size (cellsFrom (s3.heap.objs.size + 1) scope.names (cloFrom X.env.cells scope.names [])) fp
  have pt := ht s3 (upd H2 D (.lst [])) s3.heap.objs.size (cellsFrom (s3.heap.objs.size + 1) scope.names (cloFrom X.env.cells scope.names [])) fp
  have pe := he s3 (upd H2 D (.lst [])) s3.heap.objs.size (cellsFrom (s3.heap.objs.size + 1) scope.names (cloFrom X.env.cells scope.names [])) fp
  show codeAny _ _ (.compStart (.ListComp elt [⟨tg, iter, ifs, 0⟩] scope pos) 0 (.ref it) (.ref D) (compEnvC scope (cellsFrom (s3.heap.objs.size + 1) scope.names (cloFrom X.env.cells scope.names [])) s3.heap.objs.size X.env)) (compPostX (model X.prog X.w) X.A X.xe (EP X pins σ Q) (.ref D) (compEnvC scope (cellsFrom (s3.heap.objs.size + 1) scope.names (cloFrom X.env.cells scope.names [])) s3.heap.objs.size X.env)) { s3 with heap := pushCells (s3.heap.push { cls := .type "dict", data := .dict #[] }) scope.names }
  have nfp : ∀ b ∈ fp, (upd H2 D (.lst [])) b = none := fun b hb => (f3 b hb).1.1
  generalize hce : compEnvC scope (cellsFrom (s3.heap.objs.size + 1) scope.names (cloFrom X.env.cells scope.names [])) s3.heap.objs.size X.env = ce at I4 pg pt pe ⊢
  have cL : ce.locals = s3.heap.objs.size := by subst hce; rfl
  have cF : ce.frame = X.env.frame := by subst hce; rfl
  generalize hH3 : upd H2 D (.lst []) = H3 at I3 I4 pg pt pe w0 nfp f3
  generalize hs4 : ({ s3 with heap := pushCells (s3.heap.push { cls := .type "dict", data := .dict #[] }) scope.names } : Shared) = s4 at I4 ⊢
  have st4 : tn 0 s4.heap := T.keep _ _ _ st3 fun b _ o e => by rw [← hs4]; exact pushCells_keeps _ _ _ _ (Heap.get?_push_of_some _ e)
  have stat : ∀ {σ' : St} {H' : Hp} {s' : Shared}, Inv (X.blk s3 H3 scope ce fp) [] σ' H' s' → (∀ b ∈ fp, H' b = none) → ∀ b ∈ fp, FpOk (X.blk s3 H3 scope ce fp) [] H' b := fun {σ' H' s'} I' hn b hb =>
    ⟨hn b hb, (I'.ok.exf b hb).1, I'.ok.exfs b hb, .inl hb, fun x c e => (I'.ok.exf b hb).2 x c e, fun p hp => absurd (show p ∈ ([] : List (Addr × Obj)) ++ [] from hp) (by simp)⟩
  have fpx : ∀ b ∈ fp, (b ∈ X.ex ∨ X.s_0.heap.objs.size ≤ b) ∧ b ≠ X.env.locals ∧ (∀ x c, X.env.cells.lookup x = some c → c ≠ b) ∧ ∀ p ∈ X.pn ++ pins, p.1 ≠ b := fun b hb => ⟨(f3 b hb).1.2.2.2.1, (f3 b hb).1.2.1, (f3 b hb).1.2.2.2.2.1, (f3 b hb).1.2.2.2.2.2⟩
  have err : ∀ u s', XB X E (X.blk s3 H3 scope ce fp) u s' → notedBy (model X.prog X.w) X.A ce (fun e s'' => compPostX (model X.prog X.w) X.A X.xe (EP X pins σ Q) (.ref D) ce (.error e) s'') u s' := fun u s' x => XB.up tk hst hf I3 cL cF fpx x
  have loop : codeAny (model X.prog X.w) X.A (.compLoop (.ListComp elt [⟨tg, iter, ifs, 0⟩] scope pos) 0 (.ref it) (.ref D) ce) (compPostX (model X.prog X.w) X.A X.xe (EP X pins σ Q) (.ref D) ce) s4 := by
    refine compLoop_any (fun n s' => ∃ i H', Inv (X.blk s3 H3 scope ce fp) [] (wipe σ (own.map (·.2))) H' s' ∧ tn i s'.heap ∧ (∀ b ∈ fp, H' b = none) ∧ W i n H') ?_ m0 ⟨0, H3, I4, st4, nfp, w0⟩
    rintro n s5 ⟨i, H5, I5, st5, n5, w5⟩
    rcases turn i n H5 w5 with ⟨stop, qq⟩ | ⟨go, Nx, hNx, step⟩
    · have td := T.done (X.blk s3 H3 scope ce fp) rfl rfl rfl hc i [] s5 _ H5 (fun _ _ => False) I5 (stat I5 n5) st5 stop
      refine thnF td fun r s6 ⟨hr, I6⟩ => ?_
      subst hr
      have I7 : Inv X pins σ H5 s6 := I3.call' (ch := fp) I6.os I6.base I6.hok I6.bare fpx
      have nC : H5 ce.locals = none := I6.free
      obtain ⟨m, hn, _⟩ := I6.loc
      have hn : s6.heap.Ns ce.locals m := hn
      obtain ⟨f0, f1, f2, f3, f4, f5⟩ := I3.fpOk (b := ce.locals) (by rw [cL]; exact Nat.le_refl _) nC
      exact ⟨m, hn, fun h'' sb => ⟨.ref D, H5, I7.turned (t' := s6.toks) (fun b o hb e => (sb.2 b hb).trans e) f0 f1 f3 f4 f5, rfl, qq⟩⟩
    · have ti := T.item (X.blk s3 H3 scope ce fp) rfl rfl rfl hc i [] s5 _ H5 (fun _ _ => False) I5 (stat I5 n5) st5 go
      refine thnF ti fun r s6 ⟨u, hr, h6⟩ => ?_
      subst hr
      refine thnF h6 fun _ s7 ⟨x, H7, I7, r7, y7, st7, n7⟩ => ?_
      have I7' := I7.pinned (stat I7 n7) (T.obj _ _ st7)
      refine wpAny_mono (pg.run _ s7 _ H7 x u _ (Inv.wish (X := X.blk s3 H3 scope ce fp) I7' _) r7 (step x H7 y7)) (fun _ s8 ⟨σ8, H8, I8, hw8, q8⟩ => ?_) fun e s' z => err e s' z
      refine wpAny_mono (pt.run _ s8 σ8 H8 _ I8 q8) (fun b s9 ⟨H9, I9, q9⟩ => ?_) fun e s' z => err e s' z
      have fin : ∀ {s' : Shared} {H' : Hp}, Inv (X.blk s3 H3 scope ce fp) ([] ++ pinsAt fp s7.heap) σ8 H' s' → Nx H' → ∃ m, m < n ∧ ∃ i H', Inv (X.blk s3 H3 scope ce fp) [] (wipe σ (own.map (·.2))) H' s' ∧ tn i s'.heap ∧ (∀ b ∈ fp, H' b = none) ∧ W i m H' := fun {s' H'} I' nx => by
        obtain ⟨m', hm, w'⟩ := hNx H' nx
        have pin' : ∀ b ∈ fp, ∀ o, s7.heap.get? b = some o → s'.heap.get? b = some o ∧ H' b = none := fun b hb o e =>
          let z := I'.pin (b, o) (List.mem_append_right _ (List.mem_append_right _ (mem_pinsAt hb e)))
          ⟨z.1, z.2.1⟩
        have hl : (wipe σ (own.map (·.2))).length = σ8.length := by rw [← hw8, wipe_length]
        refine ⟨m', hm, i + 1, H', (I'.unpinned (pins := [])).weak hl (fun j v e => ?_), T.keep _ _ _ st7 fun b hb o e => (pin' b hb o e).1, fun b hb => ?_, w'⟩
        · rw [← hw8] at e
          exact (wipe_some e).1
        · obtain ⟨o, e, _⟩ := T.obj _ _ st7 b hb
          exact (pin' b hb o e).2
      cases b with
      | false =>
        simp only [Bool.false_eq_true, if_false] at q9 ⊢
        exact fin (Inv.unwish (X := X.blk s3 H3 scope ce fp) I9) q9
      | true =>
        simp only [if_true] at q9 ⊢
        refine wpAny_mono (pe.run _ s9 σ8 H9 _ I9 q9) (fun z s10 ⟨yv, H10, I10, r10, acc, hD10, hz10, nx⟩ => ?_) fun e s' z => err e s' z
        exact app_ok (X := X.blk s3 H3 scope ce fp) (Inv.unwish (X := X.blk s3 H3 scope ce fp) I10) hD10 hz10 r10 fun s11 I11 => fin I11 nx
  exact codeAny_compStart_list loop (T.self X.A 0 _ _ _ st4 loop)
end
end L2
namespace Fd
open PySem PySem.Spec PyProof.Rows L2
section
variable {P : Program} {w : World} {K : PySem.W.Frag} {mg : Str → Option Value} {base : Heap} {N : List Str} {qual : Str} {scope : Scope} {f : Addr} {cd : Value} {A : Around} {outer : List Env} {s : Shared} {H : Hp} {E : XK}
variable {elt tg iter : Expr} {ifs : List Expr} {sc : Scope} {own : List (Str × Nat)} {pos : Pos} {wi : TI} {g : TG} {tt : TT} {te : TE}
theorem pe_lcF (hN : N.Nodup) (hi : PI (cxOf (L2.CX P w) P w K mg base N qual scope f cd A outer s H E) tg iter wi) (ok : BlkOk N scope sc own)
    (hg : ∀ (s' : Shared) (H' : Hp) (C : Addr) (cl : List (Str × Addr)) (fp : List Addr), PG (Cx.blkX (cxOf (L2.CX P w) P w K mg base N qual scope f cd A outer s H E) E s' H' sc (compEnvC sc cl C (Cx.env (cxOf (L2.CX P w) P w K mg base N qual scope f cd A outer s H E))) fp) tg g)
    (ht : ∀ (s' : Shared) (H' : Hp) (C : Addr) (cl : List (Str × Addr)) (fp : List Addr), PTs (Cx.blkX (cxOf (L2.CX P w) P w K mg base N qual scope f cd A outer s H E) E s' H' sc (compEnvC sc cl C (Cx.env (cxOf (L2.CX P w) P w K mg base N qual scope f cd A outer s H E))) fp) ifs tt)
    (he : ∀ (s' : Shared) (H' : Hp) (C : Addr) (cl : List (Str × Addr)) (fp : List Addr), PE (Cx.blkX (cxOf (L2.CX P w) P w K mg base N qual scope f cd A outer s H E) E s' H' sc (compEnvC sc cl C (Cx.env (cxOf (L2.CX P w) P w K mg base N qual scope f cd A outer s H E))) fp) elt te) (hs : ∀ x, foldedSetIterable iter (Cx.env (cxOf (L2.CX P w) P w K mg base N qual scope f cd A outer s H E)) x = pure x := by intro _; rfl) :
    PE (cxOf (L2.CX P w) P w K mg base N qual scope f cd A outer s H E) (.ListComp elt [⟨tg, iter, ifs, 0⟩] sc pos) (tLc wi g tt te (own.map (·.2))) := pe_lcX takesF rfl rfl rfl hN hi ok hg ht he hs
end
end Fd
/-! in, where items are data of any depth -/
namespace Fd
open PySem PySem.Spec PyProof.Rows L2
def rInX (K : PySem.W.Frag) : R2 := fun x y H Q => rIn K false x y H Q ∨ rInD K x y H Q
def rNotInX (K : PySem.W.Frag) : R2 := fun x y H Q => rIn K true x y H Q ∨ rNotInD K x y H Q
theorem units1 {k : Nat} {A : Around} (r : Room k A) : A.units + 65 < cLine := by have := r.un; omega
theorem op_inXX {X : Cx} (hu : X.A.units + 65 < cLine) : OpR X (compareOp .In) (rInX X.K) := OpR.or op_in_seq (op_inD hu)
theorem op_notInXX {X : Cx} (hu : X.A.units + 65 < cLine) : OpR X (compareOp .NotIn) (rNotInX X.K) := OpR.or op_notIn_seq (op_notInD hu)
def flats (x : D) (ys : List D) : Bool := x.flat && ys.all D.flat
/-- as dIn where all is flat, else by == -/
def dInX (neg : Bool) : O2 := fun x y q => match y with
  | .lst ys => if flats x ys = true then dIn neg x (.lst ys) q else (x.okq = true ∧ (D.lst ys).okq = true) ∧ q (.bl (if neg then !(ys.any fun z => D.eqv z x) else ys.any fun z => D.eqv z x))
  | y => dIn neg x y q
theorem any_py (x : D) : ∀ ys : List D, ((D.pys ys).any fun z => PyData.eqv z x.py) = ys.any fun z => D.eqv z x
  | [] => rfl
  | y :: ys => by
    show (PyData.eqv y.py x.py || (D.pys ys).any _) = _
    rw [any_py x ys]
    rfl
theorem d2_inX {C : Ctx} : D2 C (rInX C.K) (dInX false) := by
  refine ⟨fun Hs ρ σ H x y vx vy q Q r px py w k => ?_⟩
  unfold dInX at w
  split at w
  · split at w
    · exact .inl (d2_in.run Hs ρ σ H x _ vx vy q Q r px py w k)
    · obtain ⟨⟨w1, w2⟩, w3⟩ := w
      unfold D.okq at w1 w2
      rw [Bool.and_eq_true] at w1 w2
      refine .inr ⟨x.py, _, repB_dp r.sh px w1.1, repB_dp r.sh py w2.1, w1.2, w2.2, ?_⟩
      rw [any_py]
      exact k _ _ Hs H w3 Gr.refl r (.bl _)
  · exact .inl (d2_in.run Hs ρ σ H x _ vx vy q Q r px py w k)
theorem d2_notInX {C : Ctx} : D2 C (rNotInX C.K) (dInX true) := by
  refine ⟨fun Hs ρ σ H x y vx vy q Q r px py w k => ?_⟩
  unfold dInX at w
  split at w
  · split at w
    · exact .inl (d2_in.run Hs ρ σ H x _ vx vy q Q r px py w k)
    · obtain ⟨⟨w1, w2⟩, w3⟩ := w
      unfold D.okq at w1 w2
      rw [Bool.and_eq_true] at w1 w2
      refine .inr ⟨x.py, _, repB_dp r.sh px w1.1, repB_dp r.sh py w2.1, w1.2, w2.2, ?_⟩
      rw [any_py]
      exact k _ _ Hs H w3 Gr.refl r (.bl _)
  · exact .inl (d2_in.run Hs ρ σ H x _ vx vy q Q r px py w k)
theorem dIn_tup (neg : Bool) (x : D) (ys : List D) (q : D → Prop) : dInX neg x (.tup ys) q = dIn neg x (.tup ys) q := rfl
end Fd
/-! sum, max, min of a tuple of ints -/
namespace L2
open PySem PySem.Spec PyProof.Rows
section
variable {prog : Program} {w : World} {A : Around} {E : Value → Shared → Prop} {s : Shared} {l : Addr} {its : List Value} {ns : List Int} {Q : Value → Shared → Prop}
theorem sumT_raw (hh : A.handled = none) (hl : s.heap.IsTuple l its.toArray) (hi : IntsAre its ns)
    (h : ∀ h' tk t', (∀ b o, s.heap.get? b = some o → h'.get? b = some o) → Q (.int ns.sum t') { s with heap := h', toks := tk }) : wpAny (model prog w) A (call (.builtin "sum") [.ref l]) Q E s := by
  obtain ⟨xs, e⟩ := hi.allInts.items
  have hn : numsOf (intItems xs).toList = ns := by rw [← e]; exact hi.numsOf
  rw [nums_intItems] at hn
  rw [e] at hl
  refine PySem.W.ktm_sumG hh hl fun h' tk t' hk => ?_
  have := h h' tk t' hk
  rw [preSum_eq, List.take_of_length_le (by simp), hn]; exact this
theorem reads_ints {h : Heap} : ∀ {its : List Value} {ns : List Int}, Vals (ns.map V.int) its → ReadsAll h its (ns.map PyData.int) []
  | [], [], _ => .nil
  | [], _ :: _, r => by cases r
  | _ :: _, [], r => by cases r
  | v :: its, n :: ns, r => by
    cases r with
    | cons r rs =>
      obtain ⟨t, rfl⟩ := r
      exact ReadsAll.cons (.int n t) (reads_ints rs)
theorem depth_ints : ∀ ns : List Int, PyData.depthAll (ns.map PyData.int) = 0
  | [] => rfl
  | n :: ns => by
    show max (PyData.depth (.int n)) (PyData.depthAll (ns.map PyData.int)) = 0
    rw [depth_ints ns]
    rfl
end
section
variable {X : Cx}
def rSumT (K : PySem.W.Frag) : List V → Hp → VK → Prop := fun vs H Q => ∃ (a : Addr) (ns : List Int), vs = [V.ref a] ∧ SqT K H a (ns.map V.int) ∧ Q (.int ns.sum) H
def rMaxT (K : PySem.W.Frag) : List V → Hp → VK → Prop := fun vs H Q => ∃ (a : Addr) (n : Int) (ns : List Int), vs = [V.ref a] ∧ SqT K H a ((n :: ns).map V.int) ∧ Q (.int (ns.foldl max n)) H
def rMinT (K : PySem.W.Frag) : List V → Hp → VK → Prop := fun vs H Q => ∃ (a : Addr) (n : Int) (ns : List Int), vs = [V.ref a] ∧ SqT K H a ((n :: ns).map V.int) ∧ Q (.int (ns.foldl min n)) H
theorem isTuple_of {h : Heap} {a : Addr} {vs : Array Value} (x : IsTup h a vs) : h.IsTuple a vs := x
theorem cr_sumT (hc : X.calm = true) : CallR X (.builtin "sum") (rSumT X.K) := by
  intro pins s σ H vs us Q I r h
  obtain ⟨a, ns, rfl, hs, q⟩ := h
  obtain ⟨its, rv, hl, _⟩ := I.tuple hs
  rw [Vals.ref1 r]
  exact sumT_raw (I.ok.hd hc) (isTuple_of hl) rv.ints fun h' tk t' hk => ⟨.int _, H, I.kept hk, ⟨_, rfl⟩, q⟩
theorem alike_ints (ns : List Int) : PySem.W.AlikeAll (ns.map PyData.int) := by
  refine ⟨fun x hx y hy => ?_, fun x hx => ?_⟩
  · obtain ⟨i, _, rfl⟩ := List.mem_map.mp hx
    obtain ⟨j, _, rfl⟩ := List.mem_map.mp hy
    rfl
  · obtain ⟨i, _, rfl⟩ := List.mem_map.mp hx
    intro z
    cases z
theorem cr_maxT (hc : X.calm = true) (hu : X.A.units + 64 < cLine) : CallR X (.builtin "max") (rMaxT X.K) := by
  intro pins s σ H vs us Q I r h
  obtain ⟨a, n, ns, rfl, hs, q⟩ := h
  obtain ⟨its, rv, hl, _⟩ := I.tuple hs
  rw [Vals.ref1 r]
  have hd : PyData.depthAll (PyData.int n :: ns.map PyData.int) = 0 := depth_ints (n :: ns)
  refine PySem.W.max_tuple_data (x := .int n) (xs := ns.map PyData.int) (I.ok.hd hc) (isTuple_of hl) (reads_ints (ns := n :: ns) rv) (alike_ints (n :: ns)) (by rw [hd]; omega) fun i v h' tk bs _ hr hk => ?_
  rw [PySem.W.maxD_ints] at hr
  cases hr
  exact ⟨.int _, H, I.kept hk, ⟨_, rfl⟩, q⟩
theorem cr_minT (hc : X.calm = true) (hu : X.A.units + 64 < cLine) : CallR X (.builtin "min") (rMinT X.K) := by
  intro pins s σ H vs us Q I r h
  obtain ⟨a, n, ns, rfl, hs, q⟩ := h
  obtain ⟨its, rv, hl, _⟩ := I.tuple hs
  rw [Vals.ref1 r]
  have hd : PyData.depthAll (PyData.int n :: ns.map PyData.int) = 0 := depth_ints (n :: ns)
  refine PySem.W.min_tuple_data (x := .int n) (xs := ns.map PyData.int) (I.ok.hd hc) (isTuple_of hl) (reads_ints (ns := n :: ns) rv) (alike_ints (n :: ns)) (by rw [hd]; omega) fun i v h' tk bs _ hr hk => ?_
  rw [PySem.W.minD_ints] at hr
  cases hr
  exact ⟨.int _, H, I.kept hk, ⟨_, rfl⟩, q⟩
end
end L2
namespace Fd
open PySem PySem.Spec PyProof.Rows L2
def rSumW (K : PySem.W.Frag) : List V → Hp → VK → Prop := fun xs H Q => rSum K xs H Q ∨ rSumT K xs H Q
def rMaxW (K : PySem.W.Frag) : List V → Hp → VK → Prop := fun xs H Q => rMaxX K xs H Q ∨ rMaxT K xs H Q
def rMinW (K : PySem.W.Frag) : List V → Hp → VK → Prop := fun xs H Q => rMinX K xs H Q ∨ rMinT K xs H Q
theorem cr_sumW {X : Cx} (hc : X.calm = true) : CallR X (.builtin "sum") (rSumW X.K) := CallR.or (cr_sum hc) (cr_sumT hc)
theorem cr_maxW {X : Cx} (hc : X.calm = true) (hu : X.A.units + 64 < cLine) : CallR X (.builtin "max") (rMaxW X.K) := CallR.or (call_maxX hc) (cr_maxT hc hu)
theorem cr_minW {X : Cx} (hc : X.calm = true) (hu : X.A.units + 64 < cLine) : CallR X (.builtin "min") (rMinW X.K) := CallR.or (call_minX hc) (cr_minT hc hu)
def dSumW : O1 := fun xs q => match xs with
  | [.tup ys] => (match D.ints ys with
    | some ns => q (.int ns.sum)
    | none => False)
  | xs => dSum xs q
def dMaxW : O1 := fun xs q => match xs with
  | [.tup ys] => (match D.ints ys with
    | some ns => ns ≠ [] ∧ q (.int (maxI ns))
    | none => False)
  | xs => dMax xs q
def dMinW : O1 := fun xs q => match xs with
  | [.tup ys] => (match D.ints ys with
    | some ns => ns ≠ [] ∧ q (.int (minI ns))
    | none => False)
  | xs => dMin xs q
theorem dc_sumW {C : Ctx} : DC1 C (rSumW C.K) dSumW := by
  refine ⟨fun Hs ρ σ H xs vs q Q r p w k => ?_⟩
  unfold dSumW at w
  split at w
  · obtain ⟨v, rfl, h⟩ := repBL1 p
    obtain ⟨a, us, rfl, h1, h2⟩ := h.tup r.sh
    split at w
    · rename_i ns e
      have e2 := ints_eq e
      subst e2
      obtain rfl := h2.ints
      exact .inr ⟨a, ns, rfl, h1, k _ _ Hs H w Gr.refl r (.int _)⟩
    · exact w.elim
  · exact .inl (dc_sum.run Hs ρ σ H _ vs q Q r p w k)
theorem dc_maxW {C : Ctx} : DC1 C (rMaxW C.K) dMaxW := by
  refine ⟨fun Hs ρ σ H xs vs q Q r p w k => ?_⟩
  unfold dMaxW at w
  split at w
  · obtain ⟨v, rfl, h⟩ := repBL1 p
    obtain ⟨a, us, rfl, h1, h2⟩ := h.tup r.sh
    split at w
    · rename_i ns e
      have e2 := ints_eq e
      subst e2
      obtain rfl := h2.ints
      obtain ⟨w1, w2⟩ := w
      cases ns with
      | nil => exact absurd rfl w1
      | cons n ns => exact .inr ⟨a, n, ns, rfl, h1, k _ _ Hs H w2 Gr.refl r (.int _)⟩
    · exact w.elim
  · exact .inl (dc_max.run Hs ρ σ H _ vs q Q r p w k)
theorem dc_minW {C : Ctx} : DC1 C (rMinW C.K) dMinW := by
  refine ⟨fun Hs ρ σ H xs vs q Q r p w k => ?_⟩
  unfold dMinW at w
  split at w
  · obtain ⟨v, rfl, h⟩ := repBL1 p
    obtain ⟨a, us, rfl, h1, h2⟩ := h.tup r.sh
    split at w
    · rename_i ns e
      have e2 := ints_eq e
      subst e2
      obtain rfl := h2.ints
      obtain ⟨w1, w2⟩ := w
      cases ns with
      | nil => exact absurd rfl w1
      | cons n ns => exact .inr ⟨a, n, ns, rfl, h1, k _ _ Hs H w2 Gr.refl r (.int _)⟩
    · exact w.elim
  · exact .inl (dc_min.run Hs ρ σ H _ vs q Q r p w k)
theorem dSumW_tup (ns : List Int) (q : D → Prop) : dSumW [.tup (ns.map D.int)] q = q (.int ns.sum) := by
  show (match D.ints (ns.map D.int) with | some ns => q (.int ns.sum) | none => False) = _
  rw [show D.ints (ns.map D.int) = some ns from by
    have := ints_mapF (fun x : Int => x) ns
    rw [List.map_id''] at this
    · exact this
    · intro x; rfl]
theorem dSumW_lst (ds : List D) (q : D → Prop) : dSumW [.lst ds] q = dSum [.lst ds] q := rfl
theorem dMinW_tup (ns : List Int) (q : D → Prop) (h : ns ≠ []) (k : q (.int (minI ns))) : dMinW [.tup (ns.map D.int)] q := by
  show (match D.ints (ns.map D.int) with | some ns => ns ≠ [] ∧ q (.int (minI ns)) | none => False)
  rw [show D.ints (ns.map D.int) = some ns from by
    have := ints_mapF (fun x : Int => x) ns
    rw [List.map_id''] at this
    · exact this
    · intro x; rfl]
  exact ⟨h, k⟩
theorem dMaxW_tup (ns : List Int) (q : D → Prop) (h : ns ≠ []) (k : q (.int (maxI ns))) : dMaxW [.tup (ns.map D.int)] q := by
  show (match D.ints (ns.map D.int) with | some ns => ns ≠ [] ∧ q (.int (maxI ns)) | none => False)
  rw [show D.ints (ns.map D.int) = some ns from by
    have := ints_mapF (fun x : Int => x) ns
    rw [List.map_id''] at this
    · exact this
    · intro x; rfl]
  exact ⟨h, k⟩
theorem dMaxW_lst (ds : List D) (q : D → Prop) : dMaxW [.lst ds] q = dMax [.lst ds] q := rfl
theorem dMinW_lst (ds : List D) (q : D → Prop) : dMinW [.lst ds] q = dMin [.lst ds] q := rfl
theorem dMinW_2 (i j : Int) (q : D → Prop) : dMinW [.int i, .int j] q = q (.int (if j < i then j else i)) := rfl
theorem dMaxW_2 (i j : Int) (q : D → Prop) : dMaxW [.int i, .int j] q = q (.int (if j > i then j else i)) := rfl
end Fd
/-! isinstance(x, C), C a class of the text -/
namespace Fd
open PySem PySem.Spec PyProof.Rows L2
def tyNames : List String := ["NoneType", "bool", "int", "str", "tuple", "list", "dict"]
structure IsC (K : PySem.W.Frag) (c : Str) : Prop where
  cl : Cls K (He.ga K c)
  ha : PySem.W.findIn K (.ref (He.ga K c)) "__class__" = some (some (.builtin "object.__class__"))
  hn : PySem.W.specialIn K (.builtin "object.__class__") "__get__" = some (some (.builtin "getset_descriptor.__get__"))
  ht : PySem.W.takesIn K (.builtin "object.__class__") = some true
  hm : PySem.W.mroIn K (He.ga K c) (.type "object") = some true
  no : ∀ n ∈ tyNames, PySem.W.kitOne K (.type n) (.ref (He.ga K c)) = some false
theorem kit_same {K : PySem.W.Frag} {C : Addr} : PySem.W.kitOne K (.ref C) (.ref C) = some true := by
  unfold PySem.W.kitOne
  rw [if_pos (by simp)]
theorem ty_in {d : D} (n : ∀ c fs, d ≠ .obj c fs) (n2 : d ≠ .hand ∧ ∀ ns, d ≠ .scr ns) : d.ty ∈ tyNames := by
  cases d with
  | obj c fs => exact absurd rfl (n c fs)
  | hand => exact absurd rfl n2.1
  | scr ns => exact absurd rfl (n2.2 ns)
  | _ => simp [D.ty, tyNames]
/-- isinstance(f, c) -/
def eIsC (c : Str) (f : ME) : ME := fun ρ q qe => f ρ (fun d => match d with
  | .obj c' _ => c' = c ∧ q (.bl true)
  | .hand => False
  | .scr _ => False
  | _ => q (.bl false)) qe
theorem dt_isC {C : Ctx} {c : Str} {t : TE} {f : ME} (hc : IsC C.K c) (h : DB C t f) : DT C (tCB (rIsi C.K) (tCons t (tCons (tC (.ref (He.ga C.K c))) tNil))) (eIsC c f) := by
  refine ⟨fun Hs ρ σ H q qe Q l r w k => ?_⟩
  refine h.run Hs ρ σ H _ qe _ l r w fun d v Hs1 H1 w1 g1 r1 p1 => ?_
  have plain : (∀ c fs, d ≠ .obj c fs) → (d ≠ .hand ∧ ∀ ns, d ≠ .scr ns) → q (.bl false) → rIsi C.K [v, .ref (He.ga C.K c)] H1 Q := fun no n2 w2 =>
    ⟨v, .ref (He.ga C.K c), _, .ref (He.ga C.K c), false, rfl, .own _, ty_of r1.sh p1 no n2, hc.no _ (ty_in no n2), k _ _ Hs1 H1 w2 g1 r1 (.bl _)⟩
  cases d with
  | obj c' fs =>
    obtain ⟨rfl, w2⟩ := (show c' = c ∧ q (.bl true) from w1)
    cases p1 with
    | sh p =>
      cases p with
      | obj h1 h2 h3 => exact ⟨_, .ref (He.ga C.K c'), _, .ref (He.ga C.K c'), true, rfl, .own _, .base (.ins (r1.sh _ _ h1) hc.cl hc.ha hc.hn hc.ht hc.hm), kit_same, k _ _ Hs1 H1 w2 g1 r1 (.bl _)⟩
  | hand => exact (show False from w1).elim
  | scr ns => exact (show False from w1).elim
  | non => exact plain (fun _ _ e => by cases e) ⟨fun e => (by cases e), fun _ e => (by cases e)⟩ w1
  | bl b => exact plain (fun _ _ e => by cases e) ⟨fun e => (by cases e), fun _ e => (by cases e)⟩ w1
  | int b => exact plain (fun _ _ e => by cases e) ⟨fun e => (by cases e), fun _ e => (by cases e)⟩ w1
  | str b => exact plain (fun _ _ e => by cases e) ⟨fun e => (by cases e), fun _ e => (by cases e)⟩ w1
  | tup b => exact plain (fun _ _ e => by cases e) ⟨fun e => (by cases e), fun _ e => (by cases e)⟩ w1
  | lst b => exact plain (fun _ _ e => by cases e) ⟨fun e => (by cases e), fun _ e => (by cases e)⟩ w1
  | dct b => exact plain (fun _ _ e => by cases e) ⟨fun e => (by cases e), fun _ e => (by cases e)⟩ w1
end Fd
/-! x != y by an own __eq__ -/
namespace PySem.W
open PySem PySem.Spec PySem.Calls PyProof.Rows
section
variable {prog : Program} {w : World} {A : Around} {E : Value → Shared → Prop} {s : Shared} {K : Frag} {x C f : Addr} {ox : Obj} {od : Option Obj} {b tb : Value}
theorem ifBound_B {M : Model} {name : Str} {id : String} {args : List Value} {Q : Option Value → Shared → Prop} (X : K.In s.heap) (I : InstAt s.heap x ox C od) (hs : findIn K (.ref C) name = some (some (.builtin id))) (hb : bindSpecial (.builtin id) (.ref x) = pure (.builtin id, [.ref x]))
    (h : wpAny M A (call (.builtin id) (.ref x :: args)) (fun v => Q (some v)) E s) : wpAny M A (callSpecialIfBound? (.ref x) name args) Q E s := by
  simp only [callSpecialIfBound?, bindSpecialIfBound?]
  refine wpAny_holding (wpAny_bind (wpAny_bind (wpAny_bind (I.type.here ((looks_findIn X hs).here ?_)))))
  refine wpAny_bind (wpAny_askSetting (wpAny_ite ?_))
  have fin : wpAny M A (call (.builtin id) ([.ref x] ++ args) >>= fun v => pure (some v)) Q E s := wpAny_bind (wpAny_mono h (fun v s' h' => wpAny_pure h') fun _ _ h' => h')
  rw [hb]
  split
  · exact wpAny_bind (wpAny_pure (wpAny_pure (by exact fin)))
  · exact wpAny_tryCatch (wpAny_bind (wpAny_pure (wpAny_pure (by exact fin))))
theorem objNe_K (X : K.In s.heap) (I : InstAt s.heap x ox C od) (hs : findIn K (.ref C) "__eq__" = some (some (.ref f))) (hf : isFn K (.ref f) = true) (hu : A.units < cLine) {Q : Fin → Shared → Prop}
    (hcall : wpAny (model prog w) A (call (.ref f) [.ref x, b]) (fun v s' => ∃ r, v = .bool r ∧ Q (.done (.ret (.bool (!r)))) s') E s) :
    wpAny (model prog w) A (Builtin.«object.__ne__» ⟨[.ref x, b], []⟩) Q E s := by
  unfold Builtin.«object.__ne__»
  repeat (first
    | with_reducible refine wpAny_cRoomFor hu ?_
    | (refine wpAny_bind (m := callSpecialIfBound? (.ref x) (Str.ofString "__eq__") [b])
        (ifBound_K X I hs hf (wpAny_mono hcall (fun r s' hr => by
          obtain ⟨b, rfl, hq⟩ := hr
          repeat (first | exact hq | exact wpAny_pure hq | exact wpAny_truthy_bool hq | (refine wpAny_bind (m := truthy (.bool _)) (wpAny_truthy_bool ?_)) | wp_step)) fun _ _ e => e)))
    | wp_step)
theorem tryNe_K (X : K.In s.heap) (I : InstAt s.heap x ox C od) (hn : findIn K (.ref C) "__ne__" = some (some (.builtin "object.__ne__"))) (hs : findIn K (.ref C) "__eq__" = some (some (.ref f))) (hf : isFn K (.ref f) = true) (hm : mroIn K C (.type "object") = some true)
    (hu : A.units + 1 < cLine) {Q : Option Value → Shared → Prop}
    (hcall : wpAny (model prog w) A.in1 (call (.ref f) [.ref x, b]) (fun v s' => ∃ r, v = .bool r ∧ Q (some (.bool (!r))) s') E s) :
    wpAny (model prog w) A (tryCompare (.ref x) "__ne__" b) Q E s := by
  have sub : Looks (model prog w) s.heap (isInstance (.ref x) (.type "object")) true := I.type.andThen (looks_mroIn X hm)
  simp only [tryCompare]
  refine wpAny_bind (ifBound_B X I hn (F.cmp_object.ne.bind _) (wpAny_call (codeAny_call_builtin F.cmp_object.ne.plain F.cmpEntry_ne
    (check_slot F.cmpKind_ne F.cmpSplit_ne sub (F.cmpArgs_ne _ _) (objNe_K (A := A.in1) X I hs hf hu (wpAny_mono hcall (fun v s' hv => ?_) fun _ _ e => e))))))
  obtain ⟨r, rfl, hq⟩ := hv
  first | exact ⟨r, rfl, wpAny_pure hq⟩ | exact ⟨r, rfl, wpAny_pure (wpAny_pure hq)⟩ | exact ⟨r, rfl, hq⟩
theorem richNe_K (X : K.In s.heap) (I : InstAt s.heap x ox C od) (hb : Looks (model prog w) s.heap (typeOf b) (.ref C)) (hn : findIn K (.ref C) "__ne__" = some (some (.builtin "object.__ne__"))) (hs : findIn K (.ref C) "__eq__" = some (some (.ref f))) (hf : isFn K (.ref f) = true) (hm : mroIn K C (.type "object") = some true)
    (hu : A.units + 1 < cLine) {Q : Value → Shared → Prop}
    (hcall : wpAny (model prog w) A.in1 (call (.ref f) [.ref x, b]) (fun v s' => ∃ r, v = .bool r ∧ Q (.bool (!r)) s') E s) :
    wpAny (model prog w) A (richCompare .NotEq (.ref x) b) Q E s := by
  unfold richCompare
  simp only [oneThing_ref]
  refine wpAny_holding (wpAny_bind (wpAny_cRoomFor (Nat.lt_of_succ_lt hu) ?_))
  refine wpAny_bind (I.type.here (wpAny_bind (hb.here ?_)))
  rw [show (Value.ref C != Value.ref C) = false from by simp]
  simp only [Bool.false_eq_true, if_false]
  refine wpAny_bind (wpAny_pure ?_)
  simp only [Bool.false_eq_true, if_false]
  refine wpAny_bind (tryNe_K X I hn hs hf hm hu (wpAny_mono hcall (fun v s' hv => ?_) fun _ _ e => e))
  obtain ⟨r, rfl, hq⟩ := hv
  first | exact ⟨r, rfl, wpAny_pure hq⟩ | exact ⟨r, rfl, wpAny_pure (wpAny_pure hq)⟩
end
end PySem.W
namespace L2
open PySem PySem.Spec PyProof.Rows
section
variable {X : Cx}
/-- x != y, both of the class at C, whose own __eq__ promises sp -/
def rNeOwn (C : Addr) (sp : Sp) (E : XK) : R2 := fun x y H Q => ∃ a b dx dy fs gs, x = .ref a ∧ y = .ref b ∧ H a = some (.ins C dx fs) ∧ H b = some (.ins C dy gs) ∧ sp [.ref a, .ref b] H (fun z H' => ∃ r, z = .bl r ∧ Q (.bl (!r)) H') E
theorem op_neOwn {CX : CXT} {n : Nat} {C f : Addr} {fd : FuncData} {ps : List Str} {sp : Sp} {E : XK} (F : FnOk X.prog X.w X.K X.mg X.base CX n f fd ps sp)
    (hn : PySem.W.findIn X.K (.ref C) "__ne__" = some (some (.builtin "object.__ne__"))) (hs : PySem.W.findIn X.K (.ref C) "__eq__" = some (some (.ref f))) (hf : PySem.W.isFn X.K (.ref f) = true) (hm : PySem.W.mroIn X.K C (.type "object") = some true)
    (hb : Binds X.K fd ps []) (hr : Room (n + 1) X.A) (hx : Passes CX X E) : OpR X (compareOp .NotEq) (rNeOwn C sp E) := by
  intro pins s σ H x y v u Q I rx ry h
  obtain ⟨a, b, dx, dy, fs, gs, rfl, rfl, ha, hb', hsp⟩ := h
  cases rx
  cases ry
  obtain ⟨mA, J, _⟩ := ins_get I.hok ha
  obtain ⟨mB, J', _⟩ := ins_get I.hok hb'
  obtain ⟨od, J, _⟩ := J.look
  obtain ⟨od', J', _⟩ := J'.look
  show wpAny (model X.prog X.w) X.A (richCompare .NotEq (.ref a) (.ref b)) (EP X pins σ Q) X.xe s
  refine PySem.W.richNe_K I.kIn J J'.type hn hs hf hm (by have := hr.un; omega) ?_
  have e0 : Env0 X.prog X.w X.K X.mg X.base X.A.in1 X.stack s H := I.env0.in1
  have hl := F.len _ _ _ _ hsp
  have r2 : Vals [V.ref a, V.ref b] [Value.ref a, Value.ref b] := .cons rfl (.cons rfl .nil)
  refine wpAny_call (codeAny_mono (F.run X.A.in1 X.stack s H ⟨[.ref a, .ref b], []⟩ [.ref a, .ref b] [.ref a, .ref b] _ E hr.in1 e0 (by
    have := hb s [.ref a, .ref b] I.kIn (by simpa using hl)
    simpa using this) r2 hsp) fun r s' hq => ?_)
  cases r with
  | error e => exact hx pins σ H s e s' I hq
  | ok fl =>
    cases fl with
    | ret w =>
      obtain ⟨z, H', I', rz, r, ez, q⟩ := I.after hq
      subst ez
      cases rz
      exact ⟨r, rfl, .bl (!r), H', I', rfl, q⟩
    | next => exact False.elim hq
    | brk => exact False.elim hq
    | cont => exact False.elim hq
end
end L2
/-! x != y by an own __eq__: the functional reading -/
namespace Fd
open PySem PySem.Spec PyProof.Rows L2
/-- x != y of the class c, whose own __eq__ reads m -/
def dNeO (c : Str) (m : M) : O2 := fun x y q => match x, y with
  | .obj c1 _, .obj c2 _ => (c1 = c ∧ c2 = c) ∧ m [x, y] (fun d => match d with
    | .bl b => q (.bl (!b))
    | _ => False) (fun _ => False)
  | _, _ => False
theorem d2_neO {C : Ctx} {c : Str} {m : M} {E : XK} : D2 C (rNeOwn (He.ga C.K c) (spOf C.K 2 m) E) (dNeO c m) := by
  refine ⟨fun Hs ρ σ H x y vx vy q Q r px py w k => ?_⟩
  unfold dNeO at w
  split at w
  · obtain ⟨⟨rfl, rfl⟩, w⟩ := w
    cases px with
    | sh p =>
      cases p with
      | obj h1 h2 h3 =>
        cases py with
        | sh p' =>
          cases p' with
          | obj h1' h2' h3' =>
            refine ⟨_, _, _, _, _, _, rfl, rfl, r.sh _ _ h1, r.sh _ _ h1', C.a, Hs, _, _, rfl, r.sh, r.hd, .cons (.obj h1 h2 h3) (.cons (.obj h1' h2' h3') .nil), w, fun d v Hs2 H2 hq g2 s2 hd2 p2 => ?_⟩
            split at hq
            · cases p2
              exact ⟨_, rfl, k _ _ Hs2 H2 hq g2 (r.grow g2 s2 hd2) (.bl _)⟩
            · exact hq.elim
  · exact w.elim
/-- a method that raises nothing -/
structure CalM (P : Program) (w : World) (K : PySem.W.Frag) (mg : Str → Option Value) (base : Heap) (k : Nat) (f : Addr) (n : Nat) (m : M) : Prop where
  ex : ∃ fd ps, FnOk P w K mg base C8.CX0 k f fd ps (spOf K n m) ∧ Binds K fd ps []
theorem calM_of {P : Program} {w : World} {K : PySem.W.Frag} {mg : Str → Option Value} {base : Heap} {x qn : Str} {f₀ : Addr} {st : Stmt} {N ps : List Str} {n k j : Nat} {f : MS}
    (F : ∃ fd, FunD K x qn (defArgs st) (defBody st) (defScope st) [] [] f₀ fd) (S : FnScope N ps (defScope st)) (hn : ps.length = n) (hN : N.length = n + j)
    (hb : ∀ (cdv : Value) (A : Around) (outer : List Env) (s : Shared) (H : Hp) (E : XK), Room k (A.deeper (PyProof.Rows.envOfC qn (defScope st) s.heap.objs.size f₀ cdv)) →
      ∃ t, PSs (cxOf C8.CX0 P w K mg base N qn (defScope st) f₀ cdv A outer s H E).nox (defBody st) t ∧ ∀ C : Ctx, C.K = K → (∀ x, ¬ C.W x) → DS C t f)
    (bd : ∀ (kV doc pm : Value) (an : Option Addr) (cdv ct : Value) (us : List Value), us.length = ps.length → bindArgs (PySem.W.fnOf x qn (defArgs st) (defBody st) (defScope st) .none kV doc pm an cdv ct) ⟨us, []⟩ = pure (ps.zip us)) :
    CalM P w K mg base (k + 1) f₀ n (mBody j f) := by
  obtain ⟨fd, F⟩ := F
  refine ⟨⟨fd, ps, F.ok S (fun vs H Q E h => ?_) (fun cdv A outer s H vs Q E hr h => ?_), F.bindsN bd⟩⟩
  · obtain ⟨a, Hs, ds, q, hl, _⟩ := h
    rw [hl, hn]
  · obtain ⟨t, h1, h2⟩ := hb cdv A outer s H E hr
    exact ⟨t, h1.nox, body_ok hN h2 h⟩
/-- the class c: __ne__ the object's, __eq__ the function at f -/
structure OwnE (K : PySem.W.Frag) (c : Str) (f : Addr) : Prop where
  hn : PySem.W.findIn K (.ref (He.ga K c)) "__ne__" = some (some (.builtin "object.__ne__"))
  hs : PySem.W.findIn K (.ref (He.ga K c)) "__eq__" = some (some (.ref f))
  hf : PySem.W.isFn K (.ref f) = true
  hm : PySem.W.mroIn K (He.ga K c) (.type "object") = some true
theorem op_neM {X : Cx} {n : Nat} {f : Addr} {c : Str} {m : M} (k : CalM X.prog X.w X.K X.mg X.base n f 2 m) (O : OwnE X.K c f) (hr : Room (n + 1) X.A) : OpR X (compareOp .NotEq) (rNeOwn (He.ga X.K c) (spOf X.K 2 m) E0) := by
  obtain ⟨fd, ps, F, b⟩ := k.ex
  exact op_neOwn F O.hn O.hs O.hf O.hm b hr pass0
end Fd
/-! looks: isinstance of an own class, an own __eq__ -/
namespace Fd
open PySem PySem.Spec PyProof.Rows L2 He
def lkIsC (c : Str) : Look1 := fun K => PySem.W.plainGet K (ga K c) Str.empty && (PySem.W.hasDictIn K (ga K c) && (PySem.W.plainOver K (ga K c) && (eqO (PySem.W.findIn K (.ref (ga K c)) "__setattr__") (some (some (.builtin "object.__setattr__"))) &&
  (eqO (PySem.W.findIn K (.ref (ga K c)) "__class__") (some (some (.builtin "object.__class__"))) && (eqO (PySem.W.specialIn K (.builtin "object.__class__") "__get__") (some (some (.builtin "getset_descriptor.__get__"))) &&
  (decide (PySem.W.takesIn K (.builtin "object.__class__") = some true) && (decide (PySem.W.mroIn K (ga K c) (.type "object") = some true) && tyNames.all fun n => decide (PySem.W.kitOne K (.type n) (.ref (ga K c)) = some false))))))))
theorem isC_ok {K : PySem.W.Frag} {c : Str} (h : lkIsC c K = true) : IsC K c := by
  obtain ⟨h1, h⟩ := ba h
  obtain ⟨h2, h⟩ := ba h
  obtain ⟨h3, h⟩ := ba h
  obtain ⟨h4, h⟩ := ba h
  obtain ⟨h5, h⟩ := ba h
  obtain ⟨h6, h⟩ := ba h
  obtain ⟨h7, h⟩ := ba h
  obtain ⟨h8, h⟩ := ba h
  exact ⟨⟨h1, h2, h3, eqO_ok h4⟩, eqO_ok h5, eqO_ok h6, of_decide_eq_true h7, of_decide_eq_true h8, fun n hn => of_decide_eq_true (List.all_eq_true.mp h n hn)⟩
def lkOwnE (c : Str) (f : Str) : Look1 := fun K => eqO (PySem.W.findIn K (.ref (ga K c)) "__ne__") (some (some (.builtin "object.__ne__"))) && (eqO (PySem.W.findIn K (.ref (ga K c)) "__eq__") (some (some (.ref (ma K (ga K c) f)))) &&
  (PySem.W.isFn K (.ref (ma K (ga K c) f)) && decide (PySem.W.mroIn K (ga K c) (.type "object") = some true)))
theorem ownE_ok {K : PySem.W.Frag} {c f : Str} (h : lkOwnE c f K = true) : OwnE K c (ma K (ga K c) f) := by
  obtain ⟨h1, h⟩ := ba h
  obtain ⟨h2, h⟩ := ba h
  obtain ⟨h3, h4⟩ := ba h
  exact ⟨eqO_ok h1, eqO_ok h2, h3, of_decide_eq_true h4⟩
end Fd
/-! d.get(k), d.get(k, x) of a dict of one's own -/
namespace Fd
open PySem PySem.Spec PyProof.Rows L2
def eGet1 (i : Nat) (fk : ME) : ME := fun ρ q qe => match dOf ρ i with
  | some kvs => fk ρ (fun k => match keyD k with
    | some k => q ((getD' kvs k).getD .non)
    | none => False) qe
  | none => False
def eGet2 (i : Nat) (fk fe : ME) : ME := fun ρ q qe => match dOf ρ i with
  | some kvs => fk ρ (fun k => match keyD k with
    | some k => fe ρ (fun e => q ((getD' kvs k).getD e)) qe
    | none => False) qe
  | none => False
section
variable {C : Ctx}
theorem isD_of {H : Hp} {p : Addr} {vs : List (Key × V)} (h : Rd H p (.dK vs)) : IsD H p := .inl ⟨vs, h⟩
theorem dt_get1 {i : Nat} {tk : TE} {fk : ME} (hk : DT C tk fk) : DT C (tDGet1 (tVar i) tk) (eGet1 i fk) := by
  refine ⟨fun Hs ρ σ H q qe Q l r w k => ?_⟩
  unfold eGet1 at w
  split at w
  · rename_i kvs e
    obtain ⟨p, vs, ev, rd, rk⟩ := dOf_rd r e
    refine ⟨_, ev, p, rfl, isD_of (rd Hs H Gr.refl r), hk.run Hs ρ σ H _ qe _ l r w fun kd vk Hs1 H1 w1 g1 r1 p1 => ?_⟩
    split at w1
    · rename_i kk ek
      obtain rfl := keyD_v p1 ek
      refine ⟨_, .inl ⟨vs, kk, rd Hs1 H1 g1 r1, rfl, rfl⟩, ?_⟩
      cases h : getD' kvs kk with
      | none =>
        rw [(repK_get rk).2 h]
        rw [h] at w1
        exact k _ _ Hs1 H1 w1 g1 r1 .non
      | some d =>
        obtain ⟨v, e1, h2⟩ := (repK_get rk).1 d h
        rw [e1]
        rw [h] at w1
        exact k _ _ Hs1 H1 w1 g1 r1 (h2.mono g1.s)
    · exact w1.elim
  · exact w.elim
theorem dt_get2 {i : Nat} {tk te : TE} {fk fe : ME} (hk : DT C tk fk) (he : DT C te fe) : DT C (tDGet2 (tVar i) tk te) (eGet2 i fk fe) := by
  refine ⟨fun Hs ρ σ H q qe Q l r w k => ?_⟩
  unfold eGet2 at w
  split at w
  · rename_i kvs e
    obtain ⟨p, vs, ev, rd, rk⟩ := dOf_rd r e
    refine ⟨_, ev, p, rfl, isD_of (rd Hs H Gr.refl r), hk.run Hs ρ σ H _ qe _ l r w fun kd vk Hs1 H1 w1 g1 r1 p1 => ?_⟩
    split at w1
    · rename_i kk ek
      obtain rfl := keyD_v p1 ek
      refine he.run Hs1 ρ σ H1 _ qe _ l r1 w1 fun ed ve Hs2 H2 w2 g2 r2 p2 => ?_
      refine ⟨_, .inl ⟨vs, kk, rd Hs2 H2 (g1.trans g2) r2, rfl, rfl⟩, ?_⟩
      cases h : getD' kvs kk with
      | none =>
        rw [(repK_get rk).2 h]
        rw [h] at w2
        exact k _ _ Hs2 H2 w2 (g1.trans g2) r2 p2
      | some d =>
        obtain ⟨v, e1, h2⟩ := (repK_get rk).1 d h
        rw [e1]
        rw [h] at w2
        exact k _ _ Hs2 H2 w2 (g1.trans g2) r2 (h2.mono (g1.trans g2).s)
    · exact w1.elim
  · exact w.elim
end
end Fd
/-! d[None] = x: the dict is forgotten -/
namespace L2
open PySem PySem.Spec PyProof.Rows
theorem none_pairs {P : Program} {w : World} : ∀ {es : List DictEntry} {kvs : List (Key × Value)}, Pairs (mixKind P w) es kvs → Pairs (noneKind P w) es (kvs.map fun p => ((some p.1 : Option Key), p.2))
  | _, _, .nil => .nil
  | _, _, .cons h e r => .cons (kv := (some _, _)) h e (none_pairs r)
theorem none_dict {P : Program} {w : World} {h : Heap} {a : Addr} {kvs : List (Key × Value)} (d : h.DictOf (mixKind P w) a kvs) : h.DictOf (noneKind P w) a (kvs.map fun p => ((some p.1 : Option Key), p.2)) := by
  obtain ⟨o, es, ep, ho, hx, hdt, hk, hp, hn⟩ := d
  refine ⟨o, es, ep, ho, hx, hdt, fun e he => ?_, none_pairs hp, ?_⟩
  · obtain ⟨k, h1, h2⟩ := hk e he
    exact ⟨some k, h1, h2⟩
  · rw [List.map_map]
    have e : ((fun x : Option Key × Value => x.1) ∘ fun p : Key × Value => ((some p.1 : Option Key), p.2)) = some ∘ fun p : Key × Value => p.1 := rfl
    rw [show ((kvs.map ((·.1) ∘ fun p : Key × Value => ((some p.1 : Option Key), p.2))) = (kvs.map (·.1)).map some) from by rw [List.map_map]; rfl]
    refine List.pairwise_map.mpr (hn.imp fun h z => h (Option.some.inj z))
section
variable {X : Cx} {pins : List (Addr × Obj)} {σ : St} {H : Hp} {s : Shared} {a : Addr} {kvs : List (Key × V)} {r : Value} {A : Around} {E : Value → Shared → Prop}
theorem d_setNone {Q : Unit → Shared → Prop} (I : Inv X pins σ H s) (e : H a = some (.dK kvs)) (h : ∀ s', Inv X pins σ (upd H a (.ext fun _ => True)) s' → Q () s') :
    wpAny (model X.prog X.w) A (setItem (.ref a) .none r) Q E s := by
  obtain ⟨z, hd, vs, rel, dd⟩ := dk_of I.hok e
  have hz : (vs.map fun p => ((some p.1 : Option Key), p.2)).length ≤ sizeLine := by rw [List.length_map, ← rel.length]; exact z
  refine wpAny_setItem_pairs (knd := noneKind X.prog X.w) (k := none) (hsz := hz) (show (noneKind X.prog X.w).is none .none = true from rfl) (none_dict dd) fun h' dd' hs => h _ ?_
  have he : ∃ q, h'.get? a = some q := let ⟨q, _, _, hq, _⟩ := dd'; ⟨q, hq⟩
  exact d_write I (by rw [e]; exact True.intro) hs he ⟨trivial, he, fun _ _ _ _ => trivial⟩
end
def sDPutN (td ty tv : TE) : TS := fun D σ H => tv σ H fun v H1 => td σ H1 fun x H2 => ty σ H2 fun y H3 => ∃ a, x = .ref a ∧ ((∃ H4, DPut H3 a y v H4 ∧ D.nx σ H4) ∨ (y = .non ∧ ∃ kvs, H3 a = some (.dK kvs) ∧ D.nx σ (upd H3 a (.ext fun _ => True))))
theorem ps_dputN {X : Cx} {o i value : Expr} {pos pos' : Pos} {td ty tv : TE} (hu : X.A.units + 1 < cLine) (ho : PE X o td) (hi : PE X i ty) (hv : PE X value tv) (hs : swapsWith value (some (.Subscript o i pos')) pos.line X.env = pure false) :
    PS X (.Assign [.Subscript o i pos'] value pos) (sDPutN td ty tv) := by
  refine ⟨fun pins s σ H D I h => ?_⟩
  refine wpAny_Assign_Subscript (thn (hv.run pins s σ H _ I h) fun r s1 ⟨v, H1, I1, rv, q1⟩ => thn (ho.run pins s1 σ H1 _ I1 q1) fun u s2 ⟨x, H2, I2, rx, q2⟩ => thn (hi.run pins s2 σ H2 _ I2 q2) fun iv s3 ⟨y, H3, I3, ry, a, ex, q3⟩ => ?_) hs
  subst ex
  obtain rfl : u = Value.ref a := rx
  rcases q3 with ⟨H4, g, q3⟩ | ⟨rfl, kvs, e, q3⟩
  · exact d_setItem hu I3 g ry rv fun s4 I4 => ⟨σ, H4, I4, q3⟩
  · obtain rfl : iv = Value.none := ry
    exact d_setNone I3 e fun s4 I4 => ⟨σ, _, I4, q3⟩
end L2
namespace Fd
open PySem PySem.Spec PyProof.Rows L2
variable {C : Ctx}
/-- x[k] = e, x a dict of one's own; behind x[None] = e nothing is known of x -/
def sPutDN (i : Nat) (fk fe : ME) : MS := fun ρ sq qe => fe ρ (fun d => match ρ[i]? with
  | some (.od kvs) => fk ρ (fun k => match keyD k with
    | some k => kvs.length < sizeLine ∧ sq.nx (ρ.set i (.od (putD kvs k d)))
    | none => (match k with
      | .non => sq.nx (ρ.set i .no)
      | _ => False)) qe
  | _ => False) qe
theorem ds_putDN {i : Nat} {tk te : TE} {fk fe : ME} (hk : DT C tk fk) (he : DT C te fe) : DS C (sDPutN (tVar i) tk te) (sPutDN i fk fe) := by
  refine ⟨fun Hs ρ σ H sq qe E l r w k => he.run Hs ρ σ H _ qe _ l r w fun d v Hs1 H1 w1 g1 r1 p1 => ?_⟩
  split at w1
  · rename_i kvs e
    obtain ⟨p, vs, ev, h1, h2, h3, h4, h5⟩ := r1.en i _ e
    refine ⟨_, ev, hk.run Hs1 ρ σ H1 _ qe _ l r1 w1 fun kd vk Hs2 H2 w2 g2 r2 p2 => ?_⟩
    obtain ⟨p', vs', ev', h1', h2', h3', h4', h5'⟩ := r2.en i _ e
    rw [ev] at ev'
    cases ev'
    refine ⟨p, rfl, ?_⟩
    split at w2
    · rename_i kk ek
      obtain rfl := keyD_v p2 ek
      refine .inl ⟨_, DPut.k h1' (by rw [← h2'.length]; exact w2.1), ?_⟩
      exact k.nx _ _ Hs2 _ w2.2 (g1.s.trans g2.s) (r2.change e rfl ev h3' h4' h5' ⟨p, _, rfl, upd_same, repK_put (p1.mono g2.s) h2', h3', h4', h5'⟩)
    · split at w2
      · cases p2
        exact .inr ⟨rfl, _, h1', k.nx _ _ Hs2 _ w2 (g1.s.trans g2.s) (r2.change e rfl ev h3' h4' h5' trivial)⟩
      · exact w2.elim
  · exact w1.elim
end Fd
/-! xs.index(k), xs.count(k), xs a list or a tuple -/
namespace L2
open PySem PySem.Spec PyProof.Rows
section
variable {X : Cx}
theorem ndT_is {pins : List (Addr × Obj)} {σ : St} {H : Hp} {s : Shared} {p : Addr} {ys : List V} (I : Inv X pins σ H s) (h : SqT X.K H p ys) (n : NdT X.K H p) : s.TypeIs (.ref p) "tuple" ∧ ∀ a, Value.ref p = .ref a → ∃ ob, s.heap.get? a = some ob ∧ ob.dict = none := by
  obtain ⟨its, _, ht, _⟩ := I.tuple h
  refine ⟨ht.typeIs, fun a e => ?_⟩
  cases e
  rcases n with ⟨o, u, h1, h2⟩ | ⟨o, h1, h2⟩
  · exact ⟨o, (I.hok p _ h1).1, h2⟩
  · exact ⟨o, I.kIn p o h1, h2⟩
/-- the method of a list, of a tuple that is known to have no dict -/
def tLT (K : PySem.W.Frag) (rl rt : V → List V → Hp → VK → Prop) (to : TE) (t : TA) : TE := fun σ H Q => to σ H fun x H1 => ((∃ p ys, x = .ref p ∧ SqL K H1 p ys) ∧ t σ H1 fun xs H2 => rl x xs H2 Q) ∨ ((∃ p ys, x = .ref p ∧ SqT K H1 p ys ∧ NdT K H1 p) ∧ t σ H1 fun xs H2 => rt x xs H2 Q)
theorem pe_lt {o e : Expr} {es : List Expr} {name : Str} {il it : String} {apos cpos : Pos} {to : TE} {t : TA} {rl rt : V → List V → Hp → VK → Prop} (pl : PlainAttrs "list") (sl : Slot "list" name il) (tl : typeOf (.builtin il) = pure (.type "method_descriptor")) (ml : MtR X il rl)
    (pa : PlainAttrs "tuple") (slot : Slot "tuple" name it) (hty : typeOf (.builtin it) = pure (.type "method_descriptor")) (hm : MtR X it rt) (ho : PE X o to) (ha : PA X (e :: es) t)
    (hbase : attributeBase o name X.env (eval o X.env) = eval o X.env := by rfl)
    (hfew : ((backTo cpos (starEach (e :: es) X.env)).all (fun x => !x.1) && (backToKw cpos (keywordEach [] X.env)).all (fun x => x.1.isSome)
      && decide ((e :: es).length + ([] : List Keyword).length + (if ([] : List Keyword).isEmpty then 0 else 1) < 30)) = true := by rfl)
    (hline : (apos.endLine == cpos.line) = true := by rfl) (hs : starEach (e :: es) X.env = (false, eval e X.env) :: starEach es X.env := by rfl) (hplain : (backTo cpos (starEach es X.env)).any (·.1) = false := by rfl) :
    PE X (.Call (.Attribute o name apos) (e :: es) [] cpos) (tLT X.K rl rt to t) := by
  have np : (false || (backTo cpos (starEach es X.env)).any (·.1)) = false := by rw [hplain] <;> rfl
  refine ⟨fun pins s σ H Q I h => wpAny_Call_method_late hbase hfew hline rfl (thn (ho.run pins s σ H _ I h) fun v s1 ⟨x, H1, I1, r1, q0⟩ => ?_)⟩
  rcases q0 with ⟨⟨p, ys, rfl, h3⟩, q1⟩ | ⟨⟨p, ys, rfl, h3, h4⟩, q1⟩
  · obtain ⟨h1, h2⟩ := tyV_is I1 r1 (T := "list") (.inl ⟨rfl, ys, h3⟩)
    have hA := ha.run cpos pins s1 σ H1 _ I1 q1
    refine ⟨"list", il, pl, sl, tl, h1, h2, ?_⟩
    rw [hs] at hA ⊢
    exact Calls.callWith_builtin np (Calls.evalArgs_plain (thn hA fun us s2 ⟨vs, H2, I2, r2, q2⟩ => ml pins s2 σ H2 (.ref p) vs v us Q I2 r1 r2 q2))
  · obtain rfl : v = Value.ref p := r1
    obtain ⟨h1, h2⟩ := ndT_is I1 h3 h4
    have hA := ha.run cpos pins s1 σ H1 _ I1 q1
    refine ⟨"tuple", it, pa, slot, hty, h1, h2, ?_⟩
    rw [hs] at hA ⊢
    exact Calls.callWith_builtin np (Calls.evalArgs_plain (thn hA fun us s2 ⟨vs, H2, I2, r2, q2⟩ => hm pins s2 σ H2 (.ref p) vs _ us Q I2 rfl r2 q2))
def rTIdx (K : PySem.W.Frag) : V → List V → Hp → VK → Prop := fun x xs H Q => ∃ (p : Addr) (ns : List Int) (k : Int), x = .ref p ∧ xs = [.int k] ∧ SqT K H p (ns.map V.int) ∧ k ∈ ns ∧ Q (.int (ns.idxOf k : Nat)) H
theorem mt_tidx : MtR X "tuple.index" (rTIdx X.K) := by
  intro pins s σ H x xs v us Q I rx rxs h
  obtain ⟨p, ns, k, rfl, rfl, hs, hk, q⟩ := h
  obtain rfl : v = Value.ref p := rx
  obtain ⟨uy, rfl, ⟨t, rfl⟩⟩ := rxs.one
  obtain ⟨its, rv, ht, _⟩ := I.tuple hs
  exact SeqAt.tuple_index_ints (isTuple_of ht) rv.ints hk ⟨.int _, H, I.tok _, ⟨_, rfl⟩, q⟩
/-- x.count(y), of data -/
def rCntD (K : PySem.W.Frag) : V → List V → Hp → VK → Prop := fun x xs H Q => ∃ (p : Addr) (vs : List V) (y : V) (d : PyData) (ds : List PyData), x = .ref p ∧ xs = [y] ∧ SqT K H p vs ∧ DpAll K H vs ds ∧ Dp K H y d ∧ PyData.plainAll ds = true ∧ d.plain = true ∧ d.depth ≤ 60 ∧ Q (.int (ds.countP fun z => PyData.eqv z d : Nat)) H
theorem mt_tcnt (hu : X.A.units + 64 < cLine) : MtR X "tuple.count" (rCntD X.K) := by
  intro pins s σ H x xs v us Q I rx rxs h
  obtain ⟨p, vs, y, d, ds, rfl, rfl, hs, ha, hd, pl, pd, hl, q⟩ := h
  obtain rfl : v = Value.ref p := rx
  obtain ⟨uy, rfl, ry⟩ := rxs.one
  obtain ⟨its, rv, ht, _⟩ := I.tuple hs
  obtain ⟨as, h4⟩ := Dp.readsAll I ds vs its ha rv
  obtain ⟨bs, h5⟩ := Dp.reads I d y uy hd ry
  exact SeqAt.count_tuple_data (isTuple_of ht) h4 h5 pl pd (by omega) ⟨.int _, H, I.tok _, ⟨_, rfl⟩, q⟩
end
end L2
namespace Fd
open PySem PySem.Spec PyProof.Rows L2
/-- x.index(k) of ints -/
def eIndexV (f g : ME) : ME := fun ρ q qe => f ρ (fun x => match x with
  | .lst ys => g ρ (fun y => dIndex (.lst ys) y q) qe
  | .tup ys => g ρ (fun y => dIndex (.lst ys) y q) qe
  | _ => False) qe
theorem RepB.nd {K : PySem.W.Frag} {a : Hd} {Hs H : Hp} {ds : List D} {v : V} (s : Same Hs H) (h : RepB K a Hs H (.tup ds) v) : ∃ p vs, v = .ref p ∧ SqT K H p vs ∧ NdT K H p ∧ RepL K a Hs ds vs := by
  cases h with
  | sh h =>
    cases h with
    | tup h n r => exact ⟨_, _, rfl, same_sqT s h, n.mono s, r⟩
theorem dt_indexV {C : Ctx} {tx ty : TE} {f g : ME} (h : DB C tx f) (h' : DT C ty g) : DT C (tLT C.K (rIndex C.K) (rTIdx C.K) tx (tCons ty tNil)) (eIndexV f g) := by
  refine ⟨fun Hs ρ σ H q qe Q l r w k => ?_⟩
  refine h.run Hs ρ σ H _ qe _ l r w fun d v Hs1 H1 w1 g1 r1 p1 => ?_
  split at w1
  · rename_i ys
    obtain ⟨a, us, rfl, h1, h2⟩ := p1.lst r1.sh
    refine .inl ⟨⟨a, us, rfl, SqL.of h1⟩, h'.run Hs1 ρ σ H1 _ qe _ l r1 w1 fun e u Hs2 H2 w2 g2 r2 p2 => ?_⟩
    unfold dIndex at w2
    split at w2
    · rename_i ys' kk eq
      cases eq
      split at w2
      · rename_i ns en
        obtain ⟨a', us', ev, h1', h2'⟩ := (p1.mono g2.s g2.b).lst r2.sh
        cases ev
        obtain rfl := ints_eq en
        obtain rfl := h2'.ints
        cases p2
        obtain ⟨j1, j2⟩ := index_at w2.1
        have fl : (ns.map V.int).all flatV = true := List.all_eq_true.mpr fun x hx => by
          obtain ⟨n, _, rfl⟩ := List.mem_map.mp hx
          rfl
        refine ⟨a, _, .int kk, ns.idxOf kk, .int kk, rfl, rfl, SqL.of h1', rfl, fl, by rw [List.getElem?_map, j1]; rfl, beq_self_eq_true kk, fun m z hm hz => ?_, k _ _ Hs2 H2 w2.2 (g1.trans g2) r2 (.int _)⟩
        obtain ⟨n, hn, rfl⟩ := Option.map_eq_some_iff.mp (show (ns[m]?).map V.int = some z by rw [← hz, List.getElem?_map])
        have := j2 m hm
        rw [hn] at this
        show (n == kk) = false
        simpa using fun z => this (congrArg some z)
      · exact w2.elim
    · exact w2.elim
  · rename_i ys
    obtain ⟨a, us, rfl, h1, hn, h2⟩ := p1.nd r1.sh
    refine .inr ⟨⟨a, us, rfl, h1, hn⟩, h'.run Hs1 ρ σ H1 _ qe _ l r1 w1 fun e u Hs2 H2 w2 g2 r2 p2 => ?_⟩
    unfold dIndex at w2
    split at w2
    · rename_i ys' kk eq
      cases eq
      split at w2
      · rename_i ns en
        obtain rfl := ints_eq en
        obtain rfl := h2.ints
        cases p2
        obtain ⟨a', us', ev, h1', _, h2'⟩ := (p1.mono g2.s g2.b).nd r2.sh
        cases ev
        obtain rfl := h2'.ints
        exact ⟨a, ns, kk, rfl, rfl, h1', w2.1, k _ _ Hs2 H2 w2.2 (g1.trans g2) r2 (.int _)⟩
      · exact w2.elim
    · exact w2.elim
  · exact w1.elim
/-- x.count(y), flat -/
def cntQ (ys : List D) (y : D) (q : D → Prop) : Prop := (y.flat = true ∧ ys.all D.flat = true) ∧ q (.int ((ys.map D.v).countP fun z => eqV z y.v))
def eCountV (f g : ME) : ME := fun ρ q qe => f ρ (fun x => match x with
  | .lst ys => g ρ (fun y => cntQ ys y q) qe
  | .tup ys => g ρ (fun y => cntQ ys y q) qe
  | _ => False) qe
theorem eqv_flat {x y : D} (hx : x.flat = true) (hy : y.flat = true) : PyData.eqv x.py y.py = eqV x.v y.v := by
  cases x <;> first | (simp [D.flat] at hx; done) | skip
  all_goals cases y <;> first | (simp [D.flat] at hy; done) | rfl
theorem count_flat {y : D} (hy : y.flat = true) : ∀ {ys : List D}, ys.all D.flat = true → (D.pys ys).countP (fun z => PyData.eqv z y.py) = (ys.map D.v).countP fun z => eqV z y.v
  | [], _ => rfl
  | x :: ys, h => by
    rw [List.all_cons, Bool.and_eq_true] at h
    rw [D.pys, List.map_cons, List.countP_cons, List.countP_cons, count_flat hy h.2, eqv_flat h.1 hy]
theorem flat_plain {y : D} (hy : y.flat = true) : y.py.plain = true ∧ y.dat = true ∧ y.py.depth = 0 := by
  cases y <;> first | (simp [D.flat] at hy; done) | exact ⟨rfl, rfl, rfl⟩
theorem flats_plain : ∀ {ys : List D}, ys.all D.flat = true → PyData.plainAll (D.pys ys) = true ∧ D.dats ys = true
  | [], _ => ⟨rfl, rfl⟩
  | x :: ys, h => by
    rw [List.all_cons, Bool.and_eq_true] at h
    obtain ⟨a, b, _⟩ := flat_plain h.1
    obtain ⟨c, d⟩ := flats_plain h.2
    exact ⟨by rw [D.pys, PyData.plainAll, a, c]; rfl, by rw [D.dats, b, d]; rfl⟩
theorem dt_countV {C : Ctx} {tx ty : TE} {f g : ME} (h : DB C tx f) (h' : DT C ty g) : DT C (tLT C.K (rCount C.K) (rCntD C.K) tx (tCons ty tNil)) (eCountV f g) := by
  refine ⟨fun Hs ρ σ H q qe Q l r w k => ?_⟩
  refine h.run Hs ρ σ H _ qe _ l r w fun d v Hs1 H1 w1 g1 r1 p1 => ?_
  split at w1
  · rename_i ys
    obtain ⟨a, us, rfl, h1, h2⟩ := p1.lst r1.sh
    refine .inl ⟨⟨a, us, rfl, SqL.of h1⟩, h'.run Hs1 ρ σ H1 _ qe _ l r1 w1 fun e u Hs2 H2 w2 g2 r2 p2 => ?_⟩
    obtain ⟨⟨f1, f2⟩, w3⟩ := w2
    obtain ⟨a', us', ev, h1', h2'⟩ := (p1.mono g2.s g2.b).lst r2.sh
    cases ev
    obtain rfl := flat_vs h2' f2
    obtain rfl := rep_flat p2 f1
    exact ⟨a, _, _, rfl, rfl, SqL.of h1', flat_V f1, flat_Vs f2, k _ _ Hs2 H2 w3 (g1.trans g2) r2 (.int _)⟩
  · rename_i ys
    obtain ⟨a, us, rfl, h1, hn, h2⟩ := p1.nd r1.sh
    refine .inr ⟨⟨a, us, rfl, h1, hn⟩, h'.run Hs1 ρ σ H1 _ qe _ l r1 w1 fun e u Hs2 H2 w2 g2 r2 p2 => ?_⟩
    obtain ⟨⟨f1, f2⟩, w3⟩ := w2
    obtain ⟨a', us', ev, h1', _, h2'⟩ := (p1.mono g2.s g2.b).nd r2.sh
    cases ev
    obtain ⟨c1, c2⟩ := flats_plain f2
    obtain ⟨b1, b2, b3⟩ := flat_plain f1
    refine ⟨a, us', u, e.py, D.pys ys, rfl, rfl, h1', dpl_of (RepL.mono r2.sh h2') c2, dp_of (p2.mono r2.sh) b2, c1, b1, by omega, ?_⟩
    rw [count_flat f1 f2]
    exact k _ _ Hs2 H2 w3 (g1.trans g2) r2 (.int _)
  · exact w1.elim
end Fd
/-! data in order: < and its like, min, max, sorted -/
namespace L2
open PySem PySem.Spec PyProof.Rows PySem.W
section
variable {X : Cx} {β : Type}
def rCmpD (K : PySem.W.Frag) (f : PyData → PyData → Bool) : R2 := fun x y H Q => ∃ d e, Dp K H x d ∧ Dp K H y e ∧ alike d e = true ∧ d ≠ .none ∧ d.depth ≤ 62 ∧ Q (.bl (f d e)) H
theorem op_ltD (hu : X.A.units + 65 < cLine) : OpR X (compareOp .Lt) (rCmpD X.K fun d e => dataLt d e) := by
  intro pins s σ H x y v u Q I rx ry h
  obtain ⟨d, e, hd, he, ha, hn, hl, q⟩ := h
  obtain ⟨as, r1⟩ := Dp.reads I d x v hd rx
  obtain ⟨bs, r2⟩ := Dp.reads I e y u he ry
  exact lt_data r1 r2 ha hn (by omega) ⟨.bl _, H, I, rfl, q⟩
theorem op_gtD (hu : X.A.units + 65 < cLine) : OpR X (compareOp .Gt) (rCmpD X.K fun d e => dataLt e d) := by
  intro pins s σ H x y v u Q I rx ry h
  obtain ⟨d, e, hd, he, ha, hn, hl, q⟩ := h
  obtain ⟨as, r1⟩ := Dp.reads I d x v hd rx
  obtain ⟨bs, r2⟩ := Dp.reads I e y u he ry
  exact gt_data r1 r2 ha hn (by omega) ⟨.bl _, H, I, rfl, q⟩
theorem op_leD (hu : X.A.units + 65 < cLine) : OpR X (compareOp .LtE) (rCmpD X.K fun d e => !dataLt e d) := by
  intro pins s σ H x y v u Q I rx ry h
  obtain ⟨d, e, hd, he, ha, hn, hl, q⟩ := h
  obtain ⟨as, r1⟩ := Dp.reads I d x v hd rx
  obtain ⟨bs, r2⟩ := Dp.reads I e y u he ry
  exact le_data r1 r2 ha hn (by omega) ⟨.bl _, H, I, rfl, q⟩
theorem op_geD (hu : X.A.units + 65 < cLine) : OpR X (compareOp .GtE) (rCmpD X.K fun d e => !dataLt d e) := by
  intro pins s σ H x y v u Q I rx ry h
  obtain ⟨d, e, hd, he, ha, hn, hl, q⟩ := h
  obtain ⟨as, r1⟩ := Dp.reads I d x v hd rx
  obtain ⟨bs, r2⟩ := Dp.reads I e y u he ry
  exact ge_data r1 r2 ha hn (by omega) ⟨.bl _, H, I, rfl, q⟩
/-- the items of a list, a tuple: told by bs -/
def Told (K : PySem.W.Frag) (H : Hp) (enc : β → PyData) (val : β → V) (bs : List β) : Prop := (∀ b ∈ bs, Dp K H (val b) (enc b)) ∧ AllAlike (bs.map enc) ∧ PyData.canLayAll0 (bs.map enc) = true ∧ PyData.depthAll (bs.map enc) ≤ 62
theorem told_all {K : PySem.W.Frag} {H : Hp} {enc : β → PyData} {val : β → V} : ∀ {bs : List β}, (∀ b ∈ bs, Dp K H (val b) (enc b)) → DpAll K H (bs.map val) (bs.map enc)
  | [], _ => .nil
  | b :: bs, h => .cons (h b (List.mem_cons_self ..)) (told_all fun c hc => h c (List.mem_cons_of_mem _ hc))
theorem each_val {val : β → V} : ∀ {bs : List β} {its : List Value}, Vals (bs.map val) its → EachIs (fun v b => RelV (val b) v) its bs
  | [], [], _ => .nil
  | [], _ :: _, h => by cases h
  | _ :: _, [], h => by cases h
  | b :: bs, v :: its, h => by
    cases h with
    | cons r rs => exact .cons r (each_val rs)
theorem val_each {val : β → V} : ∀ {bs : List β} {its : List Value}, EachIs (fun v b => RelV (val b) v) its bs → Vals (bs.map val) its
  | _, _, .nil => .nil
  | _, _, .cons r rs => .cons r (val_each rs)
theorem each_reads {h : Heap} {enc : β → PyData} : ∀ {bs : List β} {its : List Value} {as : List Addr}, ReadsAll h its (bs.map enc) as → EachIs (fun v b => ∃ as, Reads h v (enc b) as) its bs
  | [], [], _, _ => .nil
  | [], _ :: _, _, h => by cases h
  | _ :: _, [], _, h => by cases h
  | b :: bs, v :: its, _, h => by
    cases h with
    | cons r rs => exact .cons ⟨_, r⟩ (each_reads rs)
theorem vals_at {val : β → V} : ∀ {bs : List β} {its : List Value} {i : Nat} {v : Value}, Vals (bs.map val) its → its[i]? = some v → ∃ b, bs[i]? = some b ∧ RelV (val b) v
  | [], [], i, v, _, e => by simp at e
  | [], _ :: _, _, _, h, _ => by cases h
  | _ :: _, [], _, _, h, _ => by cases h
  | b :: bs, u :: its, 0, v, h, e => by
    cases h with
    | cons r rs =>
      have e2 := Option.some.inj e
      subst e2
      exact ⟨b, rfl, r⟩
  | b :: bs, u :: its, i + 1, v, h, e => by
    cases h with
    | cons r rs =>
      obtain ⟨c, h1, h2⟩ := vals_at (i := i) rs (by simpa using e)
      exact ⟨c, by simpa using h1, h2⟩
/-- the first of the least, of the greatest, by what mn says -/
def rExtr (K : PySem.W.Frag) (mn : PyData → List PyData → PyData) : List V → Hp → VK → Prop := fun xs H Q => ∃ (β : Type) (enc : β → PyData) (val : β → V) (a : Addr) (b : β) (bs : List β),
  xs = [V.ref a] ∧ (SqL K H a ((b :: bs).map val) ∨ SqT K H a ((b :: bs).map val)) ∧ Told K H enc val (b :: bs) ∧ (∀ c ∈ b :: bs, enc c ≠ .none) ∧ ∀ c ∈ b :: bs, enc c = mn (enc b) (bs.map enc) → Q (val c) H
theorem reads_same {h : Heap} {v : Value} {d e : PyData} {as bs : List Addr} (hd : d.canLay0 = true) (he : e.canLay0 = true) (r1 : Reads h v d as) (r2 : Reads h v e bs) : d = e := by
  have l1 := SeqAt.readsAll_map [d] [v] _ (by simp [PyData.canLayAll0, hd]) (ReadsAll.cons r1 ReadsAll.nil)
  have l2 := SeqAt.readsAll_map [e] [v] _ (by simp [PyData.canLayAll0, he]) (ReadsAll.cons r2 ReadsAll.nil)
  rw [l1] at l2
  exact List.cons.inj l2 |>.1
theorem lay_mem {d : PyData} : ∀ {ds : List PyData}, PyData.canLayAll0 ds = true → d ∈ ds → d.canLay0 = true
  | [], _, h => by cases h
  | e :: ds, hl, h => by
    have hl2 : e.canLay0 = true ∧ PyData.canLayAll0 ds = true := by simpa [PyData.canLayAll0] using hl
    rcases List.mem_cons.mp h with z | z
    · rw [z]; exact hl2.1
    · exact lay_mem hl2.2 z
theorem foldl_in {f : PyData → PyData → PyData} (hf : ∀ a b, f a b = a ∨ f a b = b) : ∀ (ds : List PyData) (d : PyData), ds.foldl f d ∈ d :: ds
  | [], d => List.mem_cons_self ..
  | e :: ds, d => by
    rw [List.foldl_cons]
    rcases List.mem_cons.mp (foldl_in hf ds (f d e)) with z | z
    · rw [z]
      rcases hf d e with y | y
      · rw [y]; exact List.mem_cons_self ..
      · rw [y]; exact List.mem_cons_of_mem _ (List.mem_cons_self ..)
    · exact List.mem_cons_of_mem _ (List.mem_cons_of_mem _ z)
theorem minD_in (d : PyData) (ds : List PyData) : minD d ds ∈ d :: ds := foldl_in (fun a b => by split <;> simp) ds d
theorem maxD_in (d : PyData) (ds : List PyData) : maxD d ds ∈ d :: ds := foldl_in (fun a b => by split <;> simp) ds d
theorem alike_all {ds : List PyData} (h : AllAlike ds) (n : ∀ d ∈ ds, d ≠ .none) : AlikeAll ds := ⟨fun x hx y hy => h x hx y hy, n⟩
theorem extr_fin {enc : β → PyData} {val : β → V} {b : β} {bs : List β} {pins : List (Addr × Obj)} {s : Shared} {σ : St} {H : Hp} {Q : VK} {its : List Value} {as : List Addr} {m : PyData} (I : Inv X pins σ H s) (rv : Vals ((b :: bs).map val) its) (h4 : ReadsAll s.heap its ((b :: bs).map enc) as)
    (hl : PyData.canLayAll0 ((b :: bs).map enc) = true) (hm : m ∈ (b :: bs).map enc) (q : ∀ c ∈ b :: bs, enc c = m → Q (val c) H)
    {i : Nat} {v : Value} {h' : Heap} {tk : Nat} {cs : List Addr} (hv : its.toArray[i]? = some v) (hr : Reads h' v m cs) (hk : ∀ b o, s.heap.get? b = some o → h'.get? b = some o) : EP X pins σ Q v { s with heap := h', toks := tk } := by
  have hv2 : its[i]? = some v := by simpa using hv
  obtain ⟨c, hc, rc⟩ := vals_at rv hv2
  have hmem := List.mem_of_getElem? hc
  have er := each_reads h4
  have : ∃ as, Reads s.heap v (enc c) as := by
    refine EachIs.zip er (v, c) ?_
    refine List.mem_of_getElem? (i := i) ?_
    rw [List.getElem?_zip_eq_some]
    exact ⟨hv2, hc⟩
  obtain ⟨as2, r2⟩ := this
  have e : enc c = m := reads_same (lay_mem hl (List.mem_map.mpr ⟨c, hmem, rfl⟩)) (lay_mem hl hm) (PyProof.Rows.Reads.keeps hk r2) hr
  exact ⟨val c, H, I.kept hk, rc, q c hmem e⟩
theorem cr_minA (hc : X.calm = true) (hu : X.A.units + 64 < cLine) : CallR X (.builtin "min") (rExtr X.K minD) := by
  intro pins s σ H vs us Q I r h
  obtain ⟨β, enc, val, a, b, bs, rfl, hs, ⟨t1, t2, t3, t4⟩, hn, q⟩ := h
  have hn' : ∀ d ∈ (b :: bs).map enc, d ≠ .none := fun d hd => by
    obtain ⟨c, hc, rfl⟩ := List.mem_map.mp hd
    exact hn c hc
  rw [Vals.ref1 r]
  rcases hs with hs | hs
  · obtain ⟨its, rv, hl, _⟩ := I.list hs
    obtain ⟨as, h4⟩ := Dp.readsAll I _ _ its (told_all t1) rv
    exact min_list_data (x := enc b) (xs := bs.map enc) (I.ok.hd hc) hl.isList h4 (alike_all t2 hn') (by show X.A.units + 1 + PyData.depthAll ((b :: bs).map enc) < cLine; omega) fun i v h' tk cs hv hr hk => extr_fin I rv h4 t3 (minD_in _ _) q hv hr hk
  · obtain ⟨its, rv, hl, _⟩ := I.tuple hs
    obtain ⟨as, h4⟩ := Dp.readsAll I _ _ its (told_all t1) rv
    exact min_tuple_data (x := enc b) (xs := bs.map enc) (I.ok.hd hc) (isTuple_of hl) h4 (alike_all t2 hn') (by show X.A.units + 1 + PyData.depthAll ((b :: bs).map enc) < cLine; omega) fun i v h' tk cs hv hr hk => extr_fin I rv h4 t3 (minD_in _ _) q hv hr hk
theorem cr_maxA (hc : X.calm = true) (hu : X.A.units + 64 < cLine) : CallR X (.builtin "max") (rExtr X.K maxD) := by
  intro pins s σ H vs us Q I r h
  obtain ⟨β, enc, val, a, b, bs, rfl, hs, ⟨t1, t2, t3, t4⟩, hn, q⟩ := h
  have hn' : ∀ d ∈ (b :: bs).map enc, d ≠ .none := fun d hd => by
    obtain ⟨c, hc, rfl⟩ := List.mem_map.mp hd
    exact hn c hc
  rw [Vals.ref1 r]
  rcases hs with hs | hs
  · obtain ⟨its, rv, hl, _⟩ := I.list hs
    obtain ⟨as, h4⟩ := Dp.readsAll I _ _ its (told_all t1) rv
    exact max_list_data (x := enc b) (xs := bs.map enc) (I.ok.hd hc) hl.isList h4 (alike_all t2 hn') (by show X.A.units + 1 + PyData.depthAll ((b :: bs).map enc) < cLine; omega) fun i v h' tk cs hv hr hk => extr_fin I rv h4 t3 (maxD_in _ _) q hv hr hk
  · obtain ⟨its, rv, hl, _⟩ := I.tuple hs
    obtain ⟨as, h4⟩ := Dp.readsAll I _ _ its (told_all t1) rv
    exact max_tuple_data (x := enc b) (xs := bs.map enc) (I.ok.hd hc) (isTuple_of hl) h4 (alike_all t2 hn') (by show X.A.units + 1 + PyData.depthAll ((b :: bs).map enc) < cLine; omega) fun i v h' tk cs hv hr hk => extr_fin I rv h4 t3 (maxD_in _ _) q hv hr hk
/-- sorted(xs), xs data in a list -/
def rSortedD (K : PySem.W.Frag) : List V → Hp → VK → Prop := fun xs H Q => ∃ (β : Type) (enc : β → PyData) (val : β → V) (a : Addr) (bs : List β),
  xs = [V.ref a] ∧ SqL K H a (bs.map val) ∧ Told K H enc val bs ∧ Sortable (bs.map enc) ∧ ∀ p, H p = none → Q (.ref p) (upd H p (.lst ((bs.mergeSort (dataLe false enc)).map val)))
theorem depth_mem {d : PyData} : ∀ {ds : List PyData}, d ∈ ds → d.depth ≤ PyData.depthAll ds
  | [], h => by cases h
  | e :: ds, h => by
    show d.depth ≤ max e.depth (PyData.depthAll ds)
    rcases List.mem_cons.mp h with z | z
    · rw [z]; exact Nat.le_max_left ..
    · exact Nat.le_trans (depth_mem z) (Nat.le_max_right ..)
theorem cr_sortedD (hu : X.A.units + 65 < cLine) : CallR X (.builtin "sorted") (rSortedD X.K) := by
  intro pins s σ H vs us Q I r h
  obtain ⟨β, enc, val, a, bs, rfl, hs, ⟨t1, t2, t3, t4⟩, hk, q⟩ := h
  obtain ⟨its, rv, hl, hz⟩ := I.list hs
  rw [Vals.ref1 r]
  obtain ⟨as, h4⟩ := Dp.readsAll I _ _ its (told_all t1) rv
  refine sorted_data hl.isList (each_val rv) (each_reads h4) t2 hk (by rw [List.length_map] at hz; exact hz) (fun b hb => ?_) fun out ho eo => ?_
  · have := depth_mem (List.mem_map.mpr ⟨b, hb, rfl⟩ : enc b ∈ bs.map enc)
    omega
  · obtain ⟨ep, he'⟩ := PyProof.Rows.sortedAll_at s.heap its out.toArray
    have rv2 := val_each eo
    have hlen : ((bs.mergeSort (dataLe false enc)).map val).length ≤ sizeLine := by
      rw [List.length_map, List.length_mergeSort]
      rw [List.length_map] at hz
      exact hz
    exact ⟨.ref _, upd H (s.heap.objs.size + 1) (.lst ((bs.mergeSort (dataLe false enc)).map val)), I.laid (t' := s.toks) (fun _ _ => PyProof.Rows.sortedAll_old) (Nat.le_succ _) ⟨hlen, out, ep, rv2, he'⟩, rfl, q _ (I.hok.fresh (Nat.le_succ _))⟩
end
end L2
/-! data in order: the functional readings -/
namespace Fd
open PySem PySem.Spec PyProof.Rows L2
open PySem.W (minD maxD)
def D.lt (x y : D) : Bool := PySem.W.dataLt x.py y.py
theorem pys_map : ∀ ys : List D, D.pys ys = ys.map D.py
  | [] => rfl
  | y :: ys => by rw [D.pys, pys_map ys, List.map_cons]
mutual
theorem py_inj : ∀ (x y : D), x.dat = true → y.dat = true → x.py = y.py → x = y
  | .non, y, hx, hy, e => by cases y <;> first | rfl | (simp [D.py] at e; done) | (simp [D.dat] at hy; done)
  | .bl b, y, hx, hy, e => by cases y <;> first | (simp only [D.py, PyData.bool.injEq] at e; rw [e]; done) | (simp [D.py] at e; done) | (simp [D.dat] at hy; done)
  | .int b, y, hx, hy, e => by cases y <;> first | (simp only [D.py, PyData.int.injEq] at e; rw [e]; done) | (simp [D.py] at e; done) | (simp [D.dat] at hy; done)
  | .str b, y, hx, hy, e => by cases y <;> first | (simp only [D.py, PyData.str.injEq] at e; rw [e]; done) | (simp [D.py] at e; done) | (simp [D.dat] at hy; done)
  | .tup xs, y, hx, hy, e => by
    cases y with
    | tup ys =>
      simp only [D.py, PyData.tuple.injEq] at e
      rw [D.dat] at hx hy
      rw [pys_inj xs ys hx hy e]
    | _ => first | (simp [D.py] at e; done) | (simp [D.dat] at hy; done)
  | .lst xs, y, hx, hy, e => by
    cases y with
    | lst ys =>
      simp only [D.py, PyData.list.injEq] at e
      rw [D.dat] at hx hy
      rw [pys_inj xs ys hx hy e]
    | _ => first | (simp [D.py] at e; done) | (simp [D.dat] at hy; done)
  | .dct _, _, hx, _, _ => by simp [D.dat] at hx
  | .obj _ _, _, hx, _, _ => by simp [D.dat] at hx
  | .hand, _, hx, _, _ => by simp [D.dat] at hx
  | .scr _, _, hx, _, _ => by simp [D.dat] at hx
theorem pys_inj : ∀ (xs ys : List D), D.dats xs = true → D.dats ys = true → D.pys xs = D.pys ys → xs = ys
  | [], [], _, _, _ => rfl
  | [], _ :: _, _, _, e => by simp [D.pys] at e
  | _ :: _, [], _, _, e => by simp [D.pys] at e
  | x :: xs, y :: ys, hx, hy, e => by
    rw [D.dats, Bool.and_eq_true] at hx hy
    rw [D.pys, D.pys] at e
    obtain ⟨e1, e2⟩ := List.cons.inj e
    rw [py_inj x y hx.1 hy.1 e1, pys_inj xs ys hx.2 hy.2 e2]
end
/-- things that can be put in order -/
structure OrdOk (ys : List D) : Prop where
  dat : D.dats ys = true
  al : PySem.W.AllAlike (D.pys ys)
  lay : PyData.canLayAll0 (D.pys ys) = true
  dep : PyData.depthAll (D.pys ys) ≤ 62
theorem dats_mem {d : D} {ys : List D} (h : D.dats ys = true) (m : d ∈ ys) : d.dat = true := by
  rw [dats_all] at h
  exact List.all_eq_true.mp h d m
/-! ### < and its like -/
def dCmpV (g : Int → Int → Bool) (f : D → D → Bool) : O2 := fun x y q => match x, y with
  | .int i, .int j => q (.bl (g i j))
  | x, y => (x.dat = true ∧ y.dat = true ∧ PySem.W.alike x.py y.py = true ∧ x.py ≠ .none ∧ x.py.depth ≤ 62) ∧ q (.bl (f x y))
def dLtV : O2 := dCmpV (fun i j => decide (i < j)) fun x y => D.lt x y
def dGtV : O2 := dCmpV (fun i j => decide (j < i)) fun x y => D.lt y x
def dLeV : O2 := dCmpV (fun i j => decide (i ≤ j)) fun x y => !D.lt y x
def dGeV : O2 := dCmpV (fun i j => decide (j ≤ i)) fun x y => !D.lt x y
theorem dLtV_int (i j : Int) (q : D → Prop) : dLtV (.int i) (.int j) q = q (.bl (decide (i < j))) := rfl
theorem dGtV_int (i j : Int) (q : D → Prop) : dGtV (.int i) (.int j) q = q (.bl (decide (j < i))) := rfl
theorem dLeV_int (i j : Int) (q : D → Prop) : dLeV (.int i) (.int j) q = q (.bl (decide (i ≤ j))) := rfl
theorem dGeV_int (i j : Int) (q : D → Prop) : dGeV (.int i) (.int j) q = q (.bl (decide (j ≤ i))) := rfl
def rCmpV (K : PySem.W.Frag) (g : Int → Int → Bool) (f : PyData → PyData → Bool) : R2 := fun x y H Q => rI0 (fun i j => .bl (g i j)) x y H Q ∨ rCmpD K f x y H Q
theorem d2_cmpV {C : Ctx} {g : Int → Int → Bool} {f : PyData → PyData → Bool} : D2 C (rCmpV C.K g f) (dCmpV g fun x y => f x.py y.py) := by
  refine ⟨fun Hs ρ σ H x y vx vy q Q r px py w k => ?_⟩
  unfold dCmpV at w
  split at w
  · cases px with
    | sh px => cases px; cases py with
      | sh py => cases py; exact .inl ⟨_, _, rfl, rfl, k _ _ Hs H w Gr.refl r (.bl _)⟩
  · obtain ⟨⟨w1, w2, w3, w4, w5⟩, w6⟩ := w
    exact .inr ⟨_, _, repB_dp r.sh px w1, repB_dp r.sh py w2, w3, w4, w5, k _ _ Hs H w6 Gr.refl r (.bl _)⟩
theorem op_ltV {X : Cx} (hu : X.A.units + 65 < cLine) : OpR X (compareOp .Lt) (rCmpV X.K (fun i j => decide (i < j)) fun d e => PySem.W.dataLt d e) := OpR.or op_lt (op_ltD hu)
theorem op_gtV {X : Cx} (hu : X.A.units + 65 < cLine) : OpR X (compareOp .Gt) (rCmpV X.K (fun i j => decide (j < i)) fun d e => PySem.W.dataLt e d) := OpR.or op_gt (op_gtD hu)
theorem op_leV {X : Cx} (hu : X.A.units + 65 < cLine) : OpR X (compareOp .LtE) (rCmpV X.K (fun i j => decide (i ≤ j)) fun d e => !PySem.W.dataLt e d) := OpR.or op_le (op_leD hu)
theorem op_geV {X : Cx} (hu : X.A.units + 65 < cLine) : OpR X (compareOp .GtE) (rCmpV X.K (fun i j => decide (j ≤ i)) fun d e => !PySem.W.dataLt d e) := OpR.or op_ge (op_geD hu)
theorem d2_ltV {C : Ctx} : D2 C (rCmpV C.K (fun i j => decide (i < j)) fun d e => PySem.W.dataLt d e) dLtV := d2_cmpV
theorem d2_gtV {C : Ctx} : D2 C (rCmpV C.K (fun i j => decide (j < i)) fun d e => PySem.W.dataLt e d) dGtV := d2_cmpV
theorem d2_leV {C : Ctx} : D2 C (rCmpV C.K (fun i j => decide (i ≤ j)) fun d e => !PySem.W.dataLt e d) dLeV := d2_cmpV
theorem d2_geV {C : Ctx} : D2 C (rCmpV C.K (fun i j => decide (j ≤ i)) fun d e => !PySem.W.dataLt d e) dGeV := d2_cmpV
/-! ### min, max -/
def minA (y : D) (ys : List D) : D := ys.foldl (fun a z => if D.lt z a = true then z else a) y
def maxA (y : D) (ys : List D) : D := ys.foldl (fun a z => if D.lt a z = true then z else a) y
theorem minA_py (ys : List D) : ∀ y : D, (minA y ys).py = minD y.py (ys.map D.py) := by
  unfold minA minD
  induction ys with
  | nil => intro y; rfl
  | cons z ys ih =>
    intro y
    rw [List.foldl_cons, List.map_cons, List.foldl_cons, ih]
    congr 1
    unfold D.lt
    split <;> rfl
theorem maxA_py (ys : List D) : ∀ y : D, (maxA y ys).py = maxD y.py (ys.map D.py) := by
  unfold maxA maxD
  induction ys with
  | nil => intro y; rfl
  | cons z ys ih =>
    intro y
    rw [List.foldl_cons, List.map_cons, List.foldl_cons, ih]
    congr 1
    unfold D.lt
    split <;> rfl
theorem foldl_inD {f : D → D → D} (hf : ∀ a b, f a b = a ∨ f a b = b) : ∀ (ds : List D) (d : D), ds.foldl f d ∈ d :: ds
  | [], d => List.mem_cons_self ..
  | e :: ds, d => by
    rw [List.foldl_cons]
    rcases List.mem_cons.mp (foldl_inD hf ds (f d e)) with z | z
    · rw [z]
      rcases hf d e with y | y
      · rw [y]; exact List.mem_cons_self ..
      · rw [y]; exact List.mem_cons_of_mem _ (List.mem_cons_self ..)
    · exact List.mem_cons_of_mem _ (List.mem_cons_of_mem _ z)
theorem minA_in (y : D) (ys : List D) : minA y ys ∈ y :: ys := foldl_inD (fun a b => by split <;> simp) ys y
theorem maxA_in (y : D) (ys : List D) : maxA y ys ∈ y :: ys := foldl_inD (fun a b => by split <;> simp) ys y
def dExt (mi : List Int → Int) (ma : D → List D → D) (d0 : O1) : O1 := fun xs q =>
  let f := fun ys => match D.ints ys with
    | some ns => ns ≠ [] ∧ q (.int (mi ns))
    | none => (match ys with
      | [] => False
      | y :: ys => (OrdOk (y :: ys) ∧ ∀ z ∈ y :: ys, z.py ≠ .none) ∧ q (ma y ys))
  match xs with
  | [.lst ys] => f ys
  | [.tup ys] => f ys
  | xs => d0 xs q
def dMinV : O1 := dExt minI minA dMin
def dMaxV : O1 := dExt maxI maxA dMax
theorem ordC (ma : D → List D → D) (y : D) (ys : List D) (q : D → Prop) (o : OrdOk (y :: ys)) (n : ∀ z ∈ y :: ys, z.py ≠ .none) (h : q (ma y ys)) : (OrdOk (y :: ys) ∧ ∀ z ∈ y :: ys, z.py ≠ .none) ∧ q (ma y ys) := ⟨⟨o, n⟩, h⟩
theorem zip_fst {α β : Type} : ∀ {xs : List α} {ys : List β}, xs.length = ys.length → (xs.zip ys).map (·.1) = xs
  | [], [], _ => rfl
  | x :: xs, y :: ys, h => by rw [List.zip_cons_cons, List.map_cons, zip_fst (by simpa using h)]
theorem zip_snd {α β : Type} : ∀ {xs : List α} {ys : List β}, xs.length = ys.length → (xs.zip ys).map (·.2) = ys
  | [], [], _ => rfl
  | x :: xs, y :: ys, h => by rw [List.zip_cons_cons, List.map_cons, zip_snd (by simpa using h)]
theorem repL_zip {K : PySem.W.Frag} {a : Hd} {H : Hp} : ∀ {ds : List D} {vs : List V}, RepL K a H ds vs → ∀ b ∈ vs.zip ds, Rep K a H b.2 b.1
  | _, _, .nil, b, h => by cases h
  | _, _, .cons p ps, b, h => by
    rcases List.mem_cons.mp h with z | z
    · rw [z]; exact p
    · exact repL_zip ps b z
theorem zip_repL {K : PySem.W.Frag} {a : Hd} {H : Hp} : ∀ {bs : List (V × D)}, (∀ b ∈ bs, Rep K a H b.2 b.1) → RepL K a H (bs.map (·.2)) (bs.map (·.1))
  | [], _ => .nil
  | b :: bs, h => .cons (h b (List.mem_cons_self ..)) (zip_repL fun c hc => h c (List.mem_cons_of_mem _ hc))
theorem told_of {K : PySem.W.Frag} {a : Hd} {Hs H : Hp} {ds : List D} {vs : List V} (s : Same Hs H) (r : RepL K a Hs ds vs) (o : OrdOk ds) : Told K H (fun b : V × D => b.2.py) (fun b => b.1) (vs.zip ds) ∧ (vs.zip ds).map (fun b => b.1) = vs ∧ (vs.zip ds).map (fun b => b.2.py) = D.pys ds := by
  have e1 : (vs.zip ds).map (fun b => b.2.py) = D.pys ds := by
    rw [pys_map, ← zip_snd r.length.symm, List.map_map]
    rw [zip_snd r.length.symm]
    rfl
  refine ⟨⟨fun b hb => dp_of ((repL_zip r b hb).mono s) (dats_mem o.dat (List.of_mem_zip hb).2), ?_, ?_, ?_⟩, zip_fst r.length.symm, e1⟩
  · rw [e1]; exact o.al
  · rw [e1]; exact o.lay
  · rw [e1]; exact o.dep
theorem ext_run {C : Ctx} {Hs H : Hp} {ρ : List En} {σ : L2.St} {q : D → Prop} {Q : VK} {mn : PyData → List PyData → PyData} {ma : D → List D → D} (hm : ∀ y ys, (ma y ys).py = mn y.py (ys.map D.py)) (hi : ∀ y ys, ma y ys ∈ y :: ys)
    {y : D} {ys : List D} {p : Addr} {vs : List V} (r : RS C Hs ρ σ H) (hs : SqL C.K H p vs ∨ SqT C.K H p vs) (rl : RepL C.K C.a Hs (y :: ys) vs) (o : OrdOk (y :: ys)) (n : ∀ z ∈ y :: ys, z.py ≠ .none) (w : q (ma y ys))
    (k : ∀ d v Hs' H', q d → Gr C.a Hs H Hs' H' → RS C Hs' ρ σ H' → Rep C.K C.a Hs' d v → Q v H') : rExtr C.K mn [.ref p] H Q := by
  cases rl with
  | cons h hr =>
    rename_i v vs
    obtain ⟨t, e1, e2⟩ := told_of r.sh (.cons h hr) o
    refine ⟨V × D, fun b => b.2.py, fun b => b.1, p, (v, y), vs.zip ys, rfl, ?_, t, fun c hc => n c.2 (List.of_mem_zip (show (c.1, c.2) ∈ (v :: vs).zip (y :: ys) from hc)).2, fun c hc e => ?_⟩
    · rw [show ((v, y) :: vs.zip ys) = (v :: vs).zip (y :: ys) from rfl, e1]
      exact hs
    · have hc' : c ∈ (v :: vs).zip (y :: ys) := hc
      have h1 := repL_zip (.cons h hr) c hc'
      have h2 := (List.of_mem_zip (show (c.1, c.2) ∈ (v :: vs).zip (y :: ys) from hc)).2
      have e3 : c.2 = ma y ys := by
        refine py_inj _ _ (dats_mem o.dat h2) (dats_mem o.dat (hi y ys)) ?_
        refine Eq.trans e ?_
        rw [hm]
        congr 1
        rw [show (fun b : V × D => b.2.py) = D.py ∘ (fun b : V × D => b.2) from rfl, ← List.map_map, zip_snd hr.length.symm]
      rw [e3] at h1
      exact k _ _ Hs H w Gr.refl r h1
def rMinV (K : PySem.W.Frag) : List V → Hp → VK → Prop := fun xs H Q => rMinW K xs H Q ∨ rExtr K minD xs H Q
def rMaxV (K : PySem.W.Frag) : List V → Hp → VK → Prop := fun xs H Q => rMaxW K xs H Q ∨ rExtr K maxD xs H Q
theorem cr_minV {X : Cx} (hc : X.calm = true) (hu : X.A.units + 64 < cLine) : CallR X (.builtin "min") (rMinV X.K) := CallR.or (cr_minW hc hu) (cr_minA hc hu)
theorem cr_maxV {X : Cx} (hc : X.calm = true) (hu : X.A.units + 64 < cLine) : CallR X (.builtin "max") (rMaxV X.K) := CallR.or (cr_maxW hc hu) (cr_maxA hc hu)
theorem dc_minV {C : Ctx} : DC1 C (rMinV C.K) dMinV := by
  refine ⟨fun Hs ρ σ H xs vs q Q r p w k => ?_⟩
  unfold dMinV dExt at w
  simp only at w
  split at w
  · rename_i ys
    split at w
    · rename_i ns e
      exact .inl (dc_minW.run Hs ρ σ H [.lst ys] vs q Q r p (by unfold dMinW dMin; simp only [e]; exact w) k)
    · split at w
      · exact w.elim
      · obtain ⟨v, rfl, h⟩ := repBL1 p
        obtain ⟨a, us, rfl, h1, h2⟩ := h.lst r.sh
        exact .inr (ext_run (fun y ys => minA_py ys y) minA_in r (.inl (SqL.of h1)) h2 w.1.1 w.1.2 w.2 k)
  · rename_i ys
    split at w
    · rename_i ns e
      exact .inl (dc_minW.run Hs ρ σ H [.tup ys] vs q Q r p (by unfold dMinW; simp only [e]; exact w) k)
    · split at w
      · exact w.elim
      · obtain ⟨v, rfl, h⟩ := repBL1 p
        obtain ⟨a, us, rfl, h1, h2⟩ := h.tup r.sh
        exact .inr (ext_run (fun y ys => minA_py ys y) minA_in r (.inr h1) h2 w.1.1 w.1.2 w.2 k)
  · rename_i n1 n2
    refine .inl (dc_minW.run Hs ρ σ H xs vs q Q r p ?_ k)
    unfold dMinW
    split
    · exact absurd rfl (n2 _)
    · exact w
theorem dc_maxV {C : Ctx} : DC1 C (rMaxV C.K) dMaxV := by
  refine ⟨fun Hs ρ σ H xs vs q Q r p w k => ?_⟩
  unfold dMaxV dExt at w
  simp only at w
  split at w
  · rename_i ys
    split at w
    · rename_i ns e
      exact .inl (dc_maxW.run Hs ρ σ H [.lst ys] vs q Q r p (by unfold dMaxW dMax; simp only [e]; exact w) k)
    · split at w
      · exact w.elim
      · obtain ⟨v, rfl, h⟩ := repBL1 p
        obtain ⟨a, us, rfl, h1, h2⟩ := h.lst r.sh
        exact .inr (ext_run (fun y ys => maxA_py ys y) maxA_in r (.inl (SqL.of h1)) h2 w.1.1 w.1.2 w.2 k)
  · rename_i ys
    split at w
    · rename_i ns e
      exact .inl (dc_maxW.run Hs ρ σ H [.tup ys] vs q Q r p (by unfold dMaxW; simp only [e]; exact w) k)
    · split at w
      · exact w.elim
      · obtain ⟨v, rfl, h⟩ := repBL1 p
        obtain ⟨a, us, rfl, h1, h2⟩ := h.tup r.sh
        exact .inr (ext_run (fun y ys => maxA_py ys y) maxA_in r (.inr h1) h2 w.1.1 w.1.2 w.2 k)
  · rename_i n1 n2
    refine .inl (dc_maxW.run Hs ρ σ H xs vs q Q r p ?_ k)
    unfold dMaxW
    split
    · exact absurd rfl (n2 _)
    · exact w
/-! ### sorted -/
def srtB (a b : D) : Bool := !D.lt b a
def dSortedV : OF := fun xs q => match xs with
  | [.lst ys] => (match D.ints ys with
    | some ns => ∀ ns' : List Int, ns'.Perm ns → ns'.Pairwise (· ≤ ·) → q (ns'.map D.int)
    | none => (OrdOk ys ∧ PySem.W.Sortable (D.pys ys)) ∧ q (ys.mergeSort srtB))
  | _ => False
def rSortedV (K : PySem.W.Frag) : List V → Hp → VK → Prop := fun xs H Q => rSortedI K xs H Q ∨ rSortedD K xs H Q
theorem cr_sortedV {X : Cx} (hu : X.A.units + 65 < cLine) : CallR X (.builtin "sorted") (rSortedV X.K) := CallR.or cr_sortedI (cr_sortedD hu)
theorem dcf_sortedV {C : Ctx} : DCF C (rSortedV C.K) dSortedV := by
  refine ⟨fun Hs ρ σ H xs vs q Q r p w k => ?_⟩
  unfold dSortedV at w
  split at w
  · rename_i ys
    split at w
    · rename_i ns e
      exact .inl (dcf_sorted.run Hs ρ σ H [.lst ys] vs q Q r p (by unfold dSorted; simp only [e]; exact w) k)
    · obtain ⟨v, rfl, h⟩ := repBL1 p
      obtain ⟨a, us, rfl, h1, h2⟩ := h.lst r.sh
      obtain ⟨⟨o, so⟩, w⟩ := w
      obtain ⟨t, e1, e2⟩ := told_of r.sh h2 o
      refine .inr ⟨V × D, fun b => b.2.py, fun b => b.1, a, us.zip ys, rfl, by rw [e1]; exact SqL.of h1, t, by rw [e2]; exact so, fun b hb => ?_⟩
      have hm : ((us.zip ys).mergeSort (PySem.W.dataLe false fun b => b.2.py)).map (fun b => b.2) = ys.mergeSort srtB := by
        rw [List.map_mergeSort (f := fun b : V × D => b.2) (r := PySem.W.dataLe false fun b : V × D => b.2.py) (s := srtB) (fun a _ b _ => rfl), zip_snd h2.length.symm]
      have hr : RepL C.K C.a Hs (ys.mergeSort srtB) (((us.zip ys).mergeSort (PySem.W.dataLe false fun b => b.2.py)).map fun b => b.1) := by
        rw [← hm]
        exact zip_repL fun b hb => repL_zip h2 b ((List.mergeSort_perm _ _).mem_iff.mp hb)
      exact k _ b _ Hs H w Gr.refl r hb hr
  · exact w.elim
end Fd
/-! ways of telling things as data, by which == is their own == -/
namespace Fd
open PySem L2
/-- what a field of d goes on with -/
def fldQ (cs : List Str) (f : Str) (q : D → Prop) (d : D) : Prop := match d with
  | .obj c fs => c ∈ cs ∧ (match fs.lookup f with
    | some d' => q d'
    | none => False)
  | _ => False
theorem eFld_eq (cs : List Str) (f : Str) (fe : ME) : eFld cs f fe = fun ρ q qe => fe ρ (fun d => fldQ cs f q d) qe := rfl
theorem tab_fold (p t : Nat) (R : List (List Int)) : D.obj (Str.ofString "Table") [(Str.ofString "persons", .int (p : Int)), (Str.ofString "things", .int (t : Int)), (Str.ofString "rows", .tup (R.map intT))] = tab p t R := rfl
theorem fldQ_p (p t : Nat) (R : List (List Int)) (q : D → Prop) : fldQ [Str.ofString "Table"] (Str.ofString "persons") q (tab p t R) = q (.int p) := by
  simp only [fldQ, tab, lk_p, inT, true_and]
theorem fldQ_t (p t : Nat) (R : List (List Int)) (q : D → Prop) : fldQ [Str.ofString "Table"] (Str.ofString "things") q (tab p t R) = q (.int t) := by
  simp only [fldQ, tab, lk_t, inT, true_and]
theorem fldQ_r (p t : Nat) (R : List (List Int)) (q : D → Prop) : fldQ [Str.ofString "Table"] (Str.ofString "rows") q (tab p t R) = q (.tup (R.map intT)) := by
  simp only [fldQ, tab, lk_r, inT, true_and]
theorem ite_b {c : Bool} {A B : Prop} (h1 : c = true → A) (h2 : c = false → B) : if c = true then A else B := by
  cases c with
  | true => rw [if_pos rfl]; exact h1 rfl
  | false => rw [if_neg Bool.false_ne_true]; exact h2 rfl
theorem smallL {n : Nat} (h : n ≤ 100000) : n < sizeLine := Nat.lt_of_le_of_lt h (by decide)
def isCQ (c : Str) (q : D → Prop) (d : D) : Prop := match d with
  | .obj c' _ => c' = c ∧ q (.bl true)
  | .hand => False
  | .scr _ => False
  | _ => q (.bl false)
theorem eIsC_eq (c : Str) (f : ME) : eIsC c f = fun ρ q qe => f ρ (fun d => isCQ c q d) qe := rfl
theorem isCQ_tab (p t : Nat) (R : List (List Int)) (q : D → Prop) : isCQ (Str.ofString "Table") q (tab p t R) = q (.bl true) := by
  simp only [isCQ, tab, true_and]
theorem seq_hide {f g : MS} {ρ : List En} {sq : SQ} {qe : QE} (h : ∀ G : List En → Prop, (∀ ρ', g ρ' sq qe → G ρ') → f ρ ⟨G, sq.rt, sq.bk, sq.ct⟩ qe) : sSeq f g ρ sq qe := h (fun ρ' => g ρ' sq qe) (fun _ h => h)
theorem dNeO_tab (m : M) (p t : Nat) (R : List (List Int)) (p' t' : Nat) (R' : List (List Int)) (q : D → Prop) : dNeO (Str.ofString "Table") m (tab p t R) (tab p' t' R') q = m [tab p t R, tab p' t' R'] (fun d => match d with
    | .bl b => q (.bl (!b))
    | _ => False) (fun _ => False) := by
  unfold dNeO
  unfold tab
  exact propext ⟨fun z => z.2, fun z => ⟨⟨rfl, rfl⟩, z⟩⟩
theorem deeps_c {n : Nat} {x : D} {xs : List D} (h : x.deep n = true) (h2 : D.deeps n xs = true) : D.deeps n (x :: xs) = true := by rw [D.deeps, h, h2]; rfl
theorem deeps_n {n : Nat} : D.deeps n [] = true := by cases n <;> rfl
theorem dNe_same {d : D} {q : D → Prop} (h : d.okq = true) (k : q (.bl false)) : dNe d d q := by rw [dNe_self h]; exact k
theorem dEq_same {d : D} {q : D → Prop} (h : d.okq = true) (k : q (.bl true)) : dEq d d q := by rw [dEq_self h]; exact k
theorem vrow_at {α : Type} {n i : Nat} (hi : i < n) (f : Nat → α) : ((List.range n).map f)[i]? = some (f i) := by rw [List.getElem?_map, List.getElem?_range hi]; rfl
theorem lt_foldl_min (k : Int) : ∀ (ns : List Int) (n : Int), ns.foldl min n < k ↔ ∃ x ∈ n :: ns, x < k
  | [], n => by simp
  | m :: ns, n => by
    rw [List.foldl_cons, lt_foldl_min k ns (min n m)]
    simp only [List.mem_cons, exists_eq_or_imp]
    constructor
    · rintro (h | h)
      · rcases Int.le_total n m with z | z
        · exact .inl (by omega)
        · exact .inr (.inl (by omega))
      · exact .inr (.inr h)
    · rintro (h | h | h)
      · exact .inl (by omega)
      · exact .inl (by omega)
      · exact .inr h
theorem lt_foldl_max (k : Int) : ∀ (ns : List Int) (n : Int), k < ns.foldl max n ↔ ∃ x ∈ n :: ns, k < x
  | [], n => by simp
  | m :: ns, n => by
    rw [List.foldl_cons, lt_foldl_max k ns (max n m)]
    simp only [List.mem_cons, exists_eq_or_imp]
    constructor
    · rintro (h | h)
      · rcases Int.le_total n m with z | z
        · exact .inr (.inl (by omega))
        · exact .inl (by omega)
      · exact .inr (.inr h)
    · rintro (h | h | h)
      · exact .inl (by omega)
      · exact .inl (by omega)
      · exact .inr h
theorem dNe_diff {d e : D} {q : D → Prop} (h1 : d.okq = true) (h2 : e.okq = true) (h : D.eqv d e = false) (k : q (.bl true)) : dNe d e q := ⟨⟨h1, h2⟩, by rw [h]; exact k⟩
theorem dEq_diff {d e : D} {q : D → Prop} (h1 : d.okq = true) (h2 : e.okq = true) (h : D.eqv d e = false) (k : q (.bl false)) : dEq d e q := ⟨⟨h1, h2⟩, by rw [h]; exact k⟩
theorem rgB_lit {i : Int} (h0 : -1000 ≤ i) (h : i ≤ 1000) : RgB i := by unfold RgB; omega
theorem rgOk_lit {a b : Int} (h0 : 0 ≤ a) (h : a ≤ 1000) (h1 : 0 ≤ b) (h2 : b ≤ 1000) : RgOk a b := RgOk.of_le (by omega) (by omega) (by omega) (by omega)
theorem while_hide {c : MT} {body : MS} {n : Nat} {ρ : List En} {sq : SQ} {qe : QE} (h : ∀ G : List En → Prop, (∀ ρ2, whN c body n ρ2 sq qe → G ρ2) → c ρ (fun b => if b = true then body ρ ⟨G, sq.rt, sq.nx, G⟩ qe else sq.nx ρ) qe) : whN c body (n + 1) ρ sq qe := h _ fun _ h => h
/-- a loop that returns at the first x of which f says yes -/
theorem for_find {α : Type} {mk : α → D} (I : List En → Prop) (f : α → Bool) (out : α → D) {g : MG} {body : MS} {qe : QE} {sq : SQ} : ∀ {xs : List α} {ρ : List En}, I ρ →
    (∀ (x : α) (ρ' : List En) (nx : List En → Prop), x ∈ xs → I ρ' → (f x = true → ∀ ρ1, sq.rt ρ1 (out x)) → (f x = false → ∀ ρ'', I ρ'' → nx ρ'') → g (mk x) ρ' fun ρ1 => body ρ1 ⟨nx, sq.rt, sq.nx, nx⟩ qe) →
    (∀ x, xs.find? f = some x → ∀ ρ1, sq.rt ρ1 (out x)) → (xs.find? f = none → ∀ ρ', I ρ' → sq.nx ρ') → forL g body (xs.map mk) ρ sq qe
  | [], ρ, h0, _, _, h2 => h2 rfl ρ h0
  | x :: xs, ρ, h0, hs, h1, h2 => by
    rw [List.map_cons, forL]
    refine hs x ρ _ (List.mem_cons_self ..) h0 (fun e => h1 x (by rw [List.find?_cons, e])) (fun e ρ'' h'' => ?_)
    exact for_find I f out h'' (fun y ρ' nx hy => hs y ρ' nx (List.mem_cons_of_mem _ hy)) (fun y hy => h1 y (by rw [List.find?_cons, e]; exact hy)) (fun hy => h2 (by rw [List.find?_cons, e]; exact hy))
theorem rgOk_0 {n : Nat} (h : n ≤ 1000) : RgOk 0 (n : Int) := RgOk.of_le (by omega) (by omega) (by omega) (by omega)
theorem cntQ_nat (x : Nat) (ys : List Nat) (q : D → Prop) : cntQ (ys.map natI) (natI x) q = q (.int (ys.count x : Nat)) := by
  have e : ∀ ys : List Nat, ((ys.map natI).map D.v).countP (fun z => eqV z (natI x).v) = ys.count x := by
    intro ys
    induction ys with
    | nil => rfl
    | cons y ys ih =>
      rw [List.map_cons, List.map_cons, List.countP_cons, List.count_cons, ih]
      congr 1
      show (if (((y : Nat) : Int) == (x : Int)) = true then 1 else 0) = _
      rw [cast_beq]
  unfold cntQ
  rw [e]
  exact propext ⟨fun z => z.2, fun z => ⟨⟨rfl, by rw [List.all_map]; exact List.all_eq_true.mpr fun _ _ => rfl⟩, z⟩⟩
theorem dIndex_nat (x : Nat) (ys : List Nat) (q : D → Prop) : dIndex (.lst (ys.map natI)) (natI x) q = (x ∈ ys ∧ q (.int (ys.idxOf x : Nat))) := by
  have e : ∀ ys : List Nat, (ys.map fun n : Nat => (n : Int)).idxOf (x : Int) = ys.idxOf x := by
    intro ys
    induction ys with
    | nil => rfl
    | cons y ys ih => rw [List.map_cons, List.idxOf_cons, List.idxOf_cons, ih, cast_beq]
  unfold dIndex
  simp only [ints_nat, mem_cast, e]
theorem dIndex_int (x : Int) (ys : List Int) (q : D → Prop) : dIndex (.lst (ys.map D.int)) (.int x) q = (x ∈ ys ∧ q (.int (ys.idxOf x : Nat))) := by
  unfold dIndex
  simp only [ints_map]
/-- f tells things as data, at most n deep -/
structure EK {α : Type} [BEq α] (f : α → D) (n : Nat) : Prop where
  deep : ∀ a, (f a).deep n = true
  eqv : ∀ a b, D.eqv (f a) (f b) = (a == b)
section
variable {α β : Type} [BEq α] [BEq β] {f : α → D} {g : β → D} {n m : Nat}
theorem EK.up (h : EK f n) (hm : n ≤ m) : EK f m := ⟨fun a => deep_up n m _ hm (h.deep a), h.eqv⟩
theorem EK.int : EK (fun i : Int => D.int i) 0 := ⟨fun a => rfl, fun a b => rfl⟩
theorem EK.nat : EK natI 0 := ⟨fun a => rfl, fun a b => by rw [eqv_int, cast_beq]⟩
theorem EK.bl : EK D.bl 0 := ⟨fun a => rfl, fun a b => rfl⟩
theorem eqv_tupC (x y : D) (xs ys : List D) : D.eqv (.tup (x :: xs)) (.tup (y :: ys)) = (D.eqv x y && D.eqv (.tup xs) (.tup ys)) := rfl
theorem eqv_lstC (x y : D) (xs ys : List D) : D.eqv (.lst (x :: xs)) (.lst (y :: ys)) = (D.eqv x y && D.eqv (.lst xs) (.lst ys)) := rfl
theorem eqv_tups (h : EK f n) : ∀ a b : List α, D.eqv (.tup (a.map f)) (.tup (b.map f)) = (a == b)
  | [], [] => rfl
  | [], _ :: _ => rfl
  | _ :: _, [] => rfl
  | x :: a, y :: b => by
    rw [List.map_cons, List.map_cons, eqv_tupC, eqv_tups h a b, h.eqv]
    rfl
theorem eqv_lsts (h : EK f n) : ∀ a b : List α, D.eqv (.lst (a.map f)) (.lst (b.map f)) = (a == b)
  | [], [] => rfl
  | [], _ :: _ => rfl
  | _ :: _, [] => rfl
  | x :: a, y :: b => by
    rw [List.map_cons, List.map_cons, eqv_lstC, eqv_lsts h a b, h.eqv]
    rfl
theorem EK.tup (h : EK f n) : EK (fun a : List α => D.tup (a.map f)) (n + 1) := ⟨fun a => deep_tup (deeps_map fun x _ => h.deep x), eqv_tups h⟩
theorem EK.lst (h : EK f n) : EK (fun a : List α => D.lst (a.map f)) (n + 1) := ⟨fun a => deep_lst (deeps_map fun x _ => h.deep x), eqv_lsts h⟩
theorem EK.pair (h : EK f n) (h' : EK g n) : EK (fun a : α × β => D.tup [f a.1, g a.2]) (n + 1) := ⟨fun a => deep_tup (by rw [D.deeps, D.deeps, D.deeps, h.deep, h'.deep]; rfl), fun a b => by
  rw [eqv_tupC, eqv_tupC, h.eqv, h'.eqv, show D.eqv (.tup []) (.tup []) = true from rfl, Bool.and_true]
  rfl⟩
theorem EK.opt (h : EK f n) (hn : ∀ a, D.eqv (f a) .non = false ∧ D.eqv .non (f a) = false) : EK (fun a : Option α => a.elim .non f) n := ⟨fun a => by cases a with | none => exact deep_non n | some a => exact h.deep a, fun a b => by
  cases a <;> cases b
  · rfl
  · exact (hn _).2
  · exact (hn _).1
  · exact h.eqv _ _⟩
theorem EK.ok (h : EK f n) (hn : n ≤ 64 := by decide) (a : α) : (f a).okq = true := okq_deep hn (h.deep a)
theorem EK.dEq (h : EK f n) (a b : α) (q : D → Prop) (hn : n ≤ 64 := by decide) : dEq (f a) (f b) q = q (.bl (a == b)) := by
  unfold Fd.dEq
  rw [h.eqv, h.ok hn, h.ok hn]
  exact propext ⟨fun z => z.2, fun z => ⟨⟨rfl, rfl⟩, z⟩⟩
theorem EK.dNe (h : EK f n) (a b : α) (q : D → Prop) (hn : n ≤ 64 := by decide) : dNe (f a) (f b) q = q (.bl (!(a == b))) := by
  unfold Fd.dNe
  rw [h.eqv, h.ok hn, h.ok hn]
  exact propext ⟨fun z => z.2, fun z => ⟨⟨rfl, rfl⟩, z⟩⟩
theorem any_contains (h : EK f n) (x : α) : ∀ ys : List α, ((ys.map f).any fun z => D.eqv z (f x)) = ys.any fun y => y == x
  | [] => rfl
  | y :: ys => by rw [List.map_cons, List.any_cons, any_contains h x ys, h.eqv]; rfl
/-- x in ys, of things that are no flat ones -/
theorem EK.dIn (h : EK f n) (hf : ∀ a, (f a).flat = false) (neg : Bool) (x : α) (ys : List α) (q : D → Prop) (hn : n + 1 ≤ 64 := by decide) : dInX neg (f x) (.lst (ys.map f)) q = q (.bl (if neg then !(ys.any fun y => y == x) else ys.any fun y => y == x)) := by
  unfold dInX flats
  simp only [hf, Bool.false_and, Bool.false_eq_true, ↓reduceIte, any_contains h, h.ok (by omega) x, h.lst.ok hn ys]
  exact propext ⟨fun z => z.2, fun z => ⟨⟨trivial, trivial⟩, z⟩⟩
theorem inV_ints (x : Int) : ∀ ys : List Int, inV (D.int x).v ((ys.map D.int).map D.v) = ys.any fun y => y == x
  | [] => rfl
  | y :: ys => by
    show ((y == x) || inV (D.int x).v ((ys.map D.int).map D.v)) = _
    rw [inV_ints x ys]
    rfl
theorem inV_natI (x : Nat) : ∀ ys : List Nat, inV (natI x).v ((ys.map natI).map D.v) = ys.any fun y => y == x
  | [] => rfl
  | y :: ys => by
    show ((((y : Nat) : Int) == (x : Int)) || inV (natI x).v ((ys.map natI).map D.v)) = _
    rw [inV_natI x ys, cast_beq]
    rfl
theorem inV_bls (x : Bool) : ∀ ys : List Bool, inV (D.bl x).v ((ys.map D.bl).map D.v) = ys.any fun y => y == x
  | [] => rfl
  | y :: ys => by
    show ((y == x) || inV (D.bl x).v ((ys.map D.bl).map D.v)) = _
    rw [inV_bls x ys]
    rfl
theorem flat_map {f : α → D} (h : ∀ a, (f a).flat = true) (ys : List α) : (ys.map f).all D.flat = true := by
  rw [List.all_map]
  exact List.all_eq_true.mpr fun x _ => h x
theorem dIn_flat {f : α → D} (h : ∀ a, (f a).flat = true) (hv : ∀ (x : α) (ys : List α), inV (f x).v ((ys.map f).map D.v) = ys.any fun y => y == x) (neg : Bool) (x : α) (ys : List α) (q : D → Prop) :
    (dInX neg (f x) (.lst (ys.map f)) q = q (.bl (if neg then !(ys.any fun y => y == x) else ys.any fun y => y == x))) ∧ (dInX neg (f x) (.tup (ys.map f)) q = q (.bl (if neg then !(ys.any fun y => y == x) else ys.any fun y => y == x))) := by
  have e : ∀ y : D, (y = .lst (ys.map f) ∨ y = .tup (ys.map f)) → Fd.dIn neg (f x) y q = q (.bl (if neg then !(ys.any fun y => y == x) else ys.any fun y => y == x)) := fun y hy => by
    rcases hy with rfl | rfl <;>
    · unfold Fd.dIn
      simp only [hv, h, flat_map h]
      exact propext ⟨fun z => z.2, fun z => ⟨⟨trivial, trivial⟩, z⟩⟩
  refine ⟨?_, e _ (.inr rfl)⟩
  rw [← e _ (.inl rfl)]
  unfold dInX flats
  simp only [h, flat_map h, Bool.true_and, ↓reduceIte]
theorem dIn_lnat (neg : Bool) (x : Nat) (ys : List Nat) (q : D → Prop) : dInX neg (natI x) (.lst (ys.map natI)) q = q (.bl (if neg then !(ys.any fun y => y == x) else ys.any fun y => y == x)) := (dIn_flat (fun _ => rfl) inV_natI neg x ys q).1
theorem dIn_tnat (neg : Bool) (x : Nat) (ys : List Nat) (q : D → Prop) : dInX neg (natI x) (.tup (ys.map natI)) q = q (.bl (if neg then !(ys.any fun y => y == x) else ys.any fun y => y == x)) := (dIn_flat (fun _ => rfl) inV_natI neg x ys q).2
theorem dIn_lint (neg : Bool) (x : Int) (ys : List Int) (q : D → Prop) : dInX neg (.int x) (.lst (ys.map D.int)) q = q (.bl (if neg then !(ys.any fun y => y == x) else ys.any fun y => y == x)) := (dIn_flat (fun _ => rfl) inV_ints neg x ys q).1
theorem dIn_tint (neg : Bool) (x : Int) (ys : List Int) (q : D → Prop) : dInX neg (.int x) (.tup (ys.map D.int)) q = q (.bl (if neg then !(ys.any fun y => y == x) else ys.any fun y => y == x)) := (dIn_flat (fun _ => rfl) inV_ints neg x ys q).2
theorem dIn_lbl (neg : Bool) (x : Bool) (ys : List Bool) (q : D → Prop) : dInX neg (.bl x) (.lst (ys.map D.bl)) q = q (.bl (if neg then !(ys.any fun y => y == x) else ys.any fun y => y == x)) := (dIn_flat (fun _ => rfl) inV_bls neg x ys q).1
end
end Fd
/-! ways of telling things as data, by which < is their own < -/
namespace Fd
open PySem L2
open PySem.W (alike alikeAll dataLt)
structure EO {α : Type} [BEq α] (f : α → D) (n : Nat) (lt : α → α → Bool) : Prop extends EK f n where
  lt_ : ∀ a b, D.lt (f a) (f b) = lt a b
  al : ∀ a b, alike (f a).py (f b).py = true
  nn : ∀ a, (f a).py ≠ .none
section
variable {α β : Type} [BEq α] [BEq β] {f : α → D} {g : β → D} {n m : Nat} {lt : α → α → Bool} {lt' : β → β → Bool}
theorem EO.int : EO (fun i : Int => D.int i) 0 (fun i j => decide (i < j)) := { EK.int with
  lt_ := fun a b => PySem.W.dataLt_int a b
  al := fun a b => by simp [D.py, alike]
  nn := fun a e => by simp [D.py] at e }
theorem EO.nat : EO natI 0 (fun i j => decide (i < j)) := { EK.nat with
  lt_ := fun a b => (PySem.W.dataLt_int a b).trans (by rw [Bool.eq_iff_iff, decide_eq_true_iff, decide_eq_true_iff]; omega)
  al := fun a b => by simp [D.py, alike]
  nn := fun a e => by simp [D.py] at e }
/-- place by place -/
def lexB (lt : α → α → Bool) : List α → List α → Bool
  | [], [] => false
  | [], _ :: _ => true
  | _ :: _, [] => false
  | a :: as, b :: bs => if (a == b) = true then lexB lt as bs else lt a b
def rowL (xs ys : List D) : Bool := PySem.W.rowLt (D.pys xs) (D.pys ys)
theorem lt_tup (xs ys : List D) : D.lt (.tup xs) (.tup ys) = rowL xs ys := by
  unfold D.lt rowL PySem.W.rowLt
  rw [D.py, D.py, PySem.W.dataLt_tuple]
theorem lt_lst (xs ys : List D) : D.lt (.lst xs) (.lst ys) = rowL xs ys := by
  unfold D.lt rowL PySem.W.rowLt
  rw [D.py, D.py, PySem.W.dataLt_list]
theorem rowL_nn : rowL [] [] = false := by decide
theorem rowL_nc (x : D) (xs : List D) : rowL [] (x :: xs) = true := by
  unfold rowL PySem.W.rowLt
  rw [D.pys, D.pys, PySem.W.keyToksAll, PySem.W.keyToksAll]
  rw [PySem.W.lex_atom (by decide)]
  decide
theorem rowL_cn (x : D) (xs : List D) : rowL (x :: xs) [] = false := by
  unfold rowL PySem.W.rowLt
  rw [D.pys, D.pys, PySem.W.keyToksAll, PySem.W.keyToksAll]
  rw [PySem.W.lex_atom (by decide)]
  decide
theorem rowL_cc {x y : D} (h : alike x.py y.py = true) (xs ys : List D) : rowL (x :: xs) (y :: ys) = if D.eqv x y = true then rowL xs ys else D.lt x y := by
  unfold rowL PySem.W.rowLt
  rw [D.pys, D.pys, PySem.W.dataLt_cons h]
  rfl
theorem rowL_map (h : EO f n lt) : ∀ as bs : List α, rowL (as.map f) (bs.map f) = lexB lt as bs
  | [], [] => rowL_nn
  | [], _ :: _ => rowL_nc _ _
  | _ :: _, [] => rowL_cn _ _
  | a :: as, b :: bs => by
    rw [List.map_cons, List.map_cons, rowL_cc (h.al a b), rowL_map h as bs, h.eqv, h.lt_]
    rfl
theorem alike_pys (h : EO f n lt) : ∀ as bs : List α, alikeAll (D.pys (as.map f)) (D.pys (bs.map f)) = true
  | [], bs => by simp [D.pys, alikeAll]
  | _ :: _, [] => by simp [D.pys, alikeAll]
  | a :: as, b :: bs => by
    rw [List.map_cons, List.map_cons, D.pys, D.pys, alikeAll, h.al, alike_pys h as bs]
    rfl
theorem EO.tup (h : EO f n lt) : EO (fun a : List α => D.tup (a.map f)) (n + 1) (lexB lt) := { h.toEK.tup with
  lt_ := fun a b => (lt_tup _ _).trans (rowL_map h a b)
  al := fun a b => by simp only [D.py, alike]; exact alike_pys h a b
  nn := fun a e => by simp [D.py] at e }
theorem EO.lst (h : EO f n lt) : EO (fun a : List α => D.lst (a.map f)) (n + 1) (lexB lt) := { h.toEK.lst with
  lt_ := fun a b => (lt_lst _ _).trans (rowL_map h a b)
  al := fun a b => by simp only [D.py, alike]; exact alike_pys h a b
  nn := fun a e => by simp [D.py] at e }
def lexP (lt : α → α → Bool) (lt' : β → β → Bool) (a b : α × β) : Bool := if (a.1 == b.1) = true then (if (a.2 == b.2) = true then false else lt' a.2 b.2) else lt a.1 b.1
theorem EO.pair (h : EO f n lt) (h' : EO g n lt') : EO (fun a : α × β => D.tup [f a.1, g a.2]) (n + 1) (lexP lt lt') := { h.toEK.pair h'.toEK with
  lt_ := fun a b => by
    rw [lt_tup, rowL_cc (h.al _ _), rowL_cc (h'.al _ _), rowL_nn, h.eqv, h'.eqv, h.lt_, h'.lt_]
    rfl
  al := fun a b => by simp only [D.py, D.pys, alike, alikeAll, h.al, h'.al, Bool.and_true]
  nn := fun a e => by simp [D.py] at e }
theorem EO.up (h : EO f n lt) (hm : n ≤ m) : EO f m lt := { h.toEK.up hm with lt_ := h.lt_, al := h.al, nn := h.nn }
theorem EO.ord (h : EO f n lt) (hn : n ≤ 62) (as : List α) : OrdOk (as.map f) := by
  have hd : ∀ a, (f a).dat = true ∧ (f a).py.canLay0 = true ∧ (f a).py.depth ≤ n := fun a => deep_ok n _ (h.deep a)
  obtain ⟨d1, d2, d3⟩ := deeps_ok n (as.map f) (deeps_map fun a _ => h.deep a)
  refine ⟨d1, fun x hx y hy => ?_, d2, by omega⟩
  rw [pys_map, List.map_map] at hx hy
  obtain ⟨a, _, rfl⟩ := List.mem_map.mp hx
  obtain ⟨b, _, rfl⟩ := List.mem_map.mp hy
  exact h.al a b
/-! ### <, min, max, sorted of such -/
def minE (lt : α → α → Bool) (a : α) (as : List α) : α := as.foldl (fun x y => if lt y x = true then y else x) a
def maxE (lt : α → α → Bool) (a : α) (as : List α) : α := as.foldl (fun x y => if lt x y = true then y else x) a
theorem minA_map (h : EO f n lt) (as : List α) : ∀ a, minA (f a) (as.map f) = f (minE lt a as) := by
  unfold minA minE
  induction as with
  | nil => intro a; rfl
  | cons b as ih =>
    intro a
    rw [List.map_cons, List.foldl_cons, List.foldl_cons, ← ih, h.lt_]
    congr 1
    split <;> rfl
theorem maxA_map (h : EO f n lt) (as : List α) : ∀ a, maxA (f a) (as.map f) = f (maxE lt a as) := by
  unfold maxA maxE
  induction as with
  | nil => intro a; rfl
  | cons b as ih =>
    intro a
    rw [List.map_cons, List.foldl_cons, List.foldl_cons, ← ih, h.lt_]
    congr 1
    split <;> rfl
theorem ints_no {x : D} (h : ∀ i, x ≠ .int i) (xs : List D) : D.ints (x :: xs) = none := by
  cases x <;> first | rfl | (exact absurd rfl (h _))
theorem EO.minL (h : EO f n lt) (hi : ∀ a i, f a ≠ .int i) (a : α) (as : List α) (q : D → Prop) (hn : n ≤ 62 := by decide) : dMinV [.lst ((a :: as).map f)] q = q (f (minE lt a as)) := by
  unfold dMinV dExt
  simp only [List.map_cons, ints_no (hi a)]
  rw [minA_map h]
  refine propext ⟨fun z => z.2, fun z => ⟨⟨h.ord hn (a :: as), fun y hy => ?_⟩, z⟩⟩
  obtain ⟨b, _, rfl⟩ := List.mem_map.mp (show y ∈ (a :: as).map f from hy)
  exact h.nn b
theorem EO.maxL (h : EO f n lt) (hi : ∀ a i, f a ≠ .int i) (a : α) (as : List α) (q : D → Prop) (hn : n ≤ 62 := by decide) : dMaxV [.lst ((a :: as).map f)] q = q (f (maxE lt a as)) := by
  unfold dMaxV dExt
  simp only [List.map_cons, ints_no (hi a)]
  rw [maxA_map h]
  refine propext ⟨fun z => z.2, fun z => ⟨⟨h.ord hn (a :: as), fun y hy => ?_⟩, z⟩⟩
  obtain ⟨b, _, rfl⟩ := List.mem_map.mp (show y ∈ (a :: as).map f from hy)
  exact h.nn b
theorem EO.cmp (h : EO f n lt) (hi : ∀ a i, f a ≠ .int i) (hn : n ≤ 62) (g : Int → Int → Bool) (k : D → D → Bool) (a b : α) (q : D → Prop) : dCmpV g k (f a) (f b) q = q (.bl (k (f a) (f b))) := by
  have c : (f a).dat = true ∧ (f b).dat = true ∧ alike (f a).py (f b).py = true ∧ (f a).py ≠ .none ∧ (f a).py.depth ≤ 62 :=
    ⟨(deep_ok n _ (h.deep a)).1, (deep_ok n _ (h.deep b)).1, h.al a b, h.nn a, Nat.le_trans (deep_ok n _ (h.deep a)).2.2 hn⟩
  unfold dCmpV
  split
  · rename_i i j e1 e2
    exact absurd e1 (hi a i)
  · exact propext ⟨fun z => z.2, fun z => ⟨c, z⟩⟩
theorem EO.ltV (h : EO f n lt) (hi : ∀ a i, f a ≠ .int i) (a b : α) (q : D → Prop) (hn : n ≤ 62 := by decide) : dLtV (f a) (f b) q = q (.bl (lt a b)) := by
  unfold dLtV
  rw [h.cmp hi hn, h.lt_]
theorem EO.gtV (h : EO f n lt) (hi : ∀ a i, f a ≠ .int i) (a b : α) (q : D → Prop) (hn : n ≤ 62 := by decide) : dGtV (f a) (f b) q = q (.bl (lt b a)) := by
  unfold dGtV
  rw [h.cmp hi hn, h.lt_]
theorem EO.leV (h : EO f n lt) (hi : ∀ a i, f a ≠ .int i) (a b : α) (q : D → Prop) (hn : n ≤ 62 := by decide) : dLeV (f a) (f b) q = q (.bl (!lt b a)) := by
  unfold dLeV
  rw [h.cmp hi hn, h.lt_]
theorem EO.geV (h : EO f n lt) (hi : ∀ a i, f a ≠ .int i) (a b : α) (q : D → Prop) (hn : n ≤ 62 := by decide) : dGeV (f a) (f b) q = q (.bl (!lt a b)) := by
  unfold dGeV
  rw [h.cmp hi hn, h.lt_]
def srtE (lt : α → α → Bool) (as : List α) : List α := as.mergeSort fun a b => !lt b a
theorem EO.sort (h : EO f n lt) (hi : ∀ a i, f a ≠ .int i) (as : List α) (q : List D → Prop) (hs : as ≠ []) (ht : (∀ a ∈ as, ∃ x r, f a = .tup (x :: r)) ∨ ∀ a ∈ as, ∀ xs, f a ≠ .tup xs) (hn : n ≤ 62 := by decide) : dSortedV [.lst (as.map f)] q = q ((srtE lt as).map f) := by
  have e1 : D.ints (as.map f) = none := by
    cases as with
    | nil => exact absurd rfl hs
    | cons a as => exact ints_no (hi a) _
  have e2 : (as.map f).mergeSort srtB = (srtE lt as).map f := by
    unfold srtE
    rw [List.map_mergeSort (s := srtB)]
    intro a _ b _
    show (!lt b a) = !D.lt (f b) (f a)
    rw [h.lt_]
  have sr : PySem.W.Sortable (D.pys (as.map f)) := by
    rw [pys_map, List.map_map]
    rcases ht with ht | ht
    · refine .inl fun d hd => ?_
      obtain ⟨a, ha, rfl⟩ := List.mem_map.mp hd
      obtain ⟨x, r, e⟩ := ht a ha
      exact ⟨x.py, D.pys r, by show (f a).py = _; rw [e, D.py, D.pys]⟩
    · refine .inr fun d hd => ?_
      obtain ⟨a, ha, rfl⟩ := List.mem_map.mp hd
      refine ⟨h.nn a, fun xs e => ?_⟩
      have e' : (f a).py = .tuple xs := e
      cases z : f a with
      | tup ys => exact ht a ha ys z
      | _ => rw [z] at e'; simp [D.py] at e'
  unfold dSortedV
  simp only [e1, e2]
  exact propext ⟨fun z => z.2, fun z => ⟨⟨h.ord hn as, sr⟩, z⟩⟩
end
end Fd
namespace Fd
open PySem L2
theorem dMinV_2 (i j : Int) (q : D → Prop) : dMinV [.int i, .int j] q = q (.int (if j < i then j else i)) := rfl
theorem dMaxV_2 (i j : Int) (q : D → Prop) : dMaxV [.int i, .int j] q = q (.int (if j > i then j else i)) := rfl
section
variable {α : Type}
theorem dMinV_L (g : α → Int) (xs : List α) (q : D → Prop) : dMinV [.lst (xs.map fun x => D.int (g x))] q = (xs.map g ≠ [] ∧ q (.int (minI (xs.map g)))) := by unfold dMinV dExt; simp only [ints_mapF]
theorem dMinV_T (g : α → Int) (xs : List α) (q : D → Prop) : dMinV [.tup (xs.map fun x => D.int (g x))] q = (xs.map g ≠ [] ∧ q (.int (minI (xs.map g)))) := by unfold dMinV dExt; simp only [ints_mapF]
theorem dMaxV_L (g : α → Int) (xs : List α) (q : D → Prop) : dMaxV [.lst (xs.map fun x => D.int (g x))] q = (xs.map g ≠ [] ∧ q (.int (maxI (xs.map g)))) := by unfold dMaxV dExt; simp only [ints_mapF]
theorem dMaxV_T (g : α → Int) (xs : List α) (q : D → Prop) : dMaxV [.tup (xs.map fun x => D.int (g x))] q = (xs.map g ≠ [] ∧ q (.int (maxI (xs.map g)))) := by unfold dMaxV dExt; simp only [ints_mapF]
theorem dMinV_l (xs : List Int) (q : D → Prop) : dMinV [.lst (xs.map D.int)] q = (xs ≠ [] ∧ q (.int (minI xs))) := by unfold dMinV dExt; simp only [ints_map]
theorem dMinV_t (xs : List Int) (q : D → Prop) : dMinV [.tup (xs.map D.int)] q = (xs ≠ [] ∧ q (.int (minI xs))) := by unfold dMinV dExt; simp only [ints_map]
theorem dMaxV_l (xs : List Int) (q : D → Prop) : dMaxV [.lst (xs.map D.int)] q = (xs ≠ [] ∧ q (.int (maxI xs))) := by unfold dMaxV dExt; simp only [ints_map]
theorem dMaxV_t (xs : List Int) (q : D → Prop) : dMaxV [.tup (xs.map D.int)] q = (xs ≠ [] ∧ q (.int (maxI xs))) := by unfold dMaxV dExt; simp only [ints_map]
/-- a sorted list of ints: the one -/
def srtI (ns : List Int) : List Int := ns.mergeSort fun a b => decide (a ≤ b)
theorem srtI_perm (ns : List Int) : (srtI ns).Perm ns := List.mergeSort_perm _ _
theorem srtI_sorted (ns : List Int) : (srtI ns).Pairwise (· ≤ ·) := by
  have := List.pairwise_mergeSort (le := fun a b : Int => decide (a ≤ b)) (fun a b c h1 h2 => by simp only [decide_eq_true_eq] at *; omega) (fun a b => by simp only [Bool.or_eq_true, decide_eq_true_eq]; omega) ns
  exact this.imp fun h => of_decide_eq_true h
theorem srtI_one {ns ms : List Int} (h1 : ms.Perm ns) (h2 : ms.Pairwise (· ≤ ·)) : ms = srtI ns := sorted_one (h1.trans (srtI_perm ns).symm) h2 (srtI_sorted ns)
theorem dSortedV_of {ys : List D} {ns : List Int} {q : List D → Prop} (e : D.ints ys = some ns) (h : q ((srtI ns).map D.int)) : dSortedV [.lst ys] q := by
  unfold dSortedV
  simp only [e]
  intro ms h1 h2
  rw [srtI_one h1 h2]
  exact h
theorem dSortedV_eq (ns : List Int) (q : List D → Prop) : dSortedV [.lst (ns.map D.int)] q = q ((srtI ns).map D.int) := by
  refine propext ⟨fun h => ?_, fun h => dSortedV_of (ints_map ns) h⟩
  unfold dSortedV at h
  simp only [ints_map] at h
  exact h _ (srtI_perm ns) (srtI_sorted ns)
theorem dSortedV_L (g : α → Int) (xs : List α) (q : List D → Prop) : dSortedV [.lst (xs.map fun x => D.int (g x))] q = q ((srtI (xs.map g)).map D.int) := by
  rw [show (xs.map fun x => D.int (g x)) = (xs.map g).map D.int from by rw [List.map_map]; rfl, dSortedV_eq]
end
end Fd
/-! fractions as trees -/
namespace Fd
open PySem L2
def frD (x : Rat) : D := .tup [.int x.num, .int (x.den : Int)]
theorem frD_int (a : Int) : D.tup [.int a, .int 1] = frD (a : Rat) := rfl
theorem EK.rat : EK frD 1 := ⟨fun a => deep_tup (deeps_c (deep_int _ _) (deeps_c (deep_int _ _) deeps_n)), fun a b => by
  show (a.num == b.num && ((a.den : Int) == (b.den : Int) && true)) = (a == b)
  rw [Bool.eq_iff_iff]
  simp only [Bool.and_eq_true, beq_iff_eq, and_true]
  constructor
  · rintro ⟨h1, h2⟩
    exact Rat.ext h1 (by omega)
  · rintro rfl
    exact ⟨rfl, rfl⟩⟩
theorem mk_tup (a : Int) {b g : Nat} (hb : 0 < b) (hg : g = Nat.gcd a.natAbs b) : D.tup [.int (a / (g : Int)), .int ((b : Int) / (g : Int))] = frD (mkRat a b) := by
  unfold frD
  rw [Rat.num_mkRat, Rat.den_mkRat, if_neg (by omega), if_neg (by omega), Nat.gcd_comm b, ← hg]
  rfl
theorem abs_nat (a : Int) : (if a < 0 then -a else a) = (a.natAbs : Int) := by omega
theorem gcd_pos {a : Int} {b : Nat} (hb : 0 < b) : 0 < Nat.gcd a.natAbs b := Nat.gcd_pos_of_pos_right _ hb
theorem gcd_le {a : Int} {b : Nat} (hb : 0 < b) : Nat.gcd a.natAbs b ≤ b := Nat.le_of_dvd hb (Nat.gcd_dvd_right _ _)
theorem gcd_step {n m : Nat} : Nat.gcd n m = Nat.gcd m (n % m) := by rw [Nat.gcd_comm n m, Nat.gcd_rec m n, Nat.gcd_comm]
theorem rat_sub (x y : Rat) : mkRat (x.num * (y.den : Int) - y.num * (x.den : Int)) (x.den * y.den) = x - y := by
  rw [Rat.sub_def, Rat.normalize_eq_mkRat]
theorem rat_add (x y : Rat) : mkRat (x.num * (y.den : Int) + y.num * (x.den : Int)) (x.den * y.den) = x + y := by
  rw [Rat.add_def, Rat.normalize_eq_mkRat]
theorem rat_lt (x y : Rat) : decide (x.num * (y.den : Int) < y.num * (x.den : Int)) = decide (x < y) := by
  rw [decide_eq_decide]
  exact (Rat.lt_iff x y).symm
/-- a whole number of Nths -/
def Dv (N : Nat) (x : Rat) : Prop := ∃ a : Int, x = mkRat a N
variable {N M : Nat} {x y : Rat}
theorem mk_dvd (a : Int) (hN : 0 < N) : (mkRat a N).den ≤ N := by
  rw [Rat.den_mkRat, if_neg (by omega)]
  exact Nat.div_le_self _ _
theorem Dv.den (h : Dv N x) (hN : 0 < N) : x.den ≤ N := by
  obtain ⟨a, rfl⟩ := h
  exact mk_dvd a hN
theorem Dv.add (h : Dv N x) (h' : Dv N y) (hN : 0 < N) : Dv N (x + y) := by
  obtain ⟨a, rfl⟩ := h
  obtain ⟨b, rfl⟩ := h'
  refine ⟨a + b, ?_⟩
  rw [Rat.mkRat_add_mkRat _ _ (by omega) (by omega), Rat.mkRat_eq_iff (Nat.mul_ne_zero (by omega) (by omega)) (by omega)]
  push_cast
  grind
theorem mk_neg (a : Int) (N : Nat) : -(mkRat a N) = mkRat (-a) N := by
  rw [Rat.neg_mkRat]
theorem Dv.neg (h : Dv N x) : Dv N (-x) := by
  obtain ⟨a, rfl⟩ := h
  exact ⟨-a, mk_neg a N⟩
theorem Dv.sub (h : Dv N x) (h' : Dv N y) (hN : 0 < N) : Dv N (x - y) := by
  rw [Rat.sub_eq_add_neg]
  exact h.add h'.neg hN
theorem Dv.mul (h : Dv N x) (hN : 0 < N) (hM : 0 < M) : Dv (N * M) x := by
  obtain ⟨a, rfl⟩ := h
  refine ⟨a * M, ?_⟩
  rw [Rat.mkRat_eq_iff (by omega) (Nat.mul_ne_zero (by omega) (by omega))]
  push_cast
  grind
theorem Dv.int (a : Int) (hN : 0 < N) : Dv N (a : Rat) := by
  refine ⟨a * N, ?_⟩
  have h1 : (a : Rat) = mkRat a 1 := by rw [← Rat.mkRat_self (a : Rat)]; rfl
  rw [h1, Rat.mkRat_eq_iff (by omega) (by omega)]
  push_cast
  grind
theorem Dv.self (a : Int) : Dv N (mkRat a N) := ⟨a, rfl⟩
theorem mk_div (a : Int) (hN : 0 < N) : mkRat a N = (a : Rat) / (N : Rat) := by
  rw [Rat.mkRat_eq_div]
theorem mk_over (x : Rat) {n : Nat} (hn : 0 < n) : mkRat x.num (x.den * n) = x / (n : Rat) := by
  have h0 : (x.den : Rat) ≠ 0 := by
    have := x.den_nz
    intro e
    exact this (by exact_mod_cast e)
  have h1 : (n : Rat) ≠ 0 := by
    intro e
    have : n = 0 := by exact_mod_cast e
    omega
  rw [Rat.mkRat_eq_div, Rat.natCast_mul]
  have h2 : (x.num : Rat) / (x.den : Rat) = x := by rw [← Rat.mkRat_eq_div, Rat.mkRat_self]
  rw [← h2]
  grind
theorem fold_add (xs : List Rat) : ∀ x : Rat, xs.foldl (· + ·) x = x + xs.sum := by
  induction xs with
  | nil => intro x; show x = x + 0; rw [Rat.add_zero]
  | cons y ys ih => intro x; rw [List.foldl_cons, ih, List.sum_cons, Rat.add_assoc]
theorem Dv.sum {xs : List Rat} (h : ∀ x ∈ xs, Dv N x) (hN : 0 < N) : Dv N xs.sum := by
  induction xs with
  | nil => exact Dv.int 0 hN
  | cons x xs ih => rw [List.sum_cons]; exact (h x (List.mem_cons_self ..)).add (ih fun y hy => h y (List.mem_cons_of_mem _ hy)) hN
theorem dAny_map {α : Type} (f : α → Bool) (xs : List α) (q : D → Prop) : dAny [.lst (xs.map fun x => D.bl (f x))] q = q (.bl (xs.any f)) := by
  unfold dAny
  simp only [bools_mapF, List.any_map]
  rfl
end Fd
/-! sorted of a tuple of ints -/
namespace L2
open PySem PySem.Spec PyProof.Rows
section
variable {prog : Program} {w : World} {A : Around} {E : Value → Shared → Prop} {s : Shared}
theorem collect_tup {l : Addr} {vs : List Value} {Q : List Value → Shared → Prop} (hl : s.heap.IsTuple l vs.toArray)
    (h : Q vs { s with heap := (s.heap.push (seqObj "list" #[] 0)).update s.heap.objs.size (Obj.mapSeq (· ++ vs.toArray)) }) (hsz : vs.length ≤ sizeLine) :
    wpAny (model prog w) A (collect (.ref l)) Q E s := by
  obtain ⟨o, ho, hc, n, hd⟩ := id hl
  unfold collect
  refine wpAny_bind (wpAny_runValue (codeAny_builtin entry_proto_collect' ?_))
  show wpAny _ _ (do again (.builtin "list.__iadd__" ⟨[← newList [], .ref l], []⟩)) _ _ s
  refine wpAny_bind (wpAny_newList (wpAny_pure ⟨Code.quiet_builtin _ (by decide +kernel), codeAny_builtin entry_list_iadd' ?_⟩))
  show wpAny _ _ (Builtin.List.listExtendWith (.ref s.heap.objs.size) (.ref l) (.ref s.heap.objs.size)) _ _ { s with heap := s.heap.push (seqObj "list" #[] 0) }
  unfold Builtin.List.listExtendWith
  have ho' : (s.heap.push (seqObj "list" #[] 0)).get? l = some o := Heap.get?_push_of_some _ ho
  refine wpAny_bind (wpAny_typeOf (T := "tuple") ⟨o, ho', hc⟩ ?_)
  have ht : (Value.type "tuple" == Value.type "tuple") = true := by rfl
  rw [if_pos (by rw [ht]; simp)]
  refine wpAny_bind (listItems_at ho' hd ?_)
  refine wpAny_bind (listItems_at (xs := #[]) (n := 0) (Heap.get?_push_size _ rfl) rfl ?_)
  rw [if_neg (by simp)]
  refine wpAny_bind (listUpdate_at (xs := #[]) (n := 0) (Heap.get?_push_size _ rfl) rfl ?_ (Nat.zero_le _) (by show (#[] ++ vs.toArray).size ≤ sizeLine + 1; simp only [Array.size_append, List.size_toArray, List.length_nil]; omega))
  refine wpAny_pure ?_
  show wpAny (model prog w) A (do
      let o ← load s.heap.objs.size
      match o.data with
      | .seq xs _ => pure xs.toList
      | _ => unsupported "internal:collect") Q E { s with heap := (s.heap.push (seqObj "list" #[] 0)).update s.heap.objs.size (Obj.mapSeq (· ++ vs.toArray)) }
  refine wpAny_bind (wpAny_load (get?_update_seq (Heap.get?_push_size _ rfl) _) ?_)
  show wpAny _ _ (pure ((#[] : Array Value) ++ vs.toArray).toList) Q E _
  rw [show ((#[] : Array Value) ++ vs.toArray).toList = vs by simp]
  exact wpAny_pure h
open SrtO in
theorem sorted_ordT {l : Addr} {vs : List Value} {ltv : Value → Value → Bool} {Q : Value → Shared → Prop} (O : Swo ltv) (hl : s.heap.IsTuple l vs.toArray) (hz : vs.length ≤ sizeLine)
    (hS : 2 ≤ vs.length → ∀ (h₁ : Heap) (a : Addr), h₁.get? a = some (seqObj "list" vs.toArray 0) → (∀ b o, s.heap.get? b = some o → b ≠ a ∧ h₁.get? b = some o) → SortableO prog w A.in1.in1 { s with heap := h₁ } a vs ltv)
    (h : ∀ out : List Value, Srtd ltv out → Stb ltv out vs → Q (.ref (s.heap.objs.size + 1)) { s with heap := sortedAll s.heap vs out.toArray }) :
    wpAny (model prog w) A (call (.builtin "sorted") [.ref l]) Q E s := by
  refine Calls.call_function_entry kind_sorted plain_sorted entry_sorted (args_sorted1 _) ?_
  unfold Builtin.«sorted»
  refine wpAny_bind (m := checkCount "sorted" 1 1 _) (wpAny_pure ?_)
  refine wpAny_bind (collect_tup hl ?_ hz)
  refine wpAny_bind (wpAny_newList ?_ hz)
  have hsz : ((s.heap.push (seqObj "list" #[] 0)).update s.heap.objs.size (Obj.mapSeq (· ++ vs.toArray))).objs.size = s.heap.objs.size + 1 := by
    rw [Heap.size_update, size_push']
  have hoL : (((s.heap.push (seqObj "list" #[] 0)).update s.heap.objs.size (Obj.mapSeq (· ++ vs.toArray))).push (seqObj "list" vs.toArray 0)).get? (s.heap.objs.size + 1) = some (seqObj "list" vs.toArray 0) := by
    rw [← hsz]; exact Heap.get?_push_size _ rfl
  have keep : ∀ b o, s.heap.get? b = some o → b ≠ s.heap.objs.size + 1 ∧ (((s.heap.push (seqObj "list" #[] 0)).update s.heap.objs.size (Obj.mapSeq (· ++ vs.toArray))).push (seqObj "list" vs.toArray 0)).get? b = some o := fun b o q => by
    have hlt : b < s.heap.objs.size := Heap.lt_size q
    refine ⟨Nat.ne_of_lt (Nat.lt_succ_of_lt hlt), Heap.get?_push_of_some _ ?_⟩
    rw [Heap.get?_update_ne _ _ _ _ (Nat.ne_of_lt hlt)]
    exact Heap.get?_push_of_some _ q
  show wpAny _ _ _ _ _ { s with heap := ((s.heap.push (seqObj "list" #[] 0)).update s.heap.objs.size (Obj.mapSeq (· ++ vs.toArray))).push (seqObj "list" vs.toArray 0) }
  rw [hsz]
  refine wpAny_bind (wpAny_holding (wpAny_call_entry slot_list_sort ⟨_, hoL, rfl⟩ entry_list_sort (list_sort_ord O hoL hz (fun h2 => hS h2 _ _ hoL keep) fun out hs hb => ⟨_, rfl, ?_⟩) (args_list_sort _)))
  exact wpAny_pure ⟨_, rfl, h out hs hb⟩
end
section
variable {X : Cx}
def rSortedT (K : PySem.W.Frag) : List V → Hp → VK → Prop := fun vs H Q => ∃ (a : Addr) (ns : List Int), vs = [V.ref a] ∧ SqT K H a (ns.map V.int) ∧
  ∀ (ns' : List Int) (p : Addr), ns'.Perm ns → ns'.Pairwise (· ≤ ·) → H p = none → Q (.ref p) (upd H p (.lst (ns'.map V.int)))
theorem cr_sortedT : CallR X (.builtin "sorted") (rSortedT X.K) := by
  intro pins s σ H vs us Q I r h
  obtain ⟨a, ns, rfl, hs, q⟩ := h
  obtain ⟨its, rv, hl, hz⟩ := I.tuple hs
  rw [Vals.ref1 r]
  have hi := rv.ints
  refine sorted_ordT SrtO.swo_int (isTuple_of hl) (by rw [← rv.length]; exact hz) (fun h2 h₁ a' _ _ => SrtO.ints_sortable hi h2) fun out h1 h2 => ?_
  obtain ⟨k1, k2, k3⟩ := SrtO.ints_out hi h1 h2
  obtain ⟨ep, he'⟩ := PyProof.Rows.sortedAll_at s.heap its out.toArray
  have hlen : ((out.map SrtO.iv).map V.int).length ≤ sizeLine := by
    rw [List.length_map, k2.length_eq]
    rw [List.length_map] at hz
    exact hz
  exact ⟨.ref _, upd H (s.heap.objs.size + 1) (.lst ((out.map SrtO.iv).map V.int)), I.laid (t' := s.toks) (fun _ _ => PyProof.Rows.sortedAll_old) (Nat.le_succ _) ⟨hlen, out, ep, vals_of_ints k1, he'⟩, rfl, q _ _ k2 k3 (I.hok.fresh (Nat.le_succ _))⟩
end
end L2
namespace Fd
open PySem PySem.Spec L2
def dSortedW : OF := fun xs q => match xs with
  | [.tup ys] => (match D.ints ys with
    | some ns => ∀ ns' : List Int, ns'.Perm ns → ns'.Pairwise (· ≤ ·) → q (ns'.map D.int)
    | none => False)
  | _ => dSortedV xs q
def rSortedW (K : PySem.W.Frag) : List V → Hp → VK → Prop := fun xs H Q => rSortedV K xs H Q ∨ rSortedT K xs H Q
theorem cr_sortedW {X : Cx} (hu : X.A.units + 65 < cLine) : CallR X (.builtin "sorted") (rSortedW X.K) := CallR.or (cr_sortedV hu) cr_sortedT
theorem dcf_sortedW {C : Ctx} : DCF C (rSortedW C.K) dSortedW := by
  refine ⟨fun Hs ρ σ H xs vs q Q r p w k => ?_⟩
  unfold dSortedW at w
  split at w
  · obtain ⟨v, rfl, h⟩ := repBL1 p
    obtain ⟨a, us, rfl, h1, h2⟩ := h.tup r.sh
    split at w
    · rename_i ns e
      have e2 := ints_eq e
      subst e2
      have e3 := h2.ints
      subst e3
      exact .inr ⟨a, ns, rfl, h1, fun ns' b hp hs hb => k _ b _ Hs H (w ns' hp hs) Gr.refl r hb (RepL.ofInts ns')⟩
    · exact w.elim
  · exact .inl (dcf_sortedV.run Hs ρ σ H xs vs q Q r p w k)
theorem dSortedW_l (ys : List D) (q : List D → Prop) : dSortedW [.lst ys] q = dSortedV [.lst ys] q := rfl
theorem dSortedW_t (ns : List Int) (q : List D → Prop) : dSortedW [.tup (ns.map D.int)] q = q ((srtI ns).map D.int) := by
  unfold dSortedW
  simp only [ints_map]
  refine propext ⟨fun h => h _ (srtI_perm ns) (srtI_sorted ns), fun h ms h1 h2 => ?_⟩
  rw [srtI_one h1 h2]
  exact h
theorem dSortedW_T {α : Type} (g : α → Int) (xs : List α) (q : List D → Prop) : dSortedW [.tup (xs.map fun x => D.int (g x))] q = q ((srtI (xs.map g)).map D.int) := by
  rw [show (xs.map fun x => D.int (g x)) = (xs.map g).map D.int from by rw [List.map_map]; rfl, dSortedW_t]
end Fd
/-! xs[i] += e, of ints, on an own list -/
namespace L2
open PySem PySem.Spec PyProof.Rows
section
variable {X : Cx}
theorem get_list : PGet X (rIxL X.K) := by
  intro pins s σ H o i ov iv Q I ro ri h
  obtain ⟨p, xs, i, z, rfl, rfl, hq, he, q⟩ := h
  cases ro
  obtain ⟨t, rfl⟩ := ri
  obtain ⟨its, r, pl, hz⟩ := I.list hq
  obtain ⟨j, h1, h2, h3, h4, h5⟩ := atI_get he
  obtain ⟨w, ew, rw'⟩ := r.get h2
  have hl := r.length
  have hn := line63
  have fin : EP X pins σ Q w s := ⟨z, H, I, rw', q⟩
  by_cases h0 : 0 ≤ i
  · have hj : i.toNat = j := by
      rw [seqIndex_of h0 h5] at h1
      exact Option.some.inj h1
    exact wpAny_getItem_list pl.isList h0 (by omega) (by rw [hj]; simpa using ew) fin
  · have hj : (i + (its.toArray.size : Int)).toNat = j := by
      rw [seqIndex_neg (by omega) h4] at h1
      rw [List.size_toArray, ← hl]
      exact Option.some.inj h1
    exact wpAny_getItem_list_neg pl.isList (by omega) (by rw [List.size_toArray] <;> omega) (by omega) (by rw [hj]; simpa using ew) fin
end
end L2
namespace Fd
open PySem PySem.Spec L2
/-- x[j] op= e -/
def sAugSI (i : Nat) (op : Int → Int → Int) (fj fe : ME) : MS := fun ρ sq qe => match ρ[i]? with
  | some (.ol ds) => fj ρ (fun j => match j with
    | .int j => (match atI ds j with
      | some (.int x) => fe ρ (fun d => match d with
        | .int y => (match ixN ds.length j with
          | some n => sq.nx (ρ.set i (.ol (ds.set n (.int (op x y)))))
          | none => False)
        | _ => False) qe
      | _ => False)
    | _ => False) qe
  | _ => False
theorem ds_augSI {C : Ctx} {i : Nat} {op : Int → Int → Int} {tj te : TE} {fj fe : ME} (hj : DT C tj fj) (he : DT C te fe) : DS C (tAugS (tVar i) tj te (rIxL C.K) (ipI op) rSetL) (sAugSI i op fj fe) := by
  refine ⟨fun Hs ρ σ H sq qe E l r w k => ?_⟩
  unfold sAugSI at w
  split at w
  · rename_i ds e
    obtain ⟨p, vs, ev, h1, h2, h3, h4, h5⟩ := r.en i _ e
    refine ⟨_, ev, hj.run Hs ρ σ H _ qe _ l r w fun j vj Hs1 H1 w1 g1 r1 p1 => ?_⟩
    split at w1
    · split at w1
      · rename_i e1
        cases p1
        obtain ⟨p', vs', ev', h1', h2', h3', h4', h5'⟩ := r1.en i _ e
        rw [ev] at ev'
        cases ev'
        obtain ⟨v, e2, p2⟩ := atI_rep h2' e1
        cases p2
        refine ⟨p, vs', _, _, rfl, rfl, SqL.of h1', e2, he.run Hs1 ρ σ H1 _ qe _ l r1 w1 fun d v Hs2 H2 w2 g2 r2 p2 => ?_⟩
        split at w2
        · split at w2
          · rename_i n en
            cases p2
            obtain ⟨p'', vs'', ev'', h1'', h2'', h3'', h4'', h5''⟩ := r2.en i _ e
            rw [ev] at ev''
            cases ev''
            refine ⟨_, _, rfl, rfl, p, vs'', _, n, rfl, rfl, h1'', by rw [← h2''.length]; exact en, ?_⟩
            exact k.nx _ _ Hs2 _ w2 (g1.s.trans g2.s) (r2.change e rfl ev h3'' h4'' h5'' ⟨p, _, rfl, upd_same, RepL.set (.int _) n h2'', h3'', h4'', h5''⟩)
          · exact w2.elim
        · exact w2.elim
      · exact w1.elim
    · exact w1.elim
  · exact w.elim
end Fd
/-! xs[::-1], of lists and of tuples -/
namespace L2
open PySem PySem.Spec PyProof.Rows
section
variable {prog : Program} {w : World} {A : Around} {E : Value → Shared → Prop} {s : Shared}
theorem rev_adjust (n : Nat) : Builtin.Slice.sliceAdjust none none (-1) (n : Int) = ((n : Int) - 1, -1) := by
  have h1 : ((-1 : Int) < 0) := by omega
  unfold Builtin.Slice.sliceAdjust
  simp only [h1, if_true]
theorem rev_places (n : Nat) : Builtin.Slice.slicePlaces ((n : Int) - 1) (-1) (-1) = n := by
  unfold Builtin.Slice.slicePlaces
  have h1 : ¬ (-1 : Int) > 0 := by omega
  simp only [h1, if_false, Int.neg_neg, Int.ediv_one]
  split <;> omega
theorem fm_map {α β : Type} {f : α → Option β} {g : α → β} : ∀ {L : List α}, (∀ m ∈ L, f m = some (g m)) → L.filterMap f = L.map g
  | [], _ => rfl
  | x :: L, h => by
    rw [List.filterMap_cons, h x (List.mem_cons_self ..), List.map_cons, fm_map fun m hm => h m (List.mem_cons_of_mem _ hm)]
theorem rev_pick (xs : Array Value) : ((List.range xs.size).filterMap fun (m : Nat) => xs[(((xs.size : Int) - 1) + (m : Int) * (-1)).toNat]?).toArray = xs.toList.reverse.toArray := by
  congr 1
  have e : ∀ m ∈ List.range xs.size, xs[(((xs.size : Int) - 1) + (m : Int) * (-1)).toNat]? = some (xs.toList.reverse.getD m .none) := by
    intro m hm
    have hm := List.mem_range.mp hm
    have e1 : (((xs.size : Int) - 1) + (m : Int) * (-1)).toNat = xs.size - 1 - m := by omega
    rw [e1, Array.getElem?_eq_getElem (by omega), List.getD_eq_getElem?_getD, List.getElem?_reverse (by simpa using hm)]
    rw [Array.length_toList, List.getElem?_eq_getElem (by simp; omega)]
    simp
  rw [fm_map e]
  refine List.ext_getElem (by simp) fun j h1 h2 => ?_
  simp only [List.getElem_map, List.getElem_range]
  rw [List.getD_eq_getElem?_getD, List.getElem?_eq_getElem h2]
  rfl
theorem sliceApplied_rev {sl : Addr} {vl vu vs : Value} {n : Nat} {Q : Int × Int × Nat → Shared → Prop} (hs : s.heap.IsSliceOf sl vl vu vs) (pl : IsPart vl none) (pu : IsPart vu none) (ps : IsPart vs (some (-1)))
    (h : Q (((n : Int) - 1), -1, n) s) : wpAny (model prog w) A (Builtin.Slice.sliceApplied (.ref sl) (pure (n : Int))) Q E s := by
  obtain ⟨os, hos, hcs, hds⟩ := id hs
  unfold Builtin.Slice.sliceApplied Builtin.Slice.sliceFields
  refine wpAny_bind (wpAny_bind (wpAny_field hos hds (x := vl) rfl (wpAny_bind (wpAny_field hos hds (x := vu) rfl (wpAny_bind (wpAny_field hos hds (x := vs) rfl (wpAny_pure ?_)))))))
  refine wpAny_bind (HT.slicePart_ ps ?_)
  show wpAny _ _ (if ((-1 : Int) == 0) = true then _ else _) _ _ s
  rw [if_neg (by decide)]
  refine wpAny_bind (HT.slicePart_ pl (wpAny_bind (HT.slicePart_ pu (wpAny_bind (wpAny_pure ?_)))))
  show wpAny _ _ (match Builtin.Slice.sliceAdjust none none (-1) (n : Int) with | (lo, hi) => pure (lo, (-1 : Int), Builtin.Slice.slicePlaces lo hi (-1))) _ _ s
  rw [rev_adjust n]
  show wpAny _ _ (pure (((n : Int) - 1), (-1 : Int), Builtin.Slice.slicePlaces ((n : Int) - 1) (-1) (-1))) _ _ s
  rw [rev_places]
  exact wpAny_pure h
theorem getItem_tuple_rev {t sl : Addr} {items : Array Value} {vl vu vs : Value} {Q : Value → Shared → Prop} (ht : IsTup s.heap t items) (hs : s.heap.IsSliceOf sl vl vu vs) (pl : IsPart vl none) (pu : IsPart vu none) (ps : IsPart vs (some (-1)))
    (h : Q (.ref s.heap.objs.size) { s with heap := s.heap.push { cls := .type "tuple", data := .seq items.toList.reverse.toArray } })
    (hsz : items.size ≤ sizeLine) : wpAny (model prog w) A (getItem (.ref t) (.ref sl)) Q E s := by
  have htake : sizeOk (.seq items.toList.reverse.toArray) := by
    show items.toList.reverse.toArray.size ≤ sizeLine
    rw [List.size_toArray, List.length_reverse, Array.length_toList]
    omega
  obtain ⟨os, hos, hcs, hds⟩ := id hs
  have hTs : s.TypeIs (.ref sl) "slice" := ⟨os, hos, hcs⟩
  unfold getItem
  try with_reducible refine wpAny_holding ?_
  first | refine wpAny_bind (wpAny_pure ?_) | skip
  refine wpAny_bind (wpAny_sequenceKey ht.typeIs (by decide) ?_)
  refine wpAny_bind (wpAny_callSpecial?_slot (name := Str.ofString "__getitem__") ht.typeIs PyProof.Rows.slot_tuple_getitem
    (wpAny_call_entry PyProof.Rows.slot_tuple_getitem ht.typeIs entry_tuple_getitem ?_ (args_tuple_getitem _ _)))
  show wpAny _ _ (Builtin.Tuple.tupleItemsOf (.ref t) >>= _) _ _ s
  refine wpAny_bind (tupleItemsOf_ ht ?_)
  refine wpAny_bind (wpAny_typeOf hTs ?_)
  rw [if_pos (by decide)]
  refine wpAny_bind (sliceApplied_rev hs pl pu ps ?_)
  have hno : ¬ ((((items.size : Int) - 1) == 0 && (-1 : Int) == 1 && items.size == items.size) = true) := by
    intro q
    rw [Bool.and_eq_true, Bool.and_eq_true] at q
    exact absurd q.1.2 (by decide)
  show wpAny _ _ (if (((items.size : Int) - 1) == 0 && (-1 : Int) == 1 && items.size == items.size) = true then _ else _) _ _ s
  rw [if_neg hno, rev_pick]
  first
    | exact wpAny_bind (m := Builtin.Tuple.tupleExact _) (wpAny_newObj_type (wpAny_pure ⟨_, rfl, wpAny_pure h⟩) htake)
    | exact wpAny_bind (m := Builtin.Tuple.tupleExact _) (wpAny_newObj_type (wpAny_bind (wpAny_pure (wpAny_pure ⟨_, rfl, wpAny_pure h⟩))) htake)
    | exact wpAny_bind (wpAny_bind (m := Builtin.Tuple.tupleExact _) (wpAny_newObj_type (wpAny_pure (wpAny_pure ⟨_, rfl, wpAny_pure h⟩)) htake))
    | exact wpAny_bind (wpAny_bind (m := Builtin.Tuple.tupleExact _) (wpAny_newObj_type (wpAny_pure ⟨_, rfl, wpAny_pure h⟩) htake))
end
section
variable {X : Cx}
def tRevX (K : PySem.W.Frag) (te : TE) : TE := fun σ H Q => te σ H fun x H1 => ∃ a xs, x = .ref a ∧ ((SqL K H1 a xs ∧ ∀ p, H1 p = none → Q (.ref p) (upd H1 p (.lst xs.reverse))) ∨
  (SqT K H1 a xs ∧ ∀ (p : Addr) (o : Obj), o.dict = none → H1 p = none → Q (.ref p) (upd H1 p (frT o xs.reverse))))
theorem pe_revX {e : Expr} {te : TE} {k : Nat} {p1 p2 p3 pos : Pos} (he : PE X e te) : PE X (.Subscript e (.Slice none none (some (.UnaryOp .USub (.Constant (.int 1) k p1) p2)) p3) pos) (tRevX X.K te) := by
  refine ⟨fun pins s σ H Q I h => ?_⟩
  refine Subscript_ (thn (he.run pins s σ H _ I h) fun v s1 ⟨x, H1, I1, r1, q1⟩ => ?_)
  obtain ⟨a, xs, ex, q1⟩ := q1
  subst ex
  cases r1
  have hst : PO X (some (.UnaryOp .USub (.Constant (.int 1) k p1) p2)) (tPart (tUn (rU fun i => .int (-i)) (tC (.int 1)))) := po_some (pe_un un_neg pe_int)
  refine wpAny_Slice (thn (po_none.run pins s1 σ H1 (fun o H2 => o = none ∧ H2 = H1) I1 ⟨rfl, rfl⟩) fun vl s2 ⟨l, H2, I2, pl, el, e2⟩ => ?_)
  subst el e2
  refine thn (po_none.run pins s2 σ H2 (fun o H3 => o = none ∧ H3 = H2) I2 ⟨rfl, rfl⟩) fun vu s3 ⟨u, H3, I3, pu, eu, e3⟩ => ?_
  subst eu e3
  refine thn (hst.run pins s3 σ H3 (fun o H4 => o = some (-1) ∧ H4 = H3) I3 ⟨1, rfl, -1, rfl, rfl, rfl⟩) fun vs s4 ⟨o, H4, I4, ps, eo, e4⟩ => ?_
  subst eo e4
  have I5 : Inv X pins σ H4 { s4 with heap := s4.heap.push { cls := .type "slice", data := .fields #[vl, vu, vs] } } := I4.kept (t' := s4.toks) fun b ob q => Heap.get?_push_of_some _ q
  show wpAny (model X.prog X.w) X.A (subscriptTail e (.Slice none none (some (.UnaryOp .USub (.Constant (.int 1) k p1) p2)) p3) (.ref a) (.ref s4.heap.objs.size)) (EP X pins σ Q) X.xe { s4 with heap := s4.heap.push { cls := .type "slice", data := .fields #[vl, vu, vs] } }
  rcases q1 with ⟨hx, q⟩ | ⟨hx, q⟩
  · obtain ⟨its, r, ht, hz⟩ := I5.list hx
    have hlen := r.length
    refine tail_any (ops := [.ref a, .ref s4.heap.objs.size]) ht.isList.typeIs (PySem.slot_list_getitem.lookup) ?_ (by with_unfolding_all rfl)
    refine wpAny_getItem_list_slice ht.isList (Heap.IsSliceOf.new _ vl vu vs) pl pu ps (by decide) ?_ (by rw [List.size_toArray]; omega)
    rw [PySem.W.krv_pick]
    refine ⟨.ref _, _, I5.laid (t' := s4.toks) (o := .lst xs.reverse) (fun b ob q => Heap.get?_push_of_some _ q) (Nat.le_refl _) ?_, rfl, q _ (I5.hok.fresh (Nat.le_refl _))⟩
    exact ⟨by rw [List.length_reverse]; exact hz, _, 0, r.reverse, Heap.get?_push_size _ rfl⟩
  · obtain ⟨its, r, ht, hz⟩ := I5.tuple hx
    have hlen := r.length
    refine tail_any (ops := [.ref a, .ref s4.heap.objs.size]) ht.typeIs (PyProof.Rows.slot_tuple_getitem.lookup) ?_ (by with_unfolding_all rfl)
    refine getItem_tuple_rev ht (Heap.IsSliceOf.new _ vl vu vs) pl pu ps ?_ (by rw [List.size_toArray]; omega)
    refine ⟨.ref _, _, I5.laid (t' := s4.toks) (o := frT { cls := .type "tuple", data := .seq its.toArray.toList.reverse.toArray } xs.reverse) (fun b ob q => Heap.get?_push_of_some _ q) (Nat.le_refl _) ?_, rfl, q _ _ rfl (I5.hok.fresh (Nat.le_refl _))⟩
    exact ⟨Heap.get?_push_size _ rfl, by rw [List.length_reverse]; exact hz, _, r.reverse, IsTup.new _ _⟩
end
end L2
namespace Fd
open PySem PySem.Spec L2
/-- xs[::-1] -/
def eRevX (f : ME) : ME := fun ρ q qe => f ρ (fun d => match d with
  | .lst xs => q (.lst xs.reverse)
  | .tup xs => q (.tup xs.reverse)
  | _ => False) qe
theorem RepL.rev {K : PySem.W.Frag} {a : Hd} {H : Hp} : ∀ {xs : List D} {vs : List V}, RepL K a H xs vs → RepL K a H xs.reverse vs.reverse
  | [], [], _ => .nil
  | x :: xs, v :: vs, r => by
    cases r with
    | cons r1 r2 =>
      rw [List.reverse_cons, List.reverse_cons]
      exact (RepL.rev r2).append (.cons r1 .nil)
theorem dt_revX {C : Ctx} {t : TE} {f : ME} (h : DB C t f) : DT C (tRevX C.K t) (eRevX f) := by
  refine ⟨fun Hs ρ σ H q qe Q l r w k => ?_⟩
  refine h.run Hs ρ σ H _ qe _ l r w fun d v Hs1 H1 w1 g1 r1 p1 => ?_
  split at w1
  · obtain ⟨p, vs, rfl, h1, h2⟩ := p1.lst r1.sh
    refine ⟨p, vs, rfl, .inl ⟨SqL.of h1, fun a ha => ?_⟩⟩
    obtain ⟨s, g, r'⟩ := upd_rs (o := .lst vs.reverse) r1 ha
    exact k _ _ _ _ w1 (g1.trans g) r' (.lst upd_same ((RepL.rev h2).mono s))
  · obtain ⟨p, vs, rfl, h1, h2⟩ := p1.tup r1.sh
    refine ⟨p, vs, rfl, .inr ⟨h1, fun a o' ho ha => ?_⟩⟩
    obtain ⟨s, g, r'⟩ := upd_rs (o := frT o' vs.reverse) r1 ha
    exact k _ _ _ _ w1 (g1.trans g) r' (.tup sqT_fr (ndT_fr ho) ((RepL.rev h2).mono s))
  · exact w1.elim
end Fd
/-! dealings of a few rooms, rounds of steps: plain -/
namespace Fd
/-- sums of cells -/
def evC (w : Nat → Nat → Int) (L : List (Nat × Nat)) : Int := (L.map fun c => w c.1 c.2).sum
theorem evC_app (w : Nat → Nat → Int) (A B : List (Nat × Nat)) : evC w (A ++ B) = evC w A + evC w B := by
  unfold evC
  rw [List.map_append, List.sum_append]
theorem sum_permI {A B : List Int} (h : A.Perm B) : A.sum = B.sum := by
  induction h with
  | nil => rfl
  | cons x _ ih => rw [List.sum_cons, List.sum_cons, ih]
  | swap x y l => rw [List.sum_cons, List.sum_cons, List.sum_cons, List.sum_cons]; omega
  | trans _ _ h1 h2 => rw [h1, h2]
theorem evC_perm (w : Nat → Nat → Int) {A B : List (Nat × Nat)} (h : A.isPerm B = true) : evC w A = evC w B := sum_permI ((List.isPerm_iff.mp h).map _)
/-- all orders, as lists of rooms -/
def pnx (p : Nat) (row : List Nat) : List (List Nat) := ((List.range p).filter fun x => !(row.any fun y => y == x)).map fun x => row ++ [x]
def pall (p : Nat) : Nat → List (List Nat)
  | 0 => [[]]
  | k + 1 => (pall p k).flatMap (pnx p)
def cells (p : Nat) (d : List Nat) : List (Nat × Nat) := (List.range p).map fun i => (i, d.getD i 0)
/-- rounds of persons, the least first -/
def wnx (p : Nat) (way : List Nat) : List (List Nat) := ((List.range p).filter fun o => decide (way.headD 0 < o) && !(way.any fun y => y == o)).map fun o => way ++ [o]
def wlev (p : Nat) : Nat → List (List Nat)
  | 0 => (List.range p).map fun i => [i]
  | k + 1 => (wlev p k).flatMap (wnx p)
def wall (p : Nat) : List (List Nat) := (List.range p).flatMap fun k => wlev p k
def nxt (way : List Nat) : List (Nat × Nat) := way.zip (way.drop 1 ++ way.take 1)
/-- what a round takes, what it leaves -/
def wto (d : List Nat) (way : List Nat) : List (Nat × Nat) := (nxt way).map fun c => (c.1, d.getD c.2 0)
def wfr (d : List Nat) (way : List Nat) : List (Nat × Nat) := (nxt way).map fun c => (c.1, d.getD c.1 0)
def wgain (w : Nat → Nat → Int) (d way : List Nat) : Int := evC w (wto d way) - evC w (wfr d way)
theorem turn_fact : ((List.range 5).all fun p => (pall p p).all fun d => (wall p).all fun way => (pall p p).any fun r => (cells p r ++ wfr d way).isPerm (cells p d ++ wto d way)) = true := by decide +kernel
theorem turn {p : Nat} (hp : p ≤ 4) {d way : List Nat} (hd : d ∈ pall p p) (hw : way ∈ wall p) (w : Nat → Nat → Int) : ∃ r ∈ pall p p, evC w (cells p r) = evC w (cells p d) + wgain w d way := by
  have h := List.all_eq_true.mp (List.all_eq_true.mp (List.all_eq_true.mp turn_fact p (List.mem_range.mpr (by omega))) d hd) way hw
  obtain ⟨r, hr, e⟩ := List.any_eq_true.mp h
  refine ⟨r, hr, ?_⟩
  have := evC_perm w e
  rw [evC_app, evC_app] at this
  unfold wgain
  omega
def orb (σ : Nat → Nat) (start : Nat) : Nat → Nat → List Nat
  | 0, _ => []
  | k + 1, cur => cur :: (if σ cur == start then [] else orb σ start k (σ cur))
def orbs (p : Nat) (d r : List Nat) : List (List Nat) := ((List.range p).map fun i => orb (fun i => d.idxOf (r.getD i 0)) i p i).filter fun way => way.all fun y => decide (way.headD 0 ≤ y)
theorem orbs_fact : ((List.range 5).all fun p => (pall p p).all fun d => (pall p p).all fun r => (orbs p d r).all (fun way => (wall p).contains way) && (cells p r).isPerm ((orbs p d r).flatMap (wto d)) && (cells p d).isPerm ((orbs p d r).flatMap (wfr d))) = true := by decide +kernel
theorem orbs_gain (w : Nat → Nat → Int) (d : List Nat) : ∀ ws : List (List Nat), evC w (ws.flatMap (wto d)) - evC w (ws.flatMap (wfr d)) = (ws.map (wgain w d)).sum
  | [] => rfl
  | x :: ws => by
    rw [List.flatMap_cons, List.flatMap_cons, evC_app, evC_app, List.map_cons, List.sum_cons, ← orbs_gain w d ws]
    unfold wgain
    omega
theorem decomp {p : Nat} (hp : p ≤ 4) {d r : List Nat} (hd : d ∈ pall p p) (hr : r ∈ pall p p) (w : Nat → Nat → Int) : (∀ way ∈ orbs p d r, way ∈ wall p) ∧ evC w (cells p r) - evC w (cells p d) = ((orbs p d r).map (wgain w d)).sum := by
  have h := List.all_eq_true.mp (List.all_eq_true.mp (List.all_eq_true.mp orbs_fact p (List.mem_range.mpr (by omega))) d hd) r hr
  rw [Bool.and_eq_true, Bool.and_eq_true] at h
  obtain ⟨⟨h1, h2⟩, h3⟩ := h
  refine ⟨fun way hw => List.contains_iff_mem.mp (List.all_eq_true.mp h1 way hw), ?_⟩
  rw [evC_perm w h2, evC_perm w h3]
  exact orbs_gain w d _
theorem sum_le0 : ∀ {L : List Int}, (∀ x ∈ L, x ≤ 0) → L.sum ≤ 0
  | [], _ => Int.le_refl _
  | x :: L, h => by
    have := sum_le0 fun y hy => h y (List.mem_cons_of_mem _ hy)
    have := h x (List.mem_cons_self ..)
    rw [List.sum_cons]
    omega
/-- a dealing is best just when no round gains -/
theorem best_iff {p : Nat} (hp : p ≤ 4) {d : List Nat} (hd : d ∈ pall p p) (w : Nat → Nat → Int) : (∀ r ∈ pall p p, evC w (cells p r) ≤ evC w (cells p d)) ↔ ∀ way ∈ wall p, wgain w d way ≤ 0 := by
  constructor
  · intro h way hw
    obtain ⟨r, hr, e⟩ := turn hp hd hw w
    have := h r hr
    omega
  · intro h r hr
    obtain ⟨h1, h2⟩ := decomp hp hd hr w
    have : ((orbs p d r).map (wgain w d)).sum ≤ 0 := sum_le0 fun x hx => by
      obtain ⟨way, hw, rfl⟩ := List.mem_map.mp hx
      exact h way (h1 way hw)
    omega
/-! rounds of steps -/
/-- what i would gain by the room of j -/
def fgain (w : Nat → Nat → Int) (d : List Nat) (i j : Nat) : Int := w i (d.getD j 0) - w i (d.getD i 0)
theorem sum_sub {α : Type} (f g : α → Int) : ∀ L : List α, (L.map fun x => f x - g x).sum = (L.map f).sum - (L.map g).sum
  | [] => rfl
  | x :: L => by rw [List.map_cons, List.map_cons, List.map_cons, List.sum_cons, List.sum_cons, List.sum_cons, sum_sub f g L]; omega
theorem wgain_f (w : Nat → Nat → Int) (d way : List Nat) : wgain w d way = evC (fgain w d) (nxt way) := by
  unfold wgain evC wto wfr
  rw [List.map_map, List.map_map]
  exact (sum_sub (fun c : Nat × Nat => w c.1 (d.getD c.2 0)) (fun c => w c.1 (d.getD c.1 0)) (nxt way)).symm
def bfa (f : Nat → Nat → Int) (x : Nat → Int) : Nat → Nat → Int
  | 0, j => x j
  | i + 1, j => if x i + f i j > bfa f x i j then x i + f i j else bfa f x i j
def bf (f : Nat → Nat → Int) (p : Nat) : Nat → Nat → Int
  | 0 => fun _ => 0
  | k + 1 => bfa f (bf f p k) p
theorem bfa_le {f : Nat → Nat → Int} {x : Nat → Int} {j : Nat} {v : Int} : ∀ {n : Nat}, bfa f x n j ≤ v ↔ x j ≤ v ∧ ∀ i, i < n → x i + f i j ≤ v
  | 0 => ⟨fun h => ⟨h, fun i hi => by omega⟩, fun h => h.1⟩
  | n + 1 => by
    have ih := bfa_le (f := f) (x := x) (j := j) (v := v) (n := n)
    show (if x n + f n j > bfa f x n j then x n + f n j else bfa f x n j) ≤ v ↔ _
    constructor
    · intro h
      have h1 : bfa f x n j ≤ v ∧ x n + f n j ≤ v := by split at h <;> omega
      obtain ⟨a, b⟩ := ih.mp h1.1
      refine ⟨a, fun i hi => ?_⟩
      by_cases e : i = n
      · rw [e]; exact h1.2
      · exact b i (by omega)
    · rintro ⟨a, b⟩
      have h1 := ih.mpr ⟨a, fun i hi => b i (by omega)⟩
      have h2 := b n (by omega)
      split <;> omega
theorem bfa_ge {f : Nat → Nat → Int} {x : Nat → Int} {j n : Nat} : x j ≤ bfa f x n j := (bfa_le.mp (Int.le_refl _)).1
theorem bfa_st {f : Nat → Nat → Int} {x : Nat → Int} {j n i : Nat} (hi : i < n) : x i + f i j ≤ bfa f x n j := (bfa_le.mp (Int.le_refl _)).2 i hi
theorem bfa_at {f : Nat → Nat → Int} {x : Nat → Int} {j : Nat} : ∀ n, bfa f x n j = x j ∨ ∃ i, i < n ∧ bfa f x n j = x i + f i j
  | 0 => .inl rfl
  | n + 1 => by
    show (if x n + f n j > bfa f x n j then x n + f n j else bfa f x n j) = x j ∨ ∃ i, i < n + 1 ∧ (if x n + f n j > bfa f x n j then x n + f n j else bfa f x n j) = x i + f i j
    split
    · exact .inr ⟨n, by omega, rfl⟩
    · rcases bfa_at (f := f) (x := x) (j := j) n with h | ⟨i, hi, h⟩
      · exact .inl h
      · exact .inr ⟨i, by omega, h⟩
/-- no round gains where steps come to rest -/
theorem rest_gain {f : Nat → Nat → Int} {p : Nat} {y : Nat → Int} (h : ∀ i j, i < p → j < p → y i + f i j ≤ y j) {way : List Nat} (hw : ∀ i ∈ way, i < p) : evC f (nxt way) ≤ 0 := by
  have h1 : ∀ c ∈ nxt way, f c.1 c.2 ≤ y c.2 - y c.1 := by
    intro c hc
    have a := (List.of_mem_zip hc).1
    have b : c.2 ∈ way := by
      rcases List.mem_append.mp (List.of_mem_zip hc).2 with z | z
      · exact List.mem_of_mem_drop z
      · exact List.mem_of_mem_take z
    have := h c.1 c.2 (hw _ a) (hw _ b)
    omega
  have h2 : evC f (nxt way) ≤ ((nxt way).map fun c => y c.2 - y c.1).sum := by
    unfold evC
    generalize nxt way = L at h1
    induction L with
    | nil => exact Int.le_refl _
    | cons c L ih =>
      rw [List.map_cons, List.map_cons, List.sum_cons, List.sum_cons]
      have := h1 c (List.mem_cons_self ..)
      have := ih fun c hc => h1 c (List.mem_cons_of_mem _ hc)
      omega
  have hl : way.length = (way.drop 1 ++ way.take 1).length := by
    rw [List.length_append, List.length_drop, List.length_take]
    omega
  have h3 : ((nxt way).map fun c => y c.2 - y c.1).sum = 0 := by
    rw [sum_sub (fun c : Nat × Nat => y c.2) (fun c => y c.1)]
    have e1 : (nxt way).map (fun c => y c.1) = way.map y := by
      unfold nxt
      rw [show (fun c : Nat × Nat => y c.1) = y ∘ Prod.fst from rfl, ← List.map_map, List.map_fst_zip (by omega)]
    have e2 : (nxt way).map (fun c => y c.2) = (way.drop 1 ++ way.take 1).map y := by
      unfold nxt
      rw [show (fun c : Nat × Nat => y c.2) = y ∘ Prod.snd from rfl, ← List.map_map, List.map_snd_zip (by omega)]
    have hp : (way.drop 1 ++ way.take 1).Perm way := by
      have := List.perm_append_comm (l₁ := way.drop 1) (l₂ := way.take 1)
      rw [List.take_append_drop] at this
      exact this
    rw [e1, e2, sum_permI (hp.map y)]
    omega
  omega
end Fd
/-! steps come to rest where no round gains: plain -/
namespace Fd
def ls (p : Nat) : Nat → List (List Nat)
  | 0 => [[]]
  | k + 1 => (ls p k).flatMap fun r => (List.range p).map fun x => r ++ [x]
theorem ls_snoc {p k : Nat} {r : List Nat} {x : Nat} (hr : r ∈ ls p k) (hx : x < p) : r ++ [x] ∈ ls p (k + 1) :=
  List.mem_flatMap.mpr ⟨r, hr, List.mem_map.mpr ⟨x, List.mem_range.mpr hx, rfl⟩⟩
theorem ls_un {p k : Nat} {v : List Nat} (hv : v ∈ ls p (k + 1)) : ∃ r x, r ∈ ls p k ∧ x < p ∧ v = r ++ [x] := by
  obtain ⟨r, hr, h⟩ := List.mem_flatMap.mp (show v ∈ (ls p k).flatMap _ from hv)
  obtain ⟨x, hx, rfl⟩ := List.mem_map.mp h
  exact ⟨r, x, hr, List.mem_range.mp hx, rfl⟩
theorem ls_len {p : Nat} : ∀ {k : Nat} {v : List Nat}, v ∈ ls p k → v.length = k
  | 0, v, h => by rw [List.mem_singleton.mp (show v ∈ [[]] from h)]; rfl
  | k + 1, v, h => by
    obtain ⟨r, x, hr, _, rfl⟩ := ls_un h
    rw [List.length_append, ls_len hr]
    rfl
def steps (v : List Nat) : List (Nat × Nat) := v.zip (v.drop 1)
theorem steps_snoc : ∀ {u : List Nat} (j : Nat), u ≠ [] → steps (u ++ [j]) = steps u ++ [(u.getLastD 0, j)]
  | [], _, h => absurd rfl h
  | [a], j, _ => rfl
  | a :: b :: u, j, _ => by
    have ih := steps_snoc (u := b :: u) j (by simp)
    have e1 : steps (a :: b :: u ++ [j]) = (a, b) :: steps (b :: u ++ [j]) := rfl
    have e2 : steps (a :: b :: u) = (a, b) :: steps (b :: u) := rfl
    rw [e1, e2, ih]
    rfl
def move (v : List Nat) : List (Nat × Nat) := (steps v).filter fun c => c.1 != c.2
theorem evC_filter (f : Nat → Nat → Int) (h0 : ∀ i, f i i = 0) : ∀ L : List (Nat × Nat), evC f (L.filter fun c => c.1 != c.2) = evC f L
  | [] => rfl
  | c :: L => by
    have ih := evC_filter f h0 L
    rw [List.filter_cons]
    have e : evC f (c :: L) = f c.1 c.2 + evC f L := by unfold evC; rw [List.map_cons, List.sum_cons]
    by_cases h : c.1 = c.2
    · rw [if_neg (by simp [h]), ih, e, h, h0]; omega
    · rw [if_pos (by simp [h]), e]
      have e' : evC f (c :: (L.filter fun c => c.1 != c.2)) = f c.1 c.2 + evC f (L.filter fun c => c.1 != c.2) := by unfold evC; rw [List.map_cons, List.sum_cons]
      rw [e', ih]
def cutJ (v : List Nat) : Nat := ((List.range v.length).find? fun j => (v.take j).contains (v.getD j 0)).getD 0
def cutI (v : List Nat) : Nat := v.idxOf (v.getD (cutJ v) 0)
def cutC (v : List Nat) : List Nat :=
  let c := (v.take (cutJ v)).drop (cutI v)
  let m := c.idxOf (c.foldl min 9)
  c.drop m ++ c.take m
def cutW (v : List Nat) : List Nat :=
  let w := v.take (cutI v) ++ v.drop (cutJ v)
  List.replicate (cutJ v - cutI v - 1) (w.headD 0) ++ w
theorem cut_fact : ((List.range 4).all fun q => (ls (q + 1) (q + 2)).all fun v => (ls (q + 1) (q + 1)).contains (cutW v) && (wall (q + 1)).contains (cutC v) && ((cutW v).getLastD 0 == v.getLastD 0) && (move v).isPerm (move (cutW v) ++ (nxt (cutC v)).filter fun c => c.1 != c.2)) = true := by decide +kernel
variable {f : Nat → Nat → Int} {p : Nat}
theorem bf_walk (h0 : ∀ i, f i i = 0) : ∀ (k j : Nat), j < p → ∃ v ∈ ls p (k + 1), v.getLastD 0 = j ∧ bf f p k j = evC f (steps v)
  | 0, j, hj => ⟨[j], ls_snoc (r := []) (k := 0) (List.mem_singleton.mpr rfl) hj, rfl, rfl⟩
  | k + 1, j, hj => by
    have ext : ∀ i, i < p → bfa f (bf f p k) p j = bf f p k i + f i j → ∃ v ∈ ls p (k + 1 + 1), v.getLastD 0 = j ∧ bf f p (k + 1) j = evC f (steps v) := by
      intro i hi e
      obtain ⟨v, hv, hl, ev⟩ := bf_walk h0 k i hi
      have hn : v ≠ [] := fun z => by have := ls_len hv; rw [z] at this; simp at this
      refine ⟨v ++ [j], ls_snoc hv hj, by simp [List.getLastD_eq_getLast?], ?_⟩
      rw [steps_snoc j hn, evC_app, ← ev, hl]
      show bfa f (bf f p k) p j = bf f p k i + evC f [(i, j)]
      rw [e]
      show _ = _ + (f i j + 0)
      omega
    rcases bfa_at (f := f) (x := bf f p k) (j := j) p with e | ⟨i, hi, e⟩
    · exact ext j hj (by rw [e, h0]; omega)
    · exact ext i hi e
theorem walk_le : ∀ (k : Nat) (v : List Nat), v ∈ ls p (k + 1) → evC f (steps v) ≤ bf f p k (v.getLastD 0)
  | 0, v, hv => by
    obtain ⟨r, x, hr, _, rfl⟩ := ls_un hv
    rw [List.mem_singleton.mp (show r ∈ [[]] from hr)]
    exact Int.le_refl _
  | k + 1, v, hv => by
    obtain ⟨r, x, hr, hx, rfl⟩ := ls_un hv
    have hn : r ≠ [] := fun z => by have := ls_len hr; rw [z] at this; simp at this
    have ih := walk_le k r hr
    obtain ⟨r', y, _, hy, er⟩ := ls_un hr
    have el : r.getLastD 0 = y := by rw [er]; simp [List.getLastD_eq_getLast?]
    have st := bfa_st (f := f) (x := bf f p k) (j := x) hy
    rw [steps_snoc x hn, evC_app, el]
    rw [el] at ih
    have e1 : evC f [(y, x)] = f y x := by show f y x + 0 = _; omega
    have e2 : (r ++ [x]).getLastD 0 = x := by simp [List.getLastD_eq_getLast?]
    rw [e1, e2]
    show _ ≤ bfa f (bf f p k) p x
    omega
/-- at rest after so many turns -/
theorem bf_rest (h0 : ∀ i, f i i = 0) (hp1 : 1 ≤ p) (hp : p ≤ 4) (hw : ∀ way ∈ wall p, evC f (nxt way) ≤ 0) {j : Nat} (hj : j < p) : bf f p (p - 1 + 1) j = bf f p (p - 1) j := by
  obtain ⟨k, rfl⟩ : ∃ k, p = k + 1 := ⟨p - 1, by omega⟩
  rw [Nat.add_sub_cancel]
  refine Int.le_antisymm ?_ bfa_ge
  obtain ⟨v, hv, hl, ev⟩ := bf_walk h0 (k + 1) j hj
  have h := List.all_eq_true.mp (List.all_eq_true.mp cut_fact k (List.mem_range.mpr (by omega))) v hv
  rw [Bool.and_eq_true, Bool.and_eq_true, Bool.and_eq_true] at h
  obtain ⟨⟨⟨h1, h2⟩, h3⟩, h4⟩ := h
  have e := evC_perm f h4
  unfold move at e
  rw [evC_app, evC_filter f h0, evC_filter f h0, evC_filter f h0] at e
  have a := hw _ (List.contains_iff_mem.mp h2)
  have b := walk_le (f := f) k _ (List.contains_iff_mem.mp h1)
  rw [beq_iff_eq.mp h3, hl] at b
  rw [ev]
  omega
end Fd
/-! printed by geny.py: what the defs of the law do, over trees -/
namespace K80
open PySem L2 Fd
def XSL : List Str := ["NoFraction", "BadTable", "NoRooms", "NoBids"]
/-- slots: 0 thing -/
def f_is_integer : MS := (sRet (eAnd (eIsi ["int"] (eRd 0)) (eNot (eIsi ["bool"] (eRd 0)))))
theorem ex_is_integer : ∃ m : M, m = mBody 0 f_is_integer := ⟨_, rfl⟩
noncomputable def m_is_integer : M := Classical.choose ex_is_integer
theorem m_is_integer_eq : m_is_integer = mBody 0 f_is_integer := Classical.choose_spec ex_is_integer
/-- slots: 0 thing 1 low 2 high -/
def f_is_within : MS := (sRet (eAnd (eCall m_is_integer (aCons (eVar 0) aNil)) (eChain dLeV dLeV (eRd 1) (eRd 0) (eRd 2))))
theorem ex_is_within : ∃ m : M, m = mBody 0 f_is_within := ⟨_, rfl⟩
noncomputable def m_is_within : M := Classical.choose ex_is_within
theorem m_is_within_eq : m_is_within = mBody 0 f_is_within := Classical.choose_spec ex_is_within
/-- slots: 0 thing -/
def f_is_row : MS := (sRet (eIsi ["list", "tuple"] (eRd 0)))
theorem ex_is_row : ∃ m : M, m = mBody 0 f_is_row := ⟨_, rfl⟩
noncomputable def m_is_row : M := Classical.choose ex_is_row
theorem m_is_row_eq : m_is_row = mBody 0 f_is_row := Classical.choose_spec ex_is_row
/-- slots: 0 one 1 other -/
def f_common_divisor : MS := (sSeq (sMany [0, 1] (nSh (eCB dAbs (aCons (eRd 0) aNil)) (nSh (eCB dAbs (aCons (eRd 1) aNil)) nNil)))
    (sSeq (sWhile (mVal (e2 dGtV (eRd 1) (eC (.int 0)))) (sMany [0, 1] (nSh (eVar 1) (nSh (e2 dMod (eCB dInt (aCons (eRd 0) aNil)) (eRd 1)) nNil))))
    (sRet (eVar 0))))
theorem ex_common_divisor : ∃ m : M, m = mBody 0 f_common_divisor := ⟨_, rfl⟩
noncomputable def m_common_divisor : M := Classical.choose ex_common_divisor
theorem m_common_divisor_eq : m_common_divisor = mBody 0 f_common_divisor := Classical.choose_spec ex_common_divisor
/-- slots: 0 top 1 bottom 2 divisor -/
def f_fraction : MS := (sSeq (sIf (mVal (e2 dEq (eRd 1) (eC (.int 0)))) (sRaise "NoFraction" 0 (fun _ => [(("word" : Str), D.str "nofraction")]) aNil) sNext)
    (sSeq (sIf (mVal (e2 dLtV (eRd 1) (eC (.int 0)))) (sMany [0, 1] (nSh (eNeg (eRd 0)) (nSh (eNeg (eRd 1)) nNil))) sNext)
    (sSeq (sAsg (eCallN m_common_divisor (aCons (eVar 0) (aCons (eVar 1) aNil))) (gdName 2))
    (sRet (eTup (aCons (e2 dFdiv (eRd 0) (eRd 2)) (aCons (e2 dFdiv (eRd 1) (eRd 2)) aNil)))))))
theorem ex_fraction : ∃ m : M, m = mBody 1 f_fraction := ⟨_, rfl⟩
noncomputable def m_fraction : M := Classical.choose ex_fraction
theorem m_fraction_eq : m_fraction = mBody 1 f_fraction := Classical.choose_spec ex_fraction
/-- slots: 0 thing 1 one -/
def f_is_fraction : MS := (sSeq (sIf (mOr (mNot (mTru (eIsi ["tuple"] (eRd 0)))) (mOr (mVal (e2 dNe (eCB dLen (aCons (eRd 0) aNil)) (eC (.int 2)))) (mNot (mTru (eCB dAll (aCons (eNew (fLc (fSeq (eRd 0)) (gdName 1) mYes (eCall m_is_integer (aCons (eVar 1) aNil)) [1])) aNil)))))) (sRet (eC (.bl false))) sNext)
    (sRet (eAnd (e2 dGtV (e2 dIx (eRd 0) (eC (.int 1))) (eC (.int 0))) (e2 dEq (eCall m_common_divisor (aCons (e2 dIx (eRd 0) (eC (.int 0))) (aCons (e2 dIx (eRd 0) (eC (.int 1))) aNil))) (eC (.int 1))))))
theorem ex_is_fraction : ∃ m : M, m = mBody 1 f_is_fraction := ⟨_, rfl⟩
noncomputable def m_is_fraction : M := Classical.choose ex_is_fraction
theorem m_is_fraction_eq : m_is_fraction = mBody 1 f_is_fraction := Classical.choose_spec ex_is_fraction
/-- slots: 0 one 1 other -/
def f_plus : MS := (sRet (eCall m_fraction (aCons (e2 dAdd (e2 dMulT (e2 dIx (eRd 0) (eC (.int 0))) (e2 dIx (eRd 1) (eC (.int 1)))) (e2 dMulT (e2 dIx (eRd 1) (eC (.int 0))) (e2 dIx (eRd 0) (eC (.int 1))))) (aCons (e2 dMulT (e2 dIx (eRd 0) (eC (.int 1))) (e2 dIx (eRd 1) (eC (.int 1)))) aNil))))
theorem ex_plus : ∃ m : M, m = mBody 0 f_plus := ⟨_, rfl⟩
noncomputable def m_plus : M := Classical.choose ex_plus
theorem m_plus_eq : m_plus = mBody 0 f_plus := Classical.choose_spec ex_plus
/-- slots: 0 one 1 other -/
def f_minus : MS := (sRet (eCall m_fraction (aCons (e2 dSub (e2 dMulT (e2 dIx (eRd 0) (eC (.int 0))) (e2 dIx (eRd 1) (eC (.int 1)))) (e2 dMulT (e2 dIx (eRd 1) (eC (.int 0))) (e2 dIx (eRd 0) (eC (.int 1))))) (aCons (e2 dMulT (e2 dIx (eRd 0) (eC (.int 1))) (e2 dIx (eRd 1) (eC (.int 1)))) aNil))))
theorem ex_minus : ∃ m : M, m = mBody 0 f_minus := ⟨_, rfl⟩
noncomputable def m_minus : M := Classical.choose ex_minus
theorem m_minus_eq : m_minus = mBody 0 f_minus := Classical.choose_spec ex_minus
/-- slots: 0 one 1 other -/
def f_less : MS := (sRet (e2 dLtV (e2 dMulT (e2 dIx (eRd 0) (eC (.int 0))) (e2 dIx (eRd 1) (eC (.int 1)))) (e2 dMulT (e2 dIx (eRd 1) (eC (.int 0))) (e2 dIx (eRd 0) (eC (.int 1))))))
theorem ex_less : ∃ m : M, m = mBody 0 f_less := ⟨_, rfl⟩
noncomputable def m_less : M := Classical.choose ex_less
theorem m_less_eq : m_less = mBody 0 f_less := Classical.choose_spec ex_less
/-- slots: 0 some 1 found 2 one -/
def f_total : MS := (sSeq (sAsg (eC (.tup [.int (0), .int (1)])) (gdName 1))
    (sSeq (sFor (fSeq (eVar 0)) (gdName 2) (sAsg (eCall m_plus (aCons (eVar 1) (aCons (eVar 2) aNil))) (gdName 1)))
    (sRet (eVar 1))))
theorem ex_total : ∃ m : M, m = mBody 2 f_total := ⟨_, rfl⟩
noncomputable def m_total : M := Classical.choose ex_total
theorem m_total_eq : m_total = mBody 2 f_total := Classical.choose_spec ex_total
/-- slots: 0 self 1 rows 2 place 3 row 4 one -/
def f_Table : MS := (sSeq (sIf (mOr (mNot (mTru (eCallN m_is_row (aCons (eVar 1) aNil)))) (mNot (mVal (eChain dLeV dLeV (eC (.int 1)) (eCB dLen (aCons (eRd 1) aNil)) (eC (.int (5))))))) (sRaise "BadTable" 1 (fun ds => ds.map (fun d => (("place" : Str), d)) ++ [(("word" : Str), D.str "badtable")]) (aCons (eNeg (eC (.int 1))) aNil)) sNext)
    (sSeq (sFor (fEnum (eVar 1)) (gdTup 2 (gdCons (gdName 2) (gdCons (gdName 3) gdNil))) (sSeq (sIf (mOr (mNot (mTru (eCallN m_is_row (aCons (eVar 3) aNil)))) (mOr (mVal (e2 dGtV (eCB dLen (aCons (eRd 3) aNil)) (eC (.int (9))))) (mOr (mNot (mTru (eCallN m_is_row (aCons (e2 dIx (eRd 1) (eC (.int 0))) aNil)))) (mVal (e2 dNe (eCB dLen (aCons (eRd 3) aNil)) (eCB dLen (aCons (e2 dIx (eRd 1) (eC (.int 0))) aNil))))))) (sRaise "BadTable" 1 (fun ds => ds.map (fun d => (("place" : Str), d)) ++ [(("word" : Str), D.str "badtable")]) (aCons (eVar 2) aNil)) sNext)
    (sIf (mNot (mTru (eCB dAll (aCons (eNew (fLc (fSeq (eRd 3)) (gdName 4) mYes (eCallN m_is_within (aCons (eVar 4) (aCons (eNeg (eC (.int (100)))) (aCons (eC (.int (100))) aNil)))) [4])) aNil)))) (sRaise "BadTable" 1 (fun ds => ds.map (fun d => (("place" : Str), d)) ++ [(("word" : Str), D.str "badtable")]) (aCons (eVar 2) aNil)) sNext)))
    (sSeq (sSelf2 "Table" 0 "persons" "things" (aCons (eCB dLen (aCons (eRd 1) aNil)) (aCons (eCB dLen (aCons (e2 dIx (eRd 1) (eC (.int 0))) aNil)) aNil)))
    (sSelf "Table" 0 "rows" (eCB dTuple (aCons (eNew (fLc (fSeq (eRd 1)) (gdName 3) mYes (eCB dTuple (aCons (eRd 3) aNil)) [3])) aNil))))))
theorem ex_Table : ∃ m : MI, m = mInit "Table" 3 f_Table := ⟨_, rfl⟩
noncomputable def m_Table : MI := Classical.choose ex_Table
theorem m_Table_eq : m_Table = mInit "Table" 3 f_Table := Classical.choose_spec ex_Table
/-- slots: 0 table 1 thing 2 one -/
def f_is_deal : MS := (sSeq (sIf (mOr (mNot (mTru (eIsi ["tuple"] (eRd 1)))) (mVal (e2 dNe (eCB dLen (aCons (eRd 1) aNil)) (eFld ["Table"] "things" (eRd 0))))) (sRet (eC (.bl false))) sNext)
    (sRet (eCB dAll (aCons (eNew (fLc (fSeq (eRd 1)) (gdName 2) mYes (eCall m_is_within (aCons (eVar 2) (aCons (eC (.int 0)) (aCons (e2 dSub (eFld ["Table"] "persons" (eRd 0)) (eC (.int 1))) aNil)))) [2])) aNil))))
theorem ex_is_deal : ∃ m : M, m = mBody 1 f_is_deal := ⟨_, rfl⟩
noncomputable def m_is_deal : M := Classical.choose ex_is_deal
theorem m_is_deal_eq : m_is_deal = mBody 1 f_is_deal := Classical.choose_spec ex_is_deal
/-- slots: 0 table -/
def f_check_rooms : MS := (sIf (mVal (e2 dNe (eFld ["Table"] "things" (eRd 0)) (eFld ["Table"] "persons" (eRd 0)))) (sRaise "NoRooms" 0 (fun _ => [(("word" : Str), D.str "norooms")]) aNil) sNext)
theorem ex_check_rooms : ∃ m : M, m = mBody 0 f_check_rooms := ⟨_, rfl⟩
noncomputable def m_check_rooms : M := Classical.choose ex_check_rooms
theorem m_check_rooms_eq : m_check_rooms = mBody 0 f_check_rooms := Classical.choose_spec ex_check_rooms
/-- slots: 0 rent -/
def f_check_rent : MS := (sIf (mNot (mTru (eCallN m_is_fraction (aCons (eVar 0) aNil)))) (sRaise "NoFraction" 0 (fun _ => [(("word" : Str), D.str "nofraction")]) aNil) sNext)
theorem ex_check_rent : ∃ m : M, m = mBody 0 f_check_rent := ⟨_, rfl⟩
noncomputable def m_check_rent : M := Classical.choose ex_check_rent
theorem m_check_rent_eq : m_check_rent = mBody 0 f_check_rent := Classical.choose_spec ex_check_rent
/-- slots: 0 table 1 found 2 person 3 longer 4 row 5 room -/
def f_dealings : MS := (sSeq (sDrop (eCall m_check_rooms (aCons (eVar 0) aNil)))
    (sSeq (sAsg (eNew (fLst (aCons (eTup aNil) aNil))) (gdName 1))
    (sSeq (sFor (fRg1 (eFld ["Table"] "persons" (eRd 0))) (gdName 2) (sSeq (sOwn 3 (fLst aNil))
    (sSeq (sFor (fSeq (eVar 1)) (gdName 4) (sExt 3 (eNew (fLc (fRg1 (eFld ["Table"] "things" (eRd 0))) (gdName 5) (mVal (e2 (dInX true) (eRd 5) (eRd 4))) (e2 dAdd (eRd 4) (eTup (aCons (eVar 5) aNil))) [5]))))
    (sStill 3 (sAsg (eVar 3) (gdName 1))))))
    (sRet (eVar 1)))))
theorem ex_dealings : ∃ m : M, m = mBody 5 f_dealings := ⟨_, rfl⟩
noncomputable def m_dealings : M := Classical.choose ex_dealings
theorem m_dealings_eq : m_dealings = mBody 5 f_dealings := Classical.choose_spec ex_dealings
/-- slots: 0 table 1 thing -/
def f_is_dealing : MS := (sSeq (sDrop (eCall m_check_rooms (aCons (eVar 0) aNil)))
    (sRet (eAnd (eCallN m_is_deal (aCons (eVar 0) (aCons (eVar 1) aNil))) (e2 dEq (eNew (fCB dSortedW (aCons (eRd 1) aNil))) (eNew (fLstRg (rRg1 (eFld ["Table"] "things" (eRd 0)))))))))
theorem ex_is_dealing : ∃ m : M, m = mBody 0 f_is_dealing := ⟨_, rfl⟩
noncomputable def m_is_dealing : M := Classical.choose ex_is_dealing
theorem m_is_dealing_eq : m_is_dealing = mBody 0 f_is_dealing := Classical.choose_spec ex_is_dealing
/-- slots: 0 table 1 dealing 2 person 3 room -/
def f_sum_of : MS := (sRet (eCB dSumW (aCons (eNew (fLc (fEnum (eRd 1)) (gdTup 2 (gdCons (gdName 2) (gdCons (gdName 3) gdNil))) mYes (e2 dIx (e2 dIx (eFld ["Table"] "rows" (eRd 0)) (eRd 2)) (eRd 3)) [2, 3])) aNil)))
theorem ex_sum_of : ∃ m : M, m = mBody 2 f_sum_of := ⟨_, rfl⟩
noncomputable def m_sum_of : M := Classical.choose ex_sum_of
theorem m_sum_of_eq : m_sum_of = mBody 2 f_sum_of := Classical.choose_spec ex_sum_of
/-- slots: 0 table 1 best 2 row 3 here -/
def f_best_dealing : MS := (sSeq (sAsg (eC .non) (gdName 1))
    (sSeq (sFor (fSeq (eCall m_dealings (aCons (eVar 0) aNil))) (gdName 2) (sSeq (sAsg (eCallN m_sum_of (aCons (eVar 0) (aCons (eVar 2) aNil))) (gdName 3))
    (sIf (mOr (mVal (e2 dIs (eRd 1) (eC .non))) (mVal (e2 dGtV (eRd 3) (e2 dIx (eRd 1) (eC (.int 0)))))) (sAsg (eTup (aCons (eVar 3) (aCons (eVar 2) aNil))) (gdName 1)) sNext)))
    (sRet (eVar 1))))
theorem ex_best_dealing : ∃ m : M, m = mBody 3 f_best_dealing := ⟨_, rfl⟩
noncomputable def m_best_dealing : M := Classical.choose ex_best_dealing
theorem m_best_dealing_eq : m_best_dealing = mBody 3 f_best_dealing := Classical.choose_spec ex_best_dealing
/-- slots: 0 table 1 dealing 2 many 3 now 4 turn 5 later 6 person 7 room 8 other 9 step -/
def f_lifts : MS := (sSeq (sAsg (eFld ["Table"] "things" (eRd 0)) (gdName 2))
    (sSeq (sAsg (eNew (f2 dMulF (eNew (fLst (aCons (eC (.int 0)) aNil))) (eRd 2))) (gdName 3))
    (sSeq (sFor (fRg1 (e2 dAdd (eRd 2) (eC (.int 1)))) (gdName 4) (sSeq (sOwn 5 (fCB dList (aCons (eRd 3) aNil)))
    (sSeq (sFor (fEnum (eVar 1)) (gdTup 2 (gdCons (gdName 6) (gdCons (gdName 7) gdNil))) (sFor (fRg1 (eVar 2)) (gdName 8) (sSeq (sAsg (e2 dSub (e2 dIx (e2 dIx (eFld ["Table"] "rows" (eRd 0)) (eRd 6)) (eRd 8)) (e2 dIx (e2 dIx (eFld ["Table"] "rows" (eRd 0)) (eRd 6)) (eRd 7))) (gdName 9))
    (sSetI 5 (eVar 8) (eCB dMaxV (aCons (e2 dIx (eRd 5) (eRd 8)) (aCons (e2 dAdd (e2 dIx (eRd 3) (eRd 7)) (eRd 9)) aNil)))))))
    (sSeq (sIf (mVal (e2 dEq (eRd 5) (eRd 3))) (sRet (eCB dTuple (aCons (eRd 3) aNil))) sNext)
    (sStill 5 (sAsg (eVar 5) (gdName 3)))))))
    (sRet (eC .non)))))
theorem ex_lifts : ∃ m : M, m = mBody 8 f_lifts := ⟨_, rfl⟩
noncomputable def m_lifts : M := Classical.choose ex_lifts
theorem m_lifts_eq : m_lifts = mBody 8 f_lifts := Classical.choose_spec ex_lifts
/-- slots: 0 table 1 dealing 2 rent 3 told 4 share 5 one -/
def f_prices : MS := (sSeq (sDrop (eCall m_check_rooms (aCons (eVar 0) aNil)))
    (sSeq (sDrop (eCall m_check_rent (aCons (eVar 2) aNil)))
    (sSeq (sIf (mNot (mTru (eCall m_is_dealing (aCons (eVar 0) (aCons (eVar 1) aNil))))) (sRet (eC .non)) sNext)
    (sSeq (sAsg (eCallN m_lifts (aCons (eVar 0) (aCons (eVar 1) aNil))) (gdName 3))
    (sSeq (sIf (mVal (e2 dIs (eRd 3) (eC .non))) (sRet (eC .non)) sNext)
    (sSeq (sAsg (eCall m_fraction (aCons (e2 dSub (e2 dIx (eRd 2) (eC (.int 0))) (e2 dMulT (eCB dSumW (aCons (eRd 3) aNil)) (e2 dIx (eRd 2) (eC (.int 1))))) (aCons (e2 dMulT (e2 dIx (eRd 2) (eC (.int 1))) (eFld ["Table"] "things" (eRd 0))) aNil))) (gdName 4))
    (sRet (eCB dTuple (aCons (eNew (fLc (fSeq (eRd 3)) (gdName 5) mYes (eCall m_plus (aCons (eTup (aCons (eVar 5) (aCons (eC (.int 1)) aNil))) (aCons (eVar 4) aNil))) [5])) aNil)))))))))
theorem ex_prices : ∃ m : M, m = mBody 3 f_prices := ⟨_, rfl⟩
noncomputable def m_prices : M := Classical.choose ex_prices
theorem m_prices_eq : m_prices = mBody 3 f_prices := Classical.choose_spec ex_prices
/-- slots: 0 table 1 rent 2 dealing -/
def f_calm_rents : MS := (sSeq (sDrop (eCall m_check_rooms (aCons (eVar 0) aNil)))
    (sSeq (sDrop (eCall m_check_rent (aCons (eVar 1) aNil)))
    (sSeq (sAsg (e2 dIx (eCall m_best_dealing (aCons (eVar 0) aNil)) (eC (.int 1))) (gdName 2))
    (sRet (eTup (aCons (eVar 2) (aCons (eCall m_prices (aCons (eVar 0) (aCons (eVar 2) (aCons (eVar 1) aNil)))) aNil)))))))
theorem ex_calm_rents : ∃ m : M, m = mBody 1 f_calm_rents := ⟨_, rfl⟩
noncomputable def m_calm_rents : M := Classical.choose ex_calm_rents
theorem m_calm_rents_eq : m_calm_rents = mBody 1 f_calm_rents := Classical.choose_spec ex_calm_rents
/-- slots: 0 table 1 dealing 2 told 3 person 4 room -/
def f_left_for : MS := (sSeq (sDrop (eCall m_check_rooms (aCons (eVar 0) aNil)))
    (sRet (eCB dTuple (aCons (eNew (fLc (fEnum (eRd 1)) (gdTup 2 (gdCons (gdName 3) (gdCons (gdName 4) gdNil))) mYes (eCall m_minus (aCons (eTup (aCons (e2 dIx (e2 dIx (eFld ["Table"] "rows" (eRd 0)) (eRd 3)) (eRd 4)) (aCons (eC (.int 1)) aNil))) (aCons (e2 dIx (eRd 2) (eRd 4)) aNil))) [3, 4])) aNil))))
theorem ex_left_for : ∃ m : M, m = mBody 2 f_left_for := ⟨_, rfl⟩
noncomputable def m_left_for : M := Classical.choose ex_left_for
theorem m_left_for_eq : m_left_for = mBody 2 f_left_for := Classical.choose_spec ex_left_for
/-- slots: 0 table 1 dealing 2 ways 3 found 4 later 5 way 6 gain 7 one 8 other 9 person -/
def f_ring : MS := (sSeq (sDrop (eCall m_check_rooms (aCons (eVar 0) aNil)))
    (sSeq (sAsg (eNew (fLc (fRg1 (eFld ["Table"] "persons" (eRd 0))) (gdName 9) mYes (eTup (aCons (eVar 9) aNil)) [9])) (gdName 2))
    (sSeq (sWhile (mVal (e2 dNe (eRd 2) (eNew (fLst aNil)))) (sSeq (sMany [3, 4] (nOl (fLst aNil) (nOl (fLst aNil) nNil)))
    (sSeq (sFor (fSeq (eVar 2)) (gdName 5) (sSeq (sAsg (eC (.int 0)) (gdName 6))
    (sSeq (sFor (fZip (eVar 5) (e2 dAdd (eSl (eRd 5) (oSome (eC (.int 1))) oNone) (eSl (eRd 5) oNone (oSome (eC (.int 1)))))) (gdTup 2 (gdCons (gdName 7) (gdCons (gdName 8) gdNil))) (sAugI 6 (fun i j => i + j) (e2 dSub (e2 dIx (e2 dIx (eFld ["Table"] "rows" (eRd 0)) (eRd 7)) (e2 dIx (eRd 1) (eRd 8))) (e2 dIx (e2 dIx (eFld ["Table"] "rows" (eRd 0)) (eRd 7)) (e2 dIx (eRd 1) (eRd 7))))))
    (sSeq (sExt 3 (eIf (mAnd (mVal (e2 dGtV (eRd 6) (eC (.int 0)))) (mVal (e2 dGtV (eCB dLen (aCons (eRd 5) aNil)) (eC (.int 1))))) (eNew (fLst (aCons (eVar 5) aNil))) (eNew (fLst aNil))))
    (sExt 4 (eNew (fLc (fRg1 (eFld ["Table"] "persons" (eRd 0))) (gdName 8) (mAnd (mVal (e2 dGtV (eRd 8) (e2 dIx (eRd 5) (eC (.int 0))))) (mVal (e2 (dInX true) (eRd 8) (eRd 5)))) (e2 dAdd (eRd 5) (eTup (aCons (eVar 8) aNil))) [8])))))))
    (sSeq (sIf (mVal (e2 dNe (eRd 3) (eNew (fLst aNil)))) (sRet (eCB dMinV (aCons (eRd 3) aNil))) sNext)
    (sStill 4 (sAsg (eVar 4) (gdName 2)))))))
    (sRet (eC .non)))))
theorem ex_ring : ∃ m : M, m = mBody 8 f_ring := ⟨_, rfl⟩
noncomputable def m_ring : M := Classical.choose ex_ring
theorem m_ring_eq : m_ring = mBody 8 f_ring := Classical.choose_spec ex_ring
/-- slots: 0 told 1 rent -/
def f_come_to : MS := (sSeq (sIf (mNot (mTru (eCallN m_is_row (aCons (eVar 0) aNil)))) (sRaise "NoFraction" 0 (fun _ => [(("word" : Str), D.str "nofraction")]) aNil) sNext)
    (sRet (eIf (mVal (e2 dNe (eNew (fCB dList (aCons (eRd 0) aNil))) (eNew (fLst aNil)))) (e2 dEq (eCall m_total (aCons (eNew (fCB dList (aCons (eRd 0) aNil))) aNil)) (eRd 1)) (e2 dEq (eRd 1) (eC (.tup [.int (0), .int (1)]))))))
theorem ex_come_to : ∃ m : M, m = mBody 0 f_come_to := ⟨_, rfl⟩
noncomputable def m_come_to : M := Classical.choose ex_come_to
theorem m_come_to_eq : m_come_to = mBody 0 f_come_to := Classical.choose_spec ex_come_to
/-- slots: 0 table 1 thing 2 one -/
def f_are_pays : MS := (sSeq (sIf (mOr (mNot (mTru (eIsi ["tuple"] (eRd 1)))) (mOr (mVal (e2 dNe (eCB dLen (aCons (eRd 1) aNil)) (eFld ["Table"] "persons" (eRd 0)))) (mNot (mTru (eCB dAll (aCons (eNew (fLc (fSeq (eRd 1)) (gdName 2) mYes (eCallN m_is_fraction (aCons (eVar 2) aNil)) [2])) aNil)))))) (sRet (eC (.bl false))) sNext)
    (sRet (e2 dEq (eCall m_total (aCons (eNew (fCB dList (aCons (eRd 1) aNil))) aNil)) (eC (.tup [.int (0), .int (1)])))))
theorem ex_are_pays : ∃ m : M, m = mBody 1 f_are_pays := ⟨_, rfl⟩
noncomputable def m_are_pays : M := Classical.choose ex_are_pays
theorem m_are_pays_eq : m_are_pays = mBody 1 f_are_pays := Classical.choose_spec ex_are_pays
/-- slots: 0 table 1 deal 2 pays 3 found 4 person 5 gain 6 one 7 owner -/
def f_left_with : MS := (sSeq (sIf (mOr (mNot (mTru (eCallN m_is_deal (aCons (eVar 0) (aCons (eVar 1) aNil))))) (mNot (mTru (eCall m_are_pays (aCons (eVar 0) (aCons (eVar 2) aNil)))))) (sRaise "NoBids" 0 (fun _ => [(("word" : Str), D.str "nobids")]) aNil) sNext)
    (sSeq (sOwn 3 (fLst aNil))
    (sSeq (sFor (fRg1 (eFld ["Table"] "persons" (eRd 0))) (gdName 4) (sSeq (sAsg (eCB dSumW (aCons (eNew (fLc (fEnum (eRd 1)) (gdTup 2 (gdCons (gdName 6) (gdCons (gdName 7) gdNil))) (mVal (e2 dEq (eRd 7) (eRd 4))) (e2 dIx (e2 dIx (eFld ["Table"] "rows" (eRd 0)) (eRd 4)) (eRd 6)) [6, 7])) aNil)) (gdName 5))
    (sApp 3 (eCall m_minus (aCons (eTup (aCons (eVar 5) (aCons (eC (.int 1)) aNil))) (aCons (e2 dIx (eRd 2) (eRd 4)) aNil))))))
    (sRet (eCB dTuple (aCons (eRd 3) aNil))))))
theorem ex_left_with : ∃ m : M, m = mBody 5 f_left_with := ⟨_, rfl⟩
noncomputable def m_left_with : M := Classical.choose ex_left_with
theorem m_left_with_eq : m_left_with = mBody 5 f_left_with := Classical.choose_spec ex_left_with
/-- slots: 0 table 1 deal 2 pays 3 found 4 person 5 row 6 other 7 gain 8 one 9 owner -/
def f_money_envy : MS := (sSeq (sIf (mOr (mNot (mTru (eCallN m_is_deal (aCons (eVar 0) (aCons (eVar 1) aNil))))) (mNot (mTru (eCall m_are_pays (aCons (eVar 0) (aCons (eVar 2) aNil)))))) (sRaise "NoBids" 0 (fun _ => [(("word" : Str), D.str "nobids")]) aNil) sNext)
    (sSeq (sOwn 3 (fLst aNil))
    (sSeq (sFor (fRg1 (eFld ["Table"] "persons" (eRd 0))) (gdName 4) (sSeq (sOwn 5 (fLst aNil))
    (sSeq (sFor (fRg1 (eFld ["Table"] "persons" (eRd 0))) (gdName 6) (sSeq (sAsg (eCB dSumW (aCons (eNew (fLc (fEnum (eRd 1)) (gdTup 2 (gdCons (gdName 8) (gdCons (gdName 9) gdNil))) (mVal (e2 dEq (eRd 9) (eRd 6))) (e2 dIx (e2 dIx (eFld ["Table"] "rows" (eRd 0)) (eRd 4)) (eRd 8)) [8, 9])) aNil)) (gdName 7))
    (sApp 5 (eCall m_minus (aCons (eTup (aCons (eVar 7) (aCons (eC (.int 1)) aNil))) (aCons (e2 dIx (eRd 2) (eRd 6)) aNil))))))
    (sExt 3 (eNew (fLc (fRg1 (eFld ["Table"] "persons" (eRd 0))) (gdName 6) (mTru (eCallN m_less (aCons (e2 dIx (eRd 5) (eRd 4)) (aCons (e2 dIx (eRd 5) (eRd 6)) aNil)))) (eTup (aCons (eVar 4) (aCons (eVar 6) aNil))) [6]))))))
    (sStill 3 (sRet (eVar 3))))))
theorem ex_money_envy : ∃ m : M, m = mBody 7 f_money_envy := ⟨_, rfl⟩
noncomputable def m_money_envy : M := Classical.choose ex_money_envy
theorem m_money_envy_eq : m_money_envy = mBody 7 f_money_envy := Classical.choose_spec ex_money_envy
/-- slots: 0 table 1 deal 2 worths 3 person 4 row 5 one 6 owner 7 now 8 turn 9 later 10 other 11 mean -/
def f_calm_pays : MS := (sSeq (sIf (mNot (mTru (eCallN m_is_deal (aCons (eVar 0) (aCons (eVar 1) aNil))))) (sRaise "NoBids" 0 (fun _ => [(("word" : Str), D.str "nobids")]) aNil) sNext)
    (sSeq (sOwn 2 (fLst aNil))
    (sSeq (sFor (fRg1 (eFld ["Table"] "persons" (eRd 0))) (gdName 3) (sSeq (sOwn 4 (f2 dMulF (eNew (fLst (aCons (eC (.int 0)) aNil))) (eFld ["Table"] "persons" (eRd 0))))
    (sSeq (sFor (fEnum (eVar 1)) (gdTup 2 (gdCons (gdName 5) (gdCons (gdName 6) gdNil))) (sAugSI 4 (fun i j => i + j) (eVar 6) (e2 dIx (e2 dIx (eFld ["Table"] "rows" (eRd 0)) (eRd 3)) (eRd 5))))
    (sStill 4 (sApp 2 (eVar 4))))))
    (sSeq (sAsg (eNew (f2 dMulF (eNew (fLst (aCons (eC (.int 0)) aNil))) (eFld ["Table"] "persons" (eRd 0)))) (gdName 7))
    (sSeq (sFor (fRg1 (e2 dAdd (eFld ["Table"] "persons" (eRd 0)) (eC (.int 1)))) (gdName 8) (sSeq (sOwn 9 (fCB dList (aCons (eRd 7) aNil)))
    (sSeq (sFor (fRg1 (eFld ["Table"] "persons" (eRd 0))) (gdName 3) (sFor (fRg1 (eFld ["Table"] "persons" (eRd 0))) (gdName 10) (sSetI 9 (eVar 10) (eCB dMaxV (aCons (e2 dIx (eRd 9) (eRd 10)) (aCons (e2 dSub (e2 dAdd (e2 dIx (eRd 7) (eRd 3)) (e2 dIx (e2 dIx (eRd 2) (eRd 3)) (eRd 10))) (e2 dIx (e2 dIx (eRd 2) (eRd 3)) (eRd 3))) aNil))))))
    (sSeq (sIf (mVal (e2 dEq (eRd 9) (eRd 7))) (sSeq (sAsg (eCall m_fraction (aCons (eCB dSumW (aCons (eRd 7) aNil)) (aCons (eFld ["Table"] "persons" (eRd 0)) aNil))) (gdName 11))
    (sRet (eCB dTuple (aCons (eNew (fLc (fSeq (eRd 7)) (gdName 5) mYes (eCall m_minus (aCons (eTup (aCons (eVar 5) (aCons (eC (.int 1)) aNil))) (aCons (eVar 11) aNil))) [5])) aNil)))) sNext)
    (sStill 9 (sAsg (eVar 9) (gdName 7)))))))
    (sRet (eC .non)))))))
theorem ex_calm_pays : ∃ m : M, m = mBody 10 f_calm_pays := ⟨_, rfl⟩
noncomputable def m_calm_pays : M := Classical.choose ex_calm_pays
theorem m_calm_pays_eq : m_calm_pays = mBody 10 f_calm_pays := Classical.choose_spec ex_calm_pays
/-- slots: 0 script 1 cells 2 cell -/
def f__law_hand : MS := (sSeq (sAsg (eNew (fLc (fSeq (eSl (eRd 0) oNone (oSome (eC (.int 63))))) (gdName 2) mYes (eCB dAbs (aCons (eCB dInt (aCons (eRd 2) aNil)) aNil)) [2])) (gdName 1))
    (sRet (eNew (fLst (aCons (eVar 1) (aCons (eC (.int 0)) (aCons (eC (.int 0)) (aCons (e2 dAdd (eC (.int 71)) (e2 dMulT (eC (.int 11)) (eCB dLen (aCons (eRd 1) aNil)))) (aCons (eC (.int 0)) aNil)))))))))
theorem ex__law_hand : ∃ m : M, m = mBody 2 f__law_hand := ⟨_, rfl⟩
noncomputable def m__law_hand : M := Classical.choose ex__law_hand
theorem m__law_hand_eq : m__law_hand = mBody 2 f__law_hand := Classical.choose_spec ex__law_hand
/-- slots: 0 hand 1 many 2 cell 3 digit 4 number -/
def f__law_draw : MS := (sSeq (sIf (mAnd (mVal (e2 dEq (e2 dIx (eRd 0) (eC (.int 2))) (eC (.int 0)))) (mVal (e2 dLtV (e2 dIx (eRd 0) (eC (.int 1))) (eCB dLen (aCons (e2 dIx (eRd 0) (eC (.int 0))) aNil))))) (sSeq (sAsg (e2 dIx (e2 dIx (eRd 0) (eC (.int 0))) (e2 dIx (eRd 0) (eC (.int 1)))) (gdName 2))
    (sSeq (sSetH 0 (eC (.int 1)) (e2 dAdd (e2 dIx (eRd 0) (eC (.int 1))) (eC (.int 1))))
    (sSeq (sSetH 0 (eC (.int 3)) (e2 dMod (eCB dInt (aCons (e2 dAdd (e2 dAdd (e2 dMulT (e2 dIx (eRd 0) (eC (.int 3))) (eC (.int 69621))) (eRd 2)) (eC (.int 23))) aNil)) (eC (.int 2147483629))))
    (sIf (mVal (e2 dGeV (eRd 2) (e2 dPow (eC (.int 10)) (eC (.int 18))))) (sSetH 0 (eC (.int 2)) (eVar 2)) sNext)))) sNext)
    (sSeq (sIf (mVal (e2 dGtV (e2 dIx (eRd 0) (eC (.int 2))) (eC (.int 0)))) (sSeq (sAsg (e2 dMod (eCB dInt (aCons (e2 dIx (eRd 0) (eC (.int 2))) aNil)) (eRd 1)) (gdName 3))
    (sSeq (sSetH 0 (eC (.int 2)) (e2 dFdiv (e2 dIx (eRd 0) (eC (.int 2))) (eRd 1)))
    (sRet (eVar 3)))) sNext)
    (sSeq (sSetH 0 (eC (.int 4)) (e2 dAdd (e2 dIx (eRd 0) (eC (.int 4))) (eC (.int 1))))
    (sSeq (sAsg (e2 dMod (eCB dInt (aCons (e2 dMulT (eCB dInt (aCons (e2 dAdd (e2 dIx (eRd 0) (eC (.int 3))) (e2 dMulT (eC (.int 7919)) (e2 dIx (eRd 0) (eC (.int 4))))) aNil)) (eC (.int 48271))) aNil)) (eC (.int 2147483647))) (gdName 4))
    (sSeq (sAsg (e2 dMod (eCB dInt (aCons (e2 dMulT (eRd 4) (e2 dAdd (e2 dFdiv (eRd 4) (eC (.int 1009))) (eC (.int 69621)))) aNil)) (eC (.int 2147483647))) (gdName 4))
    (sSeq (sAsg (e2 dMod (eCB dInt (aCons (e2 dMulT (eRd 4) (e2 dAdd (e2 dFdiv (eRd 4) (eC (.int 2003))) (eC (.int 40692)))) aNil)) (eC (.int 2147483399))) (gdName 4))
    (sRet (e2 dMod (eCB dInt (aCons (e2 dFdiv (eRd 4) (eC (.int 16))) aNil)) (eRd 1)))))))))
def drawMore : Nat := 3
abbrev m__law_draw : M := mDraw
/-- slots: 0 hand 1 things -/
def f__law_some : MS := (sRet (e2 dIx (eRd 1) (eCall m__law_draw (aCons (eVar 0) (aCons (eCB dLen (aCons (eRd 1) aNil)) aNil)))))
theorem ex__law_some : ∃ m : M, m = mBody 0 f__law_some := ⟨_, rfl⟩
noncomputable def m__law_some : M := Classical.choose ex__law_some
theorem m__law_some_eq : m__law_some = mBody 0 f__law_some := Classical.choose_spec ex__law_some
/-- slots: 0 got 1 due 2 one 3 other -/
def f__law_is (m : M) : MS := (sSeq (sIf (mTru (eIsi ["tuple", "list"] (eRd 1))) (sSeq (sIf (mVal (e2 dNe (eIsi ["tuple"] (eRd 0)) (eIsi ["tuple"] (eRd 1)))) (sRet (eC (.bl false))) sNext)
    (sSeq (sIf (mOr (mVal (e2 dNe (eIsi ["list"] (eRd 0)) (eIsi ["list"] (eRd 1)))) (mVal (e2 dNe (eCB dLen (aCons (eRd 0) aNil)) (eCB dLen (aCons (eRd 1) aNil))))) (sRet (eC (.bl false))) sNext)
    (sRet (eCB dAll (aCons (eNew (fLc (fZip (eRd 0) (eRd 1)) (gdTup 2 (gdCons (gdName 2) (gdCons (gdName 3) gdNil))) mYes (eCall m (aCons (eVar 2) (aCons (eVar 3) aNil))) [2, 3])) aNil))))) sNext)
    (sSeq (sIf (mOr (mVal (e2 dIs (eRd 1) (eC .non))) (mVal (e2 dIs (eRd 0) (eC .non)))) (sRet (eAnd (e2 dIs (eRd 1) (eC .non)) (e2 dIs (eRd 0) (eC .non)))) sNext)
    (sSeq (sIf (mVal (e2 dNe (eIsi ["bool"] (eRd 0)) (eIsi ["bool"] (eRd 1)))) (sRet (eC (.bl false))) sNext)
    (sRet (eAnd (e2 dEq (eIsi ["str"] (eRd 0)) (eIsi ["str"] (eRd 1))) (e2 dEq (eRd 0) (eRd 1)))))))
theorem ex__law_is : ∃ g : Nat → M, g = recM 2 f__law_is := ⟨_, rfl⟩
noncomputable def m__law_is : Nat → M := Classical.choose ex__law_is
theorem m__law_is_is : m__law_is = recM 2 f__law_is := Classical.choose_spec ex__law_is
theorem m__law_is_eq (k : Nat) : m__law_is (k + 1) = mBody 2 (f__law_is (m__law_is k)) := by rw [m__law_is_is]; rfl
theorem m__law_is_0 : m__law_is 0 = fun _ _ _ => False := by rw [m__law_is_is]; rfl
/-- slots: 0 top 1 bottom 2 one 3 other 4 sign -/
def f__law_cut : MS := (sSeq (sMany [2, 3] (nSh (eCB dAbs (aCons (eRd 0) aNil)) (nSh (eCB dAbs (aCons (eRd 1) aNil)) nNil)))
    (sSeq (sWhile (mVal (e2 dNe (eRd 3) (eC (.int 0)))) (sMany [2, 3] (nSh (eVar 3) (nSh (e2 dMod (eCB dInt (aCons (eRd 2) aNil)) (eRd 3)) nNil))))
    (sSeq (sAsg (eIf (mVal (e2 dGtV (eRd 1) (eC (.int 0)))) (eVar 2) (e2 dSub (eC (.int 0)) (eRd 2))) (gdName 4))
    (sRet (eTup (aCons (e2 dFdiv (eRd 0) (eRd 4)) (aCons (e2 dFdiv (eRd 1) (eRd 4)) aNil)))))))
theorem ex__law_cut : ∃ m : M, m = mBody 3 f__law_cut := ⟨_, rfl⟩
noncomputable def m__law_cut : M := Classical.choose ex__law_cut
theorem m__law_cut_eq : m__law_cut = mBody 3 f__law_cut := Classical.choose_spec ex__law_cut
/-- slots: 0 one 1 other -/
def f__law_plus : MS := (sRet (eCall m__law_cut (aCons (e2 dAdd (e2 dMulT (e2 dIx (eRd 0) (eC (.int 0))) (e2 dIx (eRd 1) (eC (.int 1)))) (e2 dMulT (e2 dIx (eRd 1) (eC (.int 0))) (e2 dIx (eRd 0) (eC (.int 1))))) (aCons (e2 dMulT (e2 dIx (eRd 0) (eC (.int 1))) (e2 dIx (eRd 1) (eC (.int 1)))) aNil))))
theorem ex__law_plus : ∃ m : M, m = mBody 0 f__law_plus := ⟨_, rfl⟩
noncomputable def m__law_plus : M := Classical.choose ex__law_plus
theorem m__law_plus_eq : m__law_plus = mBody 0 f__law_plus := Classical.choose_spec ex__law_plus
/-- slots: 0 one 1 other -/
def f__law_minus : MS := (sRet (eCall m__law_cut (aCons (e2 dSub (e2 dMulT (e2 dIx (eRd 0) (eC (.int 0))) (e2 dIx (eRd 1) (eC (.int 1)))) (e2 dMulT (e2 dIx (eRd 1) (eC (.int 0))) (e2 dIx (eRd 0) (eC (.int 1))))) (aCons (e2 dMulT (e2 dIx (eRd 0) (eC (.int 1))) (e2 dIx (eRd 1) (eC (.int 1)))) aNil))))
theorem ex__law_minus : ∃ m : M, m = mBody 0 f__law_minus := ⟨_, rfl⟩
noncomputable def m__law_minus : M := Classical.choose ex__law_minus
theorem m__law_minus_eq : m__law_minus = mBody 0 f__law_minus := Classical.choose_spec ex__law_minus
/-- slots: 0 one 1 other -/
def f__law_less : MS := (sRet (e2 dLtV (e2 dMulT (e2 dIx (eRd 0) (eC (.int 0))) (e2 dIx (eRd 1) (eC (.int 1)))) (e2 dMulT (e2 dIx (eRd 1) (eC (.int 0))) (e2 dIx (eRd 0) (eC (.int 1))))))
theorem ex__law_less : ∃ m : M, m = mBody 0 f__law_less := ⟨_, rfl⟩
noncomputable def m__law_less : M := Classical.choose ex__law_less
theorem m__law_less_eq : m__law_less = mBody 0 f__law_less := Classical.choose_spec ex__law_less
/-- slots: 0 some 1 found 2 one -/
def f__law_total : MS := (sSeq (sAsg (eTup (aCons (eC (.int 0)) (aCons (eC (.int 1)) aNil))) (gdName 1))
    (sSeq (sFor (fSeq (eVar 0)) (gdName 2) (sAsg (eCall m__law_plus (aCons (eVar 1) (aCons (eVar 2) aNil))) (gdName 1)))
    (sRet (eVar 1))))
theorem ex__law_total : ∃ m : M, m = mBody 2 f__law_total := ⟨_, rfl⟩
noncomputable def m__law_total : M := Classical.choose ex__law_total
theorem m__law_total_eq : m__law_total = mBody 2 f__law_total := Classical.choose_spec ex__law_total
/-- slots: 0 hand 1 persons 2 things 3 low 4 high 5 found 6 person 7 one -/
def f__law_rows : MS := (sSeq (sOwn 5 (fLst aNil))
    (sSeq (sFor (fRg1 (eVar 1)) (gdName 6) (sApp 5 (eCB dTuple (aCons (eNew (fLc (fRg1 (eVar 2)) (gdName 7) mYes (e2 dAdd (eRd 3) (eCall m__law_draw (aCons (eVar 0) (aCons (e2 dAdd (e2 dSub (eRd 4) (eRd 3)) (eC (.int 1))) aNil)))) [7])) aNil))))
    (sRet (eCB dTuple (aCons (eRd 5) aNil)))))
theorem ex__law_rows : ∃ m : M, m = mBody 3 f__law_rows := ⟨_, rfl⟩
noncomputable def m__law_rows : M := Classical.choose ex__law_rows
theorem m__law_rows_eq : m__law_rows = mBody 3 f__law_rows := Classical.choose_spec ex__law_rows
/-- slots: 0 many 1 level 2 turn 3 later 4 row 5 one -/
def f__law_orders : MS := (sSeq (sAsg (eNew (fLst (aCons (eTup aNil) aNil))) (gdName 1))
    (sSeq (sFor (fRg1 (eVar 0)) (gdName 2) (sSeq (sOwn 3 (fLst aNil))
    (sSeq (sFor (fSeq (eVar 1)) (gdName 4) (sExt 3 (eNew (fLc (fRg1 (eVar 0)) (gdName 5) (mVal (e2 (dInX true) (eRd 5) (eRd 4))) (e2 dAdd (eRd 4) (eTup (aCons (eVar 5) aNil))) [5]))))
    (sStill 3 (sAsg (eVar 3) (gdName 1))))))
    (sRet (eVar 1))))
theorem ex__law_orders : ∃ m : M, m = mBody 5 f__law_orders := ⟨_, rfl⟩
noncomputable def m__law_orders : M := Classical.choose ex__law_orders
theorem m__law_orders_eq : m__law_orders = mBody 5 f__law_orders := Classical.choose_spec ex__law_orders
/-- slots: 0 rows 1 dealing 2 told 3 person 4 room 5 own 6 other -/
def f__law_is_calm : MS := (sSeq (sFor (fEnum (eVar 1)) (gdTup 2 (gdCons (gdName 3) (gdCons (gdName 4) gdNil))) (sSeq (sAsg (eCall m__law_minus (aCons (eTup (aCons (e2 dIx (e2 dIx (eRd 0) (eRd 3)) (eRd 4)) (aCons (eC (.int 1)) aNil))) (aCons (e2 dIx (eRd 2) (eRd 4)) aNil))) (gdName 5))
    (sFor (fRg1 (eCB dLen (aCons (eRd 0) aNil))) (gdName 6) (sIf (mTru (eCall m__law_less (aCons (eVar 5) (aCons (eCall m__law_minus (aCons (eTup (aCons (e2 dIx (e2 dIx (eRd 0) (eRd 3)) (eRd 6)) (aCons (eC (.int 1)) aNil))) (aCons (e2 dIx (eRd 2) (eRd 6)) aNil))) aNil)))) (sRet (eC (.bl false))) sNext))))
    (sRet (eC (.bl true))))
theorem ex__law_is_calm : ∃ m : M, m = mBody 4 f__law_is_calm := ⟨_, rfl⟩
noncomputable def m__law_is_calm : M := Classical.choose ex__law_is_calm
theorem m__law_is_calm_eq : m__law_is_calm = mBody 4 f__law_is_calm := Classical.choose_spec ex__law_is_calm
/-- slots: 0 hand 1 many 2 rows 3 table 4 orders 5 sums 6 best 7 at 8 spot 9 dealing 10 rent 11 deal 12 told 13 is_there 14 nought 15 pays 16 left 17 said 18 person 19 room -/
def f__law_is_right : MS := (sSeq (sAsg (e2 dAdd (eC (.int 1)) (eCall m__law_draw (aCons (eVar 0) (aCons (eC (.int 4)) aNil)))) (gdName 1))
    (sSeq (sAsg (eCall m__law_rows (aCons (eVar 0) (aCons (eVar 1) (aCons (eVar 1) (aCons (eC (.int 0)) (aCons (eCall m__law_some (aCons (eVar 0) (aCons (eNew (fLst (aCons (eC (.int 3)) (aCons (eC (.int 30)) aNil)))) aNil))) aNil)))))) (gdName 2))
    (sSeq (sMany [3, 4] (nSh (eMakeN "Table" m_Table (aCons (eVar 2) aNil)) (nSh (eCall m__law_orders (aCons (eVar 1) aNil)) nNil)))
    (sSeq (sAsg (eNew (fLc (fSeq (eRd 4)) (gdName 9) mYes (eCB dSumW (aCons (eNew (fLc (fEnum (eRd 9)) (gdTup 2 (gdCons (gdName 18) (gdCons (gdName 19) gdNil))) mYes (e2 dIx (e2 dIx (eRd 2) (eRd 18)) (eRd 19)) [18, 19])) aNil)) [9])) (gdName 5))
    (sSeq (sAsg (eTup (aCons (eCB dMaxV (aCons (eRd 5) aNil)) (aCons (e2 dIx (eRd 4) (eIndexV (eRd 5) (eCB dMaxV (aCons (eRd 5) aNil)))) aNil))) (gdName 6))
    (sSeq (sIf (mNot (mTru (eCall (m__law_is 6) (aCons (eNew (fLst (aCons (eNew (fCB dList (aCons (eCallN m_dealings (aCons (eVar 3) aNil)) aNil))) (aCons (eCallN m_best_dealing (aCons (eVar 3) aNil)) aNil)))) (aCons (eNew (fLst (aCons (eVar 4) (aCons (eVar 6) aNil)))) aNil))))) (sRet (eC (.bl false))) sNext)
    (sSeq (sAsg (eCall m__law_draw (aCons (eVar 0) (aCons (eCB dLen (aCons (eRd 4) aNil)) aNil))) (gdName 7))
    (sSeq (sFor (fSeq (eTup (aCons (eVar 7) (aCons (eIndexV (eRd 5) (eCB dMaxV (aCons (eRd 5) aNil))) aNil)))) (gdName 8) (sSeq (sMany [9, 10] (nSh (e2 dIx (eRd 4) (eRd 8)) (nSh (eCall m__law_cut (aCons (eCall m__law_draw (aCons (eVar 0) (aCons (eC (.int 200)) aNil))) (aCons (e2 dAdd (eC (.int 1)) (eCall m__law_draw (aCons (eVar 0) (aCons (eC (.int 4)) aNil)))) aNil))) nNil)))
    (sSeq (sAsg (eCB dTuple (aCons (eNew (fLc (fRg1 (eVar 1)) (gdName 19) mYes (eIndexV (eRd 9) (eVar 19)) [19])) aNil)) (gdName 11))
    (sSeq (sMany [12, 13] (nSh (eCallN m_prices (aCons (eVar 3) (aCons (eVar 9) (aCons (eVar 10) aNil)))) (nSh (e2 dEq (e2 dIx (eRd 5) (eRd 8)) (eCB dMaxV (aCons (eRd 5) aNil))) nNil)))
    (sSeq (sIf (mOr (mNot (mTru (eCall (m__law_is 6) (aCons (eCall m_sum_of (aCons (eVar 3) (aCons (eVar 9) aNil))) (aCons (e2 dIx (eRd 5) (eRd 8)) aNil))))) (mVal (e2 dEq (e2 dIs (eRd 12) (eC .non)) (eRd 13)))) (sRet (eC (.bl false))) sNext)
    (sSeq (sIf (mOr (mVal (e2 dNe (e2 dIs (eCallN m_ring (aCons (eVar 3) (aCons (eVar 9) aNil))) (eC .non)) (eRd 13))) (mVal (e2 dEq (e2 dIs (eCallN m_calm_pays (aCons (eVar 3) (aCons (eVar 11) aNil))) (eC .non)) (eRd 13)))) (sRet (eC (.bl false))) sNext)
    (sIf (mTru (eRd 13)) (sSeq (sIf (mOr (mNot (mTru (eCall m__law_is_calm (aCons (eVar 2) (aCons (eVar 9) (aCons (eVar 12) aNil)))))) (mVal (e2 dNe (eCall m__law_total (aCons (eVar 12) aNil)) (eRd 10)))) (sRet (eC (.bl false))) sNext)
    (sSeq (sIf (mVal (e2 dIsNot (eCallN m_come_to (aCons (eVar 12) (aCons (eVar 10) aNil))) (eC (.bl true)))) (sRet (eC (.bl false))) sNext)
    (sSeq (sAsg (eCallN m_prices (aCons (eVar 3) (aCons (eVar 9) (aCons (eTup (aCons (eC (.int 0)) (aCons (eC (.int 1)) aNil))) aNil)))) (gdName 14))
    (sSeq (sAsg (eCB dTuple (aCons (eNew (fLc (fSeq (eRd 9)) (gdName 19) mYes (e2 dIx (eRd 14) (eRd 19)) [19])) aNil)) (gdName 15))
    (sSeq (sIf (mOr (mVal (e2 dIsNot (eCallN m_are_pays (aCons (eVar 3) (aCons (eVar 15) aNil))) (eC (.bl true)))) (mVal (e2 dNe (eNew (fCB dList (aCons (eCallN m_money_envy (aCons (eVar 3) (aCons (eVar 11) (aCons (eVar 15) aNil)))) aNil))) (eNew (fLst aNil))))) (sRet (eC (.bl false))) sNext)
    (sSeq (sAsg (eNew (fLc (fEnum (eRd 9)) (gdTup 2 (gdCons (gdName 18) (gdCons (gdName 19) gdNil))) mYes (eCall m__law_minus (aCons (eTup (aCons (e2 dIx (e2 dIx (eRd 2) (eRd 18)) (eRd 19)) (aCons (eC (.int 1)) aNil))) (aCons (e2 dIx (eRd 14) (eRd 19)) aNil))) [18, 19])) (gdName 16))
    (sSeq (sAsg (eNew (fLst (aCons (eNew (fCB dList (aCons (eCallN m_left_with (aCons (eVar 3) (aCons (eVar 11) (aCons (eVar 15) aNil)))) aNil))) (aCons (eNew (fCB dList (aCons (eCallN m_left_for (aCons (eVar 3) (aCons (eVar 9) (aCons (eVar 14) aNil)))) aNil))) aNil)))) (gdName 17))
    (sIf (mNot (mTru (eCall (m__law_is 6) (aCons (eVar 17) (aCons (eNew (fLst (aCons (eVar 16) (aCons (eVar 16) aNil)))) aNil))))) (sRet (eC (.bl false))) sNext)))))))) sNext)))))))
    (sSeq (sAsg (eCall m__law_cut (aCons (eCall m__law_draw (aCons (eVar 0) (aCons (eC (.int 500)) aNil))) (aCons (e2 dAdd (eC (.int 1)) (eCall m__law_draw (aCons (eVar 0) (aCons (eC (.int 6)) aNil)))) aNil))) (gdName 10))
    (sSeq (sAsg (eCallN m_calm_rents (aCons (eVar 3) (aCons (eVar 10) aNil))) (gdTup 2 (gdCons (gdName 9) (gdCons (gdName 12) gdNil))))
    (sRet (eAnd (e2 dEq (eRd 9) (e2 dIx (eCallN m_best_dealing (aCons (eVar 3) aNil)) (eC (.int 1)))) (eAnd (eCall m__law_is_calm (aCons (eVar 2) (aCons (eVar 9) (aCons (eVar 12) aNil)))) (e2 dEq (eCall m__law_total (aCons (eVar 12) aNil)) (eRd 10)))))))))))))))
theorem ex__law_is_right : ∃ m : M, m = mBody 19 f__law_is_right := ⟨_, rfl⟩
noncomputable def m__law_is_right : M := Classical.choose ex__law_is_right
theorem m__law_is_right_eq : m__law_is_right = mBody 19 f__law_is_right := Classical.choose_spec ex__law_is_right
def l_1 : MS := (sAsg (eMakeN "Table" m_Table (aCons (eTup (aCons (eTup (aCons (eC (.int 6)) (aCons (eC (.int 2)) aNil))) (aCons (eTup (aCons (eC (.int 5)) (aCons (eC (.int 4)) aNil))) aNil))) aNil)) (gdName 2))
def l_2 : MS := (sAsg (eNew (fLst (aCons (eCallN m_best_dealing (aCons (eVar 2) aNil)) (aCons (eCall m_sum_of (aCons (eVar 2) (aCons (eTup (aCons (eC (.int 1)) (aCons (eC (.int 0)) aNil))) aNil))) (aCons (eCallN m_prices (aCons (eVar 2) (aCons (eTup (aCons (eC (.int 1)) (aCons (eC (.int 0)) aNil))) (aCons (eTup (aCons (eC (.int 3)) (aCons (eC (.int 1)) aNil))) aNil)))) (aCons (eCallN m_ring (aCons (eVar 2) (aCons (eTup (aCons (eC (.int 0)) (aCons (eC (.int 1)) aNil))) aNil))) aNil)))))) (gdName 3))
def l_3 : MS := (sIf (mOr (mNot (mTru (eCall (m__law_is 6) (aCons (eVar 3) (aCons (eNew (fLst (aCons (eTup (aCons (eC (.int 10)) (aCons (eTup (aCons (eC (.int 0)) (aCons (eC (.int 1)) aNil))) aNil))) (aCons (eC (.int 7)) (aCons (eC .non) (aCons (eC .non) aNil)))))) aNil))))) (mVal (e2 dIsNot (eCallN m_calm_pays (aCons (eVar 2) (aCons (eTup (aCons (eC (.int 1)) (aCons (eC (.int 0)) aNil))) aNil))) (eC .non)))) (sRet (eC (.bl false))) sNext)
/-- slots: 0 script 1 hand 2 table 3 told 4 turn -/
def f_law : MS := (sSeq l_1
    (sSeq l_2
    (sSeq l_3
    (sRet (eCB dAll (aCons (eNew (fLc (fRg1 (eC (.int 3))) (gdName 4) mYes (eCall m__law_is_right (aCons (eVar 1) aNil)) [4])) aNil))))))
def lawSlot : Nat := 1
def lawMore : Nat := 4
end K80
set_option maxHeartbeats 4000000
/-! printed by gen_draw.py: the drawing of a number, whatever the hand holds: a number below the limit -/
namespace K80
open PySem L2 Fd
theorem ix50 : ixN 5 0 = some 0 := rfl
theorem ix51 : ixN 5 1 = some 1 := rfl
theorem ix52 : ixN 5 2 = some 2 := rfl
theorem ix53 : ixN 5 3 = some 3 := rfl
theorem ix54 : ixN 5 4 = some 4 := rfl
theorem draw_works : ∀ (x : Addr) (cells : List Int) (i b s n k : Int), 0 ≤ i → cells.length ≤ 63 → 0 < k → k < 1073741824 →
    f__law_draw (.oh x (handD cells i b s n) :: .sh (.int k) :: List.replicate drawMore .no) ⟨fun _ => False, HandEnd x k, fun _ => False, fun _ => False⟩ (fun _ => False) := by
  intro x cells i b s n k hi hc hk hk2
  have ml7919 : ∀ a : Int, CMul 7919 a := fun a => .inl ⟨by omega, by omega⟩
  have mr48271 : ∀ a : Int, CMul a 48271 := fun a => .inr ⟨by omega, by omega⟩
  have mr69621 : ∀ a : Int, CMul a 69621 := fun a => .inr ⟨by omega, by omega⟩
  have lt2147483399 : (0 : Int) < 2147483399 := by omega
  have lt2147483629 : (0 : Int) < 2147483629 := by omega
  have lt2147483647 : (0 : Int) < 2147483647 := by omega
  have dv16 : ∀ a : Int, CDiv a 16 := fun a => ⟨by omega, by omega⟩
  have dv1009 : ∀ a : Int, CDiv a 1009 := fun a => ⟨by omega, by omega⟩
  have dv2003 : ∀ a : Int, CDiv a 2003 := fun a => ⟨by omega, by omega⟩
  have mm2147483399 : ∀ a c : Int, CMul (a % 2147483399) c := fun a c => .inl ⟨by have := Int.emod_nonneg a (b := 2147483399) (by omega); omega, by have := Int.emod_lt_of_pos a (b := 2147483399) (by omega); omega⟩
  have mm2147483629 : ∀ a c : Int, CMul (a % 2147483629) c := fun a c => .inl ⟨by have := Int.emod_nonneg a (b := 2147483629) (by omega); omega, by have := Int.emod_lt_of_pos a (b := 2147483629) (by omega); omega⟩
  have mm2147483647 : ∀ a c : Int, CMul (a % 2147483647) c := fun a c => .inl ⟨by have := Int.emod_nonneg a (b := 2147483647) (by omega); omega, by have := Int.emod_lt_of_pos a (b := 2147483647) (by omega); omega⟩
  have cd : ∀ a : Int, CDiv a k := fun a => ⟨hk, hk2⟩
  have cp : CPow 10 18 := ⟨by omega, by omega, by decide⟩
  have fin : ∀ (i' b' s' n' d : Int) (e2 e3 e4 : En), 0 ≤ i' → HandEnd x k [.oh x [.lst (cells.map .int), .int i', .int b', .int s', .int n'], .sh (.int k), e2, e3, e4] (.int (d % k)) := fun i' b' s' n' d e2 e3 e4 h =>
    ⟨⟨_, rfl, Int.emod_nonneg _ (by omega), Int.emod_lt_of_pos _ hk⟩, cells, i', b', s', n', rfl, h, hc⟩
  by_cases hb : b = 0
  · have eb : (b == 0) = true := by simpa using hb
    have b0 : ¬ 0 < b := by omega
    have z0 : ¬ (0 : Int) < 0 := by omega
    by_cases hl : i < (cells.length : Int)
    · obtain ⟨j, rfl⟩ : ∃ j : Nat, i = (j : Int) := ⟨i.toNat, by omega⟩
      have hj : j < cells.length := by omega
      obtain ⟨c, hcell⟩ : ∃ c : Int, atI (cells.map D.int) (j : Int) = some (.int c) := ⟨cells[j], by rw [atI_n, List.getElem?_map, List.getElem?_eq_getElem hj]; rfl⟩
      have hP : (0 : Int) < 10 ^ Int.toNat 18 := by rw [show Int.toNat 18 = 18 from rfl]; omega
      by_cases hg : (10 : Int) ^ (Int.toNat 18) ≤ c
      · have hg0 : (0 : Int) < c := Int.lt_of_lt_of_le hP hg
        simp only [f__law_draw, drawMore, handD, ix50, ix51, ix52, ix53, ix54, eb, hl, hcell, hg, hg0, decide_true, true_and, beq_self_eq_true, Bool.not_true, Bool.not_false, decide_true, decide_false, eVar, eRd, eC, e2, dAdd, dSub, dMul, dFdiv, dMod, dPow, dII, dI0, dLtI, dLe, dGt, dGe, dLtV_int, dLeV_int, dGtV_int, dGeV_int, dMinV_2, dMaxV_2, dMinV_L, dMinV_T, dMaxV_L, dMaxV_T, dMinV_l, dMinV_t, dMaxV_l, dMaxV_t, dSortedV_eq, dSortedV_L, eAnd, eOr, eNot, eIf, eNeg, eChain, mTru, mVal, mAnd, mOr, mNot, mYes, dTru_bl, dTru_int, dTru_non, dTru_tup, dTru_lst, dIx_lst, dIx_tup, eFld_eq, tab_fold, dNeO_tab, eIsC_eq, isCQ_tab, fldQ_p, fldQ_t, fldQ_r, eSl, oNone, oSome, eTup, fLst, eNew, eCB, fCB, dLen, dAbs, dInt, dTuple, dList, aNil, aCons, fLstRg, eTupRg, rRg1, rRg2, eIsi, fSeq, fRg1, fRg2, fEnum, fZip, D.items, gdName, gdTup, gdCons, gdNil, sSeq, sNext, sDrop, sRet, sRetN, sIf, sAsg, sOwn, sOwnD, sStill, sPar, sAugI, sApp, sExt, sSetI, sSetH, sFor, fLc, sForD, eGetD, dOf, eGet1, eGet2, sPutDN, keyD, sMany, setAll, nNil, nSh, nOl, nOd, eCall, mBody, mInit, eMake, sSelf, sSelf2, wipeE, dSl, List.getElem?_cons_zero, List.getElem?_cons_succ, List.set_cons_zero, List.set_cons_succ, List.replicate_succ, List.replicate_zero, List.map_cons, List.map_nil, List.cons_append, List.nil_append, List.length_cons, List.length_nil, List.length_map, atI_0, atI_1, atI_2, atI_3, atI_4, atI_n, ↓reduceIte, Bool.false_eq_true, dEq_int, dNe_int, Nat.reduceAdd, List.flatten_replicate_singleton, Int.toNat_natCast, List.length_replicate, List.length_append, Nat.zero_add, putFD, f2, dAddF, dMulF, fSl, dMulT, eCallN, eMakeN, eLam, sRaise, sTryTh, unset, eIsX, eIsV, eXf, eTold, eCount, eCountV, cntQ_nat, eIndexF, eIndexV, dIndex_nat, dIndex_int, eSumL, mWord, dSorted, sNever, dSumW_lst, dMaxW_lst, dMinW_lst, dMinW_2, dMaxW_2, dSortedW_l, dSortedW_t, dSortedW_T, sAugSI, eRevX, hk, cd, cp, true_and, ml7919, mr48271, mr69621, lt2147483399, lt2147483629, lt2147483647, dv16, dv1009, dv2003, mm2147483399, mm2147483629, mm2147483647]
        exact fin _ _ _ _ _ _ _ _ (by omega)
      · simp only [f__law_draw, drawMore, handD, ix50, ix51, ix52, ix53, ix54, eb, b0, z0, hl, hcell, hg, decide_true, decide_false, true_and, beq_self_eq_true, Bool.not_true, Bool.not_false, decide_true, decide_false, eVar, eRd, eC, e2, dAdd, dSub, dMul, dFdiv, dMod, dPow, dII, dI0, dLtI, dLe, dGt, dGe, dLtV_int, dLeV_int, dGtV_int, dGeV_int, dMinV_2, dMaxV_2, dMinV_L, dMinV_T, dMaxV_L, dMaxV_T, dMinV_l, dMinV_t, dMaxV_l, dMaxV_t, dSortedV_eq, dSortedV_L, eAnd, eOr, eNot, eIf, eNeg, eChain, mTru, mVal, mAnd, mOr, mNot, mYes, dTru_bl, dTru_int, dTru_non, dTru_tup, dTru_lst, dIx_lst, dIx_tup, eFld_eq, tab_fold, dNeO_tab, eIsC_eq, isCQ_tab, fldQ_p, fldQ_t, fldQ_r, eSl, oNone, oSome, eTup, fLst, eNew, eCB, fCB, dLen, dAbs, dInt, dTuple, dList, aNil, aCons, fLstRg, eTupRg, rRg1, rRg2, eIsi, fSeq, fRg1, fRg2, fEnum, fZip, D.items, gdName, gdTup, gdCons, gdNil, sSeq, sNext, sDrop, sRet, sRetN, sIf, sAsg, sOwn, sOwnD, sStill, sPar, sAugI, sApp, sExt, sSetI, sSetH, sFor, fLc, sForD, eGetD, dOf, eGet1, eGet2, sPutDN, keyD, sMany, setAll, nNil, nSh, nOl, nOd, eCall, mBody, mInit, eMake, sSelf, sSelf2, wipeE, dSl, List.getElem?_cons_zero, List.getElem?_cons_succ, List.set_cons_zero, List.set_cons_succ, List.replicate_succ, List.replicate_zero, List.map_cons, List.map_nil, List.cons_append, List.nil_append, List.length_cons, List.length_nil, List.length_map, atI_0, atI_1, atI_2, atI_3, atI_4, atI_n, ↓reduceIte, Bool.false_eq_true, dEq_int, dNe_int, Nat.reduceAdd, List.flatten_replicate_singleton, Int.toNat_natCast, List.length_replicate, List.length_append, Nat.zero_add, putFD, f2, dAddF, dMulF, fSl, dMulT, eCallN, eMakeN, eLam, sRaise, sTryTh, unset, eIsX, eIsV, eXf, eTold, eCount, eCountV, cntQ_nat, eIndexF, eIndexV, dIndex_nat, dIndex_int, eSumL, mWord, dSorted, sNever, dSumW_lst, dMaxW_lst, dMinW_lst, dMinW_2, dMaxW_2, dSortedW_l, dSortedW_t, dSortedW_T, sAugSI, eRevX, hk, cp, true_and, ml7919, mr48271, mr69621, lt2147483399, lt2147483629, lt2147483647, dv16, dv1009, dv2003, mm2147483399, mm2147483629, mm2147483647]
        exact fin _ _ _ _ _ _ _ _ (by omega)
    · simp only [f__law_draw, drawMore, handD, ix50, ix51, ix52, ix53, ix54, eb, b0, hl, decide_true, decide_false, true_and, beq_self_eq_true, Bool.not_true, Bool.not_false, decide_true, decide_false, eVar, eRd, eC, e2, dAdd, dSub, dMul, dFdiv, dMod, dPow, dII, dI0, dLtI, dLe, dGt, dGe, dLtV_int, dLeV_int, dGtV_int, dGeV_int, dMinV_2, dMaxV_2, dMinV_L, dMinV_T, dMaxV_L, dMaxV_T, dMinV_l, dMinV_t, dMaxV_l, dMaxV_t, dSortedV_eq, dSortedV_L, eAnd, eOr, eNot, eIf, eNeg, eChain, mTru, mVal, mAnd, mOr, mNot, mYes, dTru_bl, dTru_int, dTru_non, dTru_tup, dTru_lst, dIx_lst, dIx_tup, eFld_eq, tab_fold, dNeO_tab, eIsC_eq, isCQ_tab, fldQ_p, fldQ_t, fldQ_r, eSl, oNone, oSome, eTup, fLst, eNew, eCB, fCB, dLen, dAbs, dInt, dTuple, dList, aNil, aCons, fLstRg, eTupRg, rRg1, rRg2, eIsi, fSeq, fRg1, fRg2, fEnum, fZip, D.items, gdName, gdTup, gdCons, gdNil, sSeq, sNext, sDrop, sRet, sRetN, sIf, sAsg, sOwn, sOwnD, sStill, sPar, sAugI, sApp, sExt, sSetI, sSetH, sFor, fLc, sForD, eGetD, dOf, eGet1, eGet2, sPutDN, keyD, sMany, setAll, nNil, nSh, nOl, nOd, eCall, mBody, mInit, eMake, sSelf, sSelf2, wipeE, dSl, List.getElem?_cons_zero, List.getElem?_cons_succ, List.set_cons_zero, List.set_cons_succ, List.replicate_succ, List.replicate_zero, List.map_cons, List.map_nil, List.cons_append, List.nil_append, List.length_cons, List.length_nil, List.length_map, atI_0, atI_1, atI_2, atI_3, atI_4, atI_n, ↓reduceIte, Bool.false_eq_true, dEq_int, dNe_int, Nat.reduceAdd, List.flatten_replicate_singleton, Int.toNat_natCast, List.length_replicate, List.length_append, Nat.zero_add, putFD, f2, dAddF, dMulF, fSl, dMulT, eCallN, eMakeN, eLam, sRaise, sTryTh, unset, eIsX, eIsV, eXf, eTold, eCount, eCountV, cntQ_nat, eIndexF, eIndexV, dIndex_nat, dIndex_int, eSumL, mWord, dSorted, sNever, dSumW_lst, dMaxW_lst, dMinW_lst, dMinW_2, dMaxW_2, dSortedW_l, dSortedW_t, dSortedW_T, sAugSI, eRevX, hk, cp, true_and, ml7919, mr48271, mr69621, lt2147483399, lt2147483629, lt2147483647, dv16, dv1009, dv2003, mm2147483399, mm2147483629, mm2147483647]
      exact fin _ _ _ _ _ _ _ _ hi
  · have eb : (b == 0) = false := by simpa using hb
    by_cases hp : 0 < b
    · simp only [f__law_draw, drawMore, handD, ix50, ix51, ix52, ix53, ix54, eb, hp, hk, decide_true, decide_false, true_and, beq_self_eq_true, Bool.not_true, Bool.not_false, decide_true, decide_false, eVar, eRd, eC, e2, dAdd, dSub, dMul, dFdiv, dMod, dPow, dII, dI0, dLtI, dLe, dGt, dGe, dLtV_int, dLeV_int, dGtV_int, dGeV_int, dMinV_2, dMaxV_2, dMinV_L, dMinV_T, dMaxV_L, dMaxV_T, dMinV_l, dMinV_t, dMaxV_l, dMaxV_t, dSortedV_eq, dSortedV_L, eAnd, eOr, eNot, eIf, eNeg, eChain, mTru, mVal, mAnd, mOr, mNot, mYes, dTru_bl, dTru_int, dTru_non, dTru_tup, dTru_lst, dIx_lst, dIx_tup, eFld_eq, tab_fold, dNeO_tab, eIsC_eq, isCQ_tab, fldQ_p, fldQ_t, fldQ_r, eSl, oNone, oSome, eTup, fLst, eNew, eCB, fCB, dLen, dAbs, dInt, dTuple, dList, aNil, aCons, fLstRg, eTupRg, rRg1, rRg2, eIsi, fSeq, fRg1, fRg2, fEnum, fZip, D.items, gdName, gdTup, gdCons, gdNil, sSeq, sNext, sDrop, sRet, sRetN, sIf, sAsg, sOwn, sOwnD, sStill, sPar, sAugI, sApp, sExt, sSetI, sSetH, sFor, fLc, sForD, eGetD, dOf, eGet1, eGet2, sPutDN, keyD, sMany, setAll, nNil, nSh, nOl, nOd, eCall, mBody, mInit, eMake, sSelf, sSelf2, wipeE, dSl, List.getElem?_cons_zero, List.getElem?_cons_succ, List.set_cons_zero, List.set_cons_succ, List.replicate_succ, List.replicate_zero, List.map_cons, List.map_nil, List.cons_append, List.nil_append, List.length_cons, List.length_nil, List.length_map, atI_0, atI_1, atI_2, atI_3, atI_4, atI_n, ↓reduceIte, Bool.false_eq_true, dEq_int, dNe_int, Nat.reduceAdd, List.flatten_replicate_singleton, Int.toNat_natCast, List.length_replicate, List.length_append, Nat.zero_add, putFD, f2, dAddF, dMulF, fSl, dMulT, eCallN, eMakeN, eLam, sRaise, sTryTh, unset, eIsX, eIsV, eXf, eTold, eCount, eCountV, cntQ_nat, eIndexF, eIndexV, dIndex_nat, dIndex_int, eSumL, mWord, dSorted, sNever, dSumW_lst, dMaxW_lst, dMinW_lst, dMinW_2, dMaxW_2, dSortedW_l, dSortedW_t, dSortedW_T, sAugSI, eRevX, cd, true_and]
      exact fin _ _ _ _ _ _ _ _ hi
    · simp only [f__law_draw, drawMore, handD, ix50, ix51, ix52, ix53, ix54, eb, hp, hk, decide_true, decide_false, true_and, beq_self_eq_true, Bool.not_true, Bool.not_false, decide_true, decide_false, eVar, eRd, eC, e2, dAdd, dSub, dMul, dFdiv, dMod, dPow, dII, dI0, dLtI, dLe, dGt, dGe, dLtV_int, dLeV_int, dGtV_int, dGeV_int, dMinV_2, dMaxV_2, dMinV_L, dMinV_T, dMaxV_L, dMaxV_T, dMinV_l, dMinV_t, dMaxV_l, dMaxV_t, dSortedV_eq, dSortedV_L, eAnd, eOr, eNot, eIf, eNeg, eChain, mTru, mVal, mAnd, mOr, mNot, mYes, dTru_bl, dTru_int, dTru_non, dTru_tup, dTru_lst, dIx_lst, dIx_tup, eFld_eq, tab_fold, dNeO_tab, eIsC_eq, isCQ_tab, fldQ_p, fldQ_t, fldQ_r, eSl, oNone, oSome, eTup, fLst, eNew, eCB, fCB, dLen, dAbs, dInt, dTuple, dList, aNil, aCons, fLstRg, eTupRg, rRg1, rRg2, eIsi, fSeq, fRg1, fRg2, fEnum, fZip, D.items, gdName, gdTup, gdCons, gdNil, sSeq, sNext, sDrop, sRet, sRetN, sIf, sAsg, sOwn, sOwnD, sStill, sPar, sAugI, sApp, sExt, sSetI, sSetH, sFor, fLc, sForD, eGetD, dOf, eGet1, eGet2, sPutDN, keyD, sMany, setAll, nNil, nSh, nOl, nOd, eCall, mBody, mInit, eMake, sSelf, sSelf2, wipeE, dSl, List.getElem?_cons_zero, List.getElem?_cons_succ, List.set_cons_zero, List.set_cons_succ, List.replicate_succ, List.replicate_zero, List.map_cons, List.map_nil, List.cons_append, List.nil_append, List.length_cons, List.length_nil, List.length_map, atI_0, atI_1, atI_2, atI_3, atI_4, atI_n, ↓reduceIte, Bool.false_eq_true, dEq_int, dNe_int, Nat.reduceAdd, List.flatten_replicate_singleton, Int.toNat_natCast, List.length_replicate, List.length_append, Nat.zero_add, putFD, f2, dAddF, dMulF, fSl, dMulT, eCallN, eMakeN, eLam, sRaise, sTryTh, unset, eIsX, eIsV, eXf, eTold, eCount, eCountV, cntQ_nat, eIndexF, eIndexV, dIndex_nat, dIndex_int, eSumL, mWord, dSorted, sNever, dSumW_lst, dMaxW_lst, dMinW_lst, dMinW_2, dMaxW_2, dSortedW_l, dSortedW_t, dSortedW_T, sAugSI, eRevX, true_and, ml7919, mr48271, mr69621, lt2147483399, lt2147483629, lt2147483647, dv16, dv1009, dv2003, mm2147483399, mm2147483629, mm2147483647]
      exact fin _ _ _ _ _ _ _ _ hi
end K80
set_option maxHeartbeats 4000000
/-! printed by gen.py: the defs do that -/
namespace K80
open PySem PySem.Spec L2 Fd
def top (i : Nat) : Stmt := PySem.Challenge.pw_fairdeals_k80_whole_rents_and_pays.main.body.getD i (.Pass ⟨0, 0, 0, 0⟩)
abbrev PR : Program := (PySem.Challenge.rw_fairdeals_k80_whole_rents_and_pays).prog
abbrev lq_law : Str × Str := ("law", ("law" : Str) ++ ".<locals>." ++ "<lambda>")
def LDQ : List (Str × Str) := [lq_law]
structure Tbs (K : PySem.W.Frag) (mg : Str → Option Value) (base : Heap) : Prop where
  tb_law : LamX.TabB base mg (tbP K "law").1 (tbP K "law").2
  hc_law : ∀ fd, FunD K "law" "law" (defArgs (top 56)) (defBody (top 56)) (defScope (top 56)) [] [] (He.ga K "law") fd → fd.code = .ref (tbP K "law").1
  uq : lkTab (LDQ.map (·.1)) K = true
structure Txt (K : PySem.W.Frag) (mg : Str → Option Value) : Prop where
  f_is_integer : ∃ fd, FunD K "is_integer" "is_integer" (defArgs (top 8)) (defBody (top 8)) (defScope (top 8)) [] [] (He.ga K "is_integer") fd
  g_is_integer : mg "is_integer" = some (.ref (He.ga K "is_integer"))
  f_is_within : ∃ fd, FunD K "is_within" "is_within" (defArgs (top 9)) (defBody (top 9)) (defScope (top 9)) [] [] (He.ga K "is_within") fd
  g_is_within : mg "is_within" = some (.ref (He.ga K "is_within"))
  f_is_row : ∃ fd, FunD K "is_row" "is_row" (defArgs (top 10)) (defBody (top 10)) (defScope (top 10)) [] [] (He.ga K "is_row") fd
  g_is_row : mg "is_row" = some (.ref (He.ga K "is_row"))
  f_common_divisor : ∃ fd, FunD K "common_divisor" "common_divisor" (defArgs (top 11)) (defBody (top 11)) (defScope (top 11)) [] [] (He.ga K "common_divisor") fd
  g_common_divisor : mg "common_divisor" = some (.ref (He.ga K "common_divisor"))
  f_fraction : ∃ fd, FunD K "fraction" "fraction" (defArgs (top 12)) (defBody (top 12)) (defScope (top 12)) [] [] (He.ga K "fraction") fd
  g_fraction : mg "fraction" = some (.ref (He.ga K "fraction"))
  f_is_fraction : ∃ fd, FunD K "is_fraction" "is_fraction" (defArgs (top 13)) (defBody (top 13)) (defScope (top 13)) [] [] (He.ga K "is_fraction") fd
  g_is_fraction : mg "is_fraction" = some (.ref (He.ga K "is_fraction"))
  f_plus : ∃ fd, FunD K "plus" "plus" (defArgs (top 14)) (defBody (top 14)) (defScope (top 14)) [] [] (He.ga K "plus") fd
  g_plus : mg "plus" = some (.ref (He.ga K "plus"))
  f_minus : ∃ fd, FunD K "minus" "minus" (defArgs (top 15)) (defBody (top 15)) (defScope (top 15)) [] [] (He.ga K "minus") fd
  g_minus : mg "minus" = some (.ref (He.ga K "minus"))
  f_less : ∃ fd, FunD K "less" "less" (defArgs (top 16)) (defBody (top 16)) (defScope (top 16)) [] [] (He.ga K "less") fd
  g_less : mg "less" = some (.ref (He.ga K "less"))
  f_total : ∃ fd, FunD K "total" "total" (defArgs (top 17)) (defBody (top 17)) (defScope (top 17)) [] [] (He.ga K "total") fd
  g_total : mg "total" = some (.ref (He.ga K "total"))
  f_Table : ∃ fd, FunD K "__init__" "Table.__init__" (defArgs (inClass (top 22) 0)) (defBody (inClass (top 22) 0)) (defScope (inClass (top 22) 0)) [] [] (He.ma K (He.ga K "Table") "__init__") fd
  g_Table : mg "Table" = some (.ref (He.ga K "Table"))
  mk_Table : Mk K (He.ga K "Table") (He.ma K (He.ga K "Table") "__init__")
  f_is_deal : ∃ fd, FunD K "is_deal" "is_deal" (defArgs (top 23)) (defBody (top 23)) (defScope (top 23)) [] [] (He.ga K "is_deal") fd
  g_is_deal : mg "is_deal" = some (.ref (He.ga K "is_deal"))
  f_check_rooms : ∃ fd, FunD K "check_rooms" "check_rooms" (defArgs (top 25)) (defBody (top 25)) (defScope (top 25)) [] [] (He.ga K "check_rooms") fd
  g_check_rooms : mg "check_rooms" = some (.ref (He.ga K "check_rooms"))
  f_check_rent : ∃ fd, FunD K "check_rent" "check_rent" (defArgs (top 26)) (defBody (top 26)) (defScope (top 26)) [] [] (He.ga K "check_rent") fd
  g_check_rent : mg "check_rent" = some (.ref (He.ga K "check_rent"))
  f_dealings : ∃ fd, FunD K "dealings" "dealings" (defArgs (top 27)) (defBody (top 27)) (defScope (top 27)) [] [] (He.ga K "dealings") fd
  g_dealings : mg "dealings" = some (.ref (He.ga K "dealings"))
  f_is_dealing : ∃ fd, FunD K "is_dealing" "is_dealing" (defArgs (top 28)) (defBody (top 28)) (defScope (top 28)) [] [] (He.ga K "is_dealing") fd
  g_is_dealing : mg "is_dealing" = some (.ref (He.ga K "is_dealing"))
  f_sum_of : ∃ fd, FunD K "sum_of" "sum_of" (defArgs (top 29)) (defBody (top 29)) (defScope (top 29)) [] [] (He.ga K "sum_of") fd
  g_sum_of : mg "sum_of" = some (.ref (He.ga K "sum_of"))
  f_best_dealing : ∃ fd, FunD K "best_dealing" "best_dealing" (defArgs (top 30)) (defBody (top 30)) (defScope (top 30)) [] [] (He.ga K "best_dealing") fd
  g_best_dealing : mg "best_dealing" = some (.ref (He.ga K "best_dealing"))
  f_lifts : ∃ fd, FunD K "lifts" "lifts" (defArgs (top 31)) (defBody (top 31)) (defScope (top 31)) [] [] (He.ga K "lifts") fd
  g_lifts : mg "lifts" = some (.ref (He.ga K "lifts"))
  f_prices : ∃ fd, FunD K "prices" "prices" (defArgs (top 32)) (defBody (top 32)) (defScope (top 32)) [] [] (He.ga K "prices") fd
  g_prices : mg "prices" = some (.ref (He.ga K "prices"))
  f_calm_rents : ∃ fd, FunD K "calm_rents" "calm_rents" (defArgs (top 33)) (defBody (top 33)) (defScope (top 33)) [] [] (He.ga K "calm_rents") fd
  g_calm_rents : mg "calm_rents" = some (.ref (He.ga K "calm_rents"))
  f_left_for : ∃ fd, FunD K "left_for" "left_for" (defArgs (top 34)) (defBody (top 34)) (defScope (top 34)) [] [] (He.ga K "left_for") fd
  g_left_for : mg "left_for" = some (.ref (He.ga K "left_for"))
  f_ring : ∃ fd, FunD K "ring" "ring" (defArgs (top 35)) (defBody (top 35)) (defScope (top 35)) [] [] (He.ga K "ring") fd
  g_ring : mg "ring" = some (.ref (He.ga K "ring"))
  f_come_to : ∃ fd, FunD K "come_to" "come_to" (defArgs (top 36)) (defBody (top 36)) (defScope (top 36)) [] [] (He.ga K "come_to") fd
  g_come_to : mg "come_to" = some (.ref (He.ga K "come_to"))
  f_are_pays : ∃ fd, FunD K "are_pays" "are_pays" (defArgs (top 38)) (defBody (top 38)) (defScope (top 38)) [] [] (He.ga K "are_pays") fd
  g_are_pays : mg "are_pays" = some (.ref (He.ga K "are_pays"))
  f_left_with : ∃ fd, FunD K "left_with" "left_with" (defArgs (top 39)) (defBody (top 39)) (defScope (top 39)) [] [] (He.ga K "left_with") fd
  g_left_with : mg "left_with" = some (.ref (He.ga K "left_with"))
  f_money_envy : ∃ fd, FunD K "money_envy" "money_envy" (defArgs (top 40)) (defBody (top 40)) (defScope (top 40)) [] [] (He.ga K "money_envy") fd
  g_money_envy : mg "money_envy" = some (.ref (He.ga K "money_envy"))
  f_calm_pays : ∃ fd, FunD K "calm_pays" "calm_pays" (defArgs (top 41)) (defBody (top 41)) (defScope (top 41)) [] [] (He.ga K "calm_pays") fd
  g_calm_pays : mg "calm_pays" = some (.ref (He.ga K "calm_pays"))
  f__law_hand : ∃ fd, FunD K "_law_hand" "_law_hand" (defArgs (top 43)) (defBody (top 43)) (defScope (top 43)) [] [] (He.ga K "_law_hand") fd
  g__law_hand : mg "_law_hand" = some (.ref (He.ga K "_law_hand"))
  f__law_draw : ∃ fd, FunD K "_law_draw" "_law_draw" (defArgs (top 44)) (defBody (top 44)) (defScope (top 44)) [] [] (He.ga K "_law_draw") fd
  g__law_draw : mg "_law_draw" = some (.ref (He.ga K "_law_draw"))
  f__law_some : ∃ fd, FunD K "_law_some" "_law_some" (defArgs (top 45)) (defBody (top 45)) (defScope (top 45)) [] [] (He.ga K "_law_some") fd
  g__law_some : mg "_law_some" = some (.ref (He.ga K "_law_some"))
  f__law_is : ∃ fd, FunD K "_law_is" "_law_is" (defArgs (top 46)) (defBody (top 46)) (defScope (top 46)) [] [] (He.ga K "_law_is") fd
  g__law_is : mg "_law_is" = some (.ref (He.ga K "_law_is"))
  f__law_cut : ∃ fd, FunD K "_law_cut" "_law_cut" (defArgs (top 47)) (defBody (top 47)) (defScope (top 47)) [] [] (He.ga K "_law_cut") fd
  g__law_cut : mg "_law_cut" = some (.ref (He.ga K "_law_cut"))
  f__law_plus : ∃ fd, FunD K "_law_plus" "_law_plus" (defArgs (top 48)) (defBody (top 48)) (defScope (top 48)) [] [] (He.ga K "_law_plus") fd
  g__law_plus : mg "_law_plus" = some (.ref (He.ga K "_law_plus"))
  f__law_minus : ∃ fd, FunD K "_law_minus" "_law_minus" (defArgs (top 49)) (defBody (top 49)) (defScope (top 49)) [] [] (He.ga K "_law_minus") fd
  g__law_minus : mg "_law_minus" = some (.ref (He.ga K "_law_minus"))
  f__law_less : ∃ fd, FunD K "_law_less" "_law_less" (defArgs (top 50)) (defBody (top 50)) (defScope (top 50)) [] [] (He.ga K "_law_less") fd
  g__law_less : mg "_law_less" = some (.ref (He.ga K "_law_less"))
  f__law_total : ∃ fd, FunD K "_law_total" "_law_total" (defArgs (top 51)) (defBody (top 51)) (defScope (top 51)) [] [] (He.ga K "_law_total") fd
  g__law_total : mg "_law_total" = some (.ref (He.ga K "_law_total"))
  f__law_rows : ∃ fd, FunD K "_law_rows" "_law_rows" (defArgs (top 52)) (defBody (top 52)) (defScope (top 52)) [] [] (He.ga K "_law_rows") fd
  g__law_rows : mg "_law_rows" = some (.ref (He.ga K "_law_rows"))
  f__law_orders : ∃ fd, FunD K "_law_orders" "_law_orders" (defArgs (top 53)) (defBody (top 53)) (defScope (top 53)) [] [] (He.ga K "_law_orders") fd
  g__law_orders : mg "_law_orders" = some (.ref (He.ga K "_law_orders"))
  f__law_is_calm : ∃ fd, FunD K "_law_is_calm" "_law_is_calm" (defArgs (top 54)) (defBody (top 54)) (defScope (top 54)) [] [] (He.ga K "_law_is_calm") fd
  g__law_is_calm : mg "_law_is_calm" = some (.ref (He.ga K "_law_is_calm"))
  f__law_is_right : ∃ fd, FunD K "_law_is_right" "_law_is_right" (defArgs (top 55)) (defBody (top 55)) (defScope (top 55)) [] [] (He.ga K "_law_is_right") fd
  g__law_is_right : mg "_law_is_right" = some (.ref (He.ga K "_law_is_right"))
  f_law : ∃ fd, FunD K "law" "law" (defArgs (top 56)) (defBody (top 56)) (defScope (top 56)) [] [] (He.ga K "law") fd
  g_law : mg "law" = some (.ref (He.ga K "law"))
  i_MOST_PERSONS : ∃ t, mg "MOST_PERSONS" = some (.int (5) t)
  i_MOST_THINGS : ∃ t, mg "MOST_THINGS" = some (.int (9) t)
  i_MOST_WORTH : ∃ t, mg "MOST_WORTH" = some (.int (100) t)
  b_abs : mg "abs" = none
  b_all : mg "all" = none
  b_bool : mg "bool" = none
  b_enumerate : mg "enumerate" = none
  b_int : mg "int" = none
  b_isinstance : mg "isinstance" = none
  b_len : mg "len" = none
  b_list : mg "list" = none
  b_max : mg "max" = none
  b_min : mg "min" = none
  b_range : mg "range" = none
  b_sorted : mg "sorted" = none
  b_str : mg "str" = none
  b_sum : mg "sum" = none
  b_tuple : mg "tuple" = none
  b_zip : mg "zip" = none
  b_super : mg "super" = none
  x_BadTable : ∀ (w : World) (base : Heap), Exm PR w K mg base 2 "BadTable" 1 (fun vs => vs.map (fun v => (("place" : Str), v)) ++ [(("word" : Str), V.str "badtable")])
  x_NoBids : ∀ (w : World) (base : Heap), Exm PR w K mg base 2 "NoBids" 0 (fun _ => [(("word" : Str), V.str "nobids")])
  x_NoFraction : ∀ (w : World) (base : Heap), Exm PR w K mg base 2 "NoFraction" 0 (fun _ => [(("word" : Str), V.str "nofraction")])
  x_NoRooms : ∀ (w : World) (base : Heap), Exm PR w K mg base 2 "NoRooms" 0 (fun _ => [(("word" : Str), V.str "norooms")])
  gx_ZERO : mg "ZERO" = some (.ref (He.ga K "ZERO"))
  gt_ZERO : TupG K "ZERO" [(0), (1)]
  fl_persons : FldOk K ["Table"] "persons"
  fs_Table_persons : FldOk K ["Table"] "persons"
  fl_rows : FldOk K ["Table"] "rows"
  fs_Table_rows : FldOk K ["Table"] "rows"
  fl_things : FldOk K ["Table"] "things"
  fs_Table_things : FldOk K ["Table"] "things"
section
variable {w : World} {K : PySem.W.Frag} {mg : Str → Option Value} {base : Heap}
abbrev s_is_integer : Stmt := top 8
theorem sc_is_integer : FnScope ["thing"] ["thing"] (defScope s_is_integer) := ⟨rfl, rfl, rfl, by decide +kernel, rfl, by decide +kernel, by decide +kernel⟩
theorem c_is_integer (T : Txt K mg) : Cal PR w K mg base 1 "is_integer" 1 m_is_integer := m_is_integer_eq.symm ▸ cal_of (N := ["thing"]) (ps := ["thing"]) (st := s_is_integer) (j := 0) (f := f_is_integer) T.f_is_integer T.g_is_integer sc_is_integer rfl rfl (fun cdv A outer s H E hr => ⟨_, (pss_one (ps_ret (pe_andT (pe_callB call_isi (by rfl) T.b_isinstance bt_isinstance (pa_cons (pv 0) (pa_cons (pe_bltn (v := .ty "int") (by rfl) T.b_int bt_int rfl) pa_nil))) (pe_one (pe_notT (pe_callB call_isi (by rfl) T.b_isinstance bt_isinstance (pa_cons (pv 0) (pa_cons (pe_bltn (v := .ty "bool") (by rfl) T.b_bool bt_bool rfl) pa_nil)))))))),
    dsK fun a0 h0 hs0 W hW => by
    exact (ds_ret (dt_and (dt_isi (by decide) (db_rd 0)) (dt_not ((dt_isi (by decide) (db_rd 0))).b)))⟩)
  (fun _ _ _ _ _ _ us hl => match us, hl with | [_], _ => rfl)
abbrev s_is_within : Stmt := top 9
theorem sc_is_within : FnScope ["thing", "low", "high"] ["thing", "low", "high"] (defScope s_is_within) := ⟨rfl, rfl, rfl, by decide +kernel, rfl, by decide +kernel, by decide +kernel⟩
theorem c_is_within (T : Txt K mg) : Cal PR w K mg base 2 "is_within" 3 m_is_within := m_is_within_eq.symm ▸ cal_of (N := ["thing", "low", "high"]) (ps := ["thing", "low", "high"]) (st := s_is_within) (j := 0) (f := f_is_within) T.f_is_within T.g_is_within sc_is_within rfl rfl (fun cdv A outer s H E hr => ⟨_, (pss_one (ps_ret (pe_andT (pe_cal (c_is_integer T) (hr.mono (by decide)) (by rfl) (pa_cons (pv 0) pa_nil)) (pe_one (pe_chain (op_leV (units1 hr)) (op_leV (units1 hr)) (pv 1) (pv 0) (pv 2)))))),
    dsK fun a0 h0 hs0 W hW => by
    exact (ds_ret (dt_and (dt_call hW (dan_cons (dt_var 0) dan_nil)) (dt_chain d2_leV d2_leV (db_rd 1) (db_rd 0) (db_rd 2))))⟩)
  (fun _ _ _ _ _ _ us hl => match us, hl with | [_, _, _], _ => rfl)
abbrev s_is_row : Stmt := top 10
theorem sc_is_row : FnScope ["thing"] ["thing"] (defScope s_is_row) := ⟨rfl, rfl, rfl, by decide +kernel, rfl, by decide +kernel, by decide +kernel⟩
theorem c_is_row (T : Txt K mg) : Cal PR w K mg base 1 "is_row" 1 m_is_row := m_is_row_eq.symm ▸ cal_of (N := ["thing"]) (ps := ["thing"]) (st := s_is_row) (j := 0) (f := f_is_row) T.f_is_row T.g_is_row sc_is_row rfl rfl (fun cdv A outer s H E hr => ⟨_, (pss_one (ps_ret (pe_callB call_isiT (by rfl) T.b_isinstance bt_isinstance (pa_cons (pv 0) (pa_cons (pe_tup (pa_cons (pe_bltn (v := .ty "list") (by rfl) T.b_list bt_list rfl) (pa_cons (pe_bltn (v := .ty "tuple") (by rfl) T.b_tuple bt_tuple rfl) pa_nil))) pa_nil))))),
    dsK fun a0 h0 hs0 W hW => by
    exact (ds_ret (dt_isiT (ns := ["list", "tuple"]) (by decide) (by decide) (db_rd 0)))⟩)
  (fun _ _ _ _ _ _ us hl => match us, hl with | [_], _ => rfl)
abbrev s_common_divisor : Stmt := top 11
theorem sc_common_divisor : FnScope ["one", "other"] ["one", "other"] (defScope s_common_divisor) := ⟨rfl, rfl, rfl, by decide +kernel, rfl, by decide +kernel, by decide +kernel⟩
theorem c_common_divisor (T : Txt K mg) : Cal PR w K mg base 1 "common_divisor" 2 m_common_divisor := m_common_divisor_eq.symm ▸ cal_of (N := ["one", "other"]) (ps := ["one", "other"]) (st := s_common_divisor) (j := 0) (f := f_common_divisor) T.f_common_divisor T.g_common_divisor sc_common_divisor rfl rfl (fun cdv A outer s H E hr => ⟨_, (pss_cons (ps_par2 (i := 0) (j := 1) rfl sc_common_divisor.nd rfl rfl (by decide) rfl rfl (pa_cons (pe_callB callA_abs (by rfl) T.b_abs bt_abs (pa_cons (pv 0) pa_nil)) (pa_cons (pe_callB callA_abs (by rfl) T.b_abs bt_abs (pa_cons (pv 1) pa_nil)) pa_nil)) (by rfl))
    (pss_cons (ps_while PassesOwn.never (pt_cmpR (op_gtV (units1 hr)) (pv 1) pe_int (nomark _)) (pss_one (ps_par2 (i := 0) (j := 1) rfl sc_common_divisor.nd rfl rfl (by decide) rfl rfl (pa_cons (pv 1) (pa_cons (pe_op op_mod (pe_callTy callA_int (by rfl) T.b_int bt_int (pa_cons (pv 0) pa_nil)) (pv 1)) pa_nil)) (by rfl))))
    (pss_one (ps_ret (pv 0))))),
    dsK fun a0 h0 hs0 W hW => by
    exact (ds_seq (ds_parN (is := [0, 1]) (dn_sh (dt_cb dc_abs (dba_cons (db_rd 0) dba_nil)) (dn_sh (dt_cb dc_abs (dba_cons (db_rd 1) dba_nil)) dn_nil)) rfl (by decide))
    (ds_seq (ds_while (dtt_val (dt_op d2_gtV (db_rd 1) ((dt_int 0)).b)) (ds_parN (is := [0, 1]) (dn_sh (dt_var 1) (dn_sh (dt_op d2_mod ((dt_cb dc_int (dba_cons (db_rd 0) dba_nil))).b (db_rd 1)) dn_nil)) rfl (by decide)))
    (ds_ret (dt_var 0))))⟩)
  (fun _ _ _ _ _ _ us hl => match us, hl with | [_, _], _ => rfl)
abbrev s_fraction : Stmt := top 12
theorem sc_fraction : FnScope ["top", "bottom", "divisor"] ["top", "bottom"] (defScope s_fraction) := ⟨rfl, rfl, rfl, by decide +kernel, rfl, by decide +kernel, by decide +kernel⟩
theorem c_fraction (T : Txt K mg) : CalX PR w K mg base 5 "fraction" 2 m_fraction := m_fraction_eq.symm ▸ cal_ofX (N := ["top", "bottom", "divisor"]) (ps := ["top", "bottom"]) (st := s_fraction) (j := 1) (f := f_fraction) T.f_fraction T.g_fraction sc_fraction rfl rfl (fun cdv A outer s H E hr => ⟨_, (pss_cons (ps_if (pt_cmpR (op_eqD hr.units) (pv 1) pe_int (nomark _)) (pss_one (ps_raise0 (T.x_NoFraction w base) rfl takesF (hr.mono (by decide)) (by rfl))) pss_nil)
    (pss_cons (ps_if (pt_cmpR (op_ltV (units1 hr)) (pv 1) pe_int (nomark _)) (pss_one (ps_par2 (i := 0) (j := 1) rfl sc_fraction.nd rfl rfl (by decide) rfl rfl (pa_cons (pe_un un_neg (pv 0)) (pa_cons (pe_un un_neg (pv 1)) pa_nil)) (by rfl))) pss_nil)
    (pss_cons (ps_set (i := 2) sc_fraction.nd rfl (by first | exact Or.inl rfl | exact Or.inr rfl) (pe_cal (c_common_divisor T) (hr.mono (by decide)) (by rfl) (pa_cons (pv 0) (pa_cons (pv 1) pa_nil))))
    (pss_one (ps_ret (pe_tupF (pa_cons (pe_op op_fdiv (pv 0) (pv 2)) (pa_cons (pe_op op_fdiv (pv 1) (pv 2)) pa_nil)))))))),
    dsKX fun a0 h0 hs0 W hE => by
    exact (ds_seq (ds_if (dtt_val (dt_op d2_eq (db_rd 1) ((dt_int 0)).b)) (ds_raise0 (flds := (fun _ => [(("word" : Str), V.str "nofraction")])) hE repF_w) ds_next)
    (ds_seq (ds_if (dtt_val (dt_op d2_ltV (db_rd 1) ((dt_int 0)).b)) (ds_parN (is := [0, 1]) (dn_sh (dt_neg (db_rd 0)) (dn_sh (dt_neg (db_rd 1)) dn_nil)) rfl (by decide)) ds_next)
    (ds_seq (ds_asg (dt_call0 (dan_cons (dt_var 0) (dan_cons (dt_var 1) dan_nil))) (dg_name 2))
    (ds_ret (dt_tup (da_cons (dt_op d2_fdiv (db_rd 0) (db_rd 2)) (da_cons (dt_op d2_fdiv (db_rd 1) (db_rd 2)) da_nil)))))))⟩)
  (fun _ _ _ _ _ _ us hl => match us, hl with | [_, _], _ => rfl)
abbrev s_is_fraction : Stmt := top 13
theorem sc_is_fraction : FnScope ["thing", "one"] ["thing"] (defScope s_is_fraction) := ⟨rfl, rfl, rfl, by decide +kernel, rfl, by decide +kernel, by decide +kernel⟩
theorem c_is_fraction (T : Txt K mg) : Cal PR w K mg base 2 "is_fraction" 1 m_is_fraction := m_is_fraction_eq.symm ▸ cal_of (N := ["thing", "one"]) (ps := ["thing"]) (st := s_is_fraction) (j := 1) (f := f_is_fraction) T.f_is_fraction T.g_is_fraction sc_is_fraction rfl rfl (fun cdv A outer s H E hr => ⟨_, (pss_cons (ps_if (PW.pt (pw_or (pt_not (pt_tru (pe_callB call_isi (by rfl) T.b_isinstance bt_isinstance (pa_cons (pv 0) (pa_cons (pe_bltn (v := .ty "tuple") (by rfl) T.b_tuple bt_tuple rfl) pa_nil))))) (pw_or (pt_cmpR (op_neD hr.units) (pe_callB call_lenX (by rfl) T.b_len bt_len (pa_cons (pv 0) pa_nil)) pe_int (nomark _)) (pw_or1 (pt_not (pt_tru (pe_callB (cr_all rfl) (by rfl) T.b_all bt_all (pa_cons (pe_lc (own := [("one", 1)]) (g := (gName 1)) (tt := tYes) (te := (tCall (spOf K 1 m_is_integer) [] E0 (tCons (tVar 1) tNil))) rfl sc_is_fraction.nd (pi_seq (pv 0)) (blkOk_by (by kernel_rfl)) (fun _ _ _ _ _ => (pg_name (i := 1) sc_is_fraction.nd rfl (by first | exact Or.inl rfl | exact Or.inr rfl))) (fun _ _ _ _ _ => pts_nil) (fun _ _ _ _ _ => (pe_cal (c_is_integer T) (hr.mono (by decide)) (by rfl) (pa_cons (pv 1) pa_nil)))) pa_nil)))))))) (pss_one (ps_ret pe_bl)) pss_nil)
    (pss_one (ps_ret (pe_andT (pe_cmpR (op_gtV (units1 hr)) (pe_ix ix_seq (pv 0) pe_int (fun _ _ => rfl)) pe_int (nomark _)) (pe_one (pe_cmpR (op_eqD hr.units) (pe_cal (c_common_divisor T) (hr.mono (by decide)) (by rfl) (pa_cons (pe_ix ix_seq (pv 0) pe_int (fun _ _ => rfl)) (pa_cons (pe_ix ix_seq (pv 0) pe_int (fun _ _ => rfl)) pa_nil))) pe_int (nomark _))))))),
    dsK fun a0 h0 hs0 W hW => by
    exact (ds_seq (ds_if (dtt_or (dtt_not (dtt_tru ((dt_isi (by decide) (db_rd 0))).b)) (dtt_or (dtt_val (dt_op d2_ne ((dt_cb dc_len (dba_cons (db_rd 0) dba_nil))).b ((dt_int 2)).b)) (dtt_not (dtt_tru ((dt_cb dc_all (dba_cons ((DF.t (df_lc (dib_seq (db_rd 0)) (dg_name 1) (by decide) dtt_yes (dt_call hW (dan_cons (dt_var 1) dan_nil))))).b dba_nil))).b)))) (ds_ret (dt_bl false)) ds_next)
    (ds_ret (dt_and (dt_op d2_gtV ((dt_op d2_ix (db_rd 0) ((dt_int 1)).b)).b ((dt_int 0)).b) (dt_op d2_eq ((dt_call hW (dan_cons (dt_op d2_ix (db_rd 0) ((dt_int 0)).b) (dan_cons (dt_op d2_ix (db_rd 0) ((dt_int 1)).b) dan_nil)))).b ((dt_int 1)).b))))⟩)
  (fun _ _ _ _ _ _ us hl => match us, hl with | [_], _ => rfl)
abbrev s_plus : Stmt := top 14
theorem sc_plus : FnScope ["one", "other"] ["one", "other"] (defScope s_plus) := ⟨rfl, rfl, rfl, by decide +kernel, rfl, by decide +kernel, by decide +kernel⟩
theorem c_plus (T : Txt K mg) : CalX PR w K mg base 6 "plus" 2 m_plus := m_plus_eq.symm ▸ cal_ofX (N := ["one", "other"]) (ps := ["one", "other"]) (st := s_plus) (j := 0) (f := f_plus) T.f_plus T.g_plus sc_plus rfl rfl (fun cdv A outer s H E hr => ⟨_, (pss_one (ps_ret (pe_calX (c_fraction T) passesF (hr.mono (by decide)) (by rfl) (pa_cons (pe_op op_addX (pe_op op_mulT (pe_ix ix_seq (pv 0) pe_int (fun _ _ => rfl)) (pe_ix ix_seq (pv 1) pe_int (fun _ _ => rfl))) (pe_op op_mulT (pe_ix ix_seq (pv 1) pe_int (fun _ _ => rfl)) (pe_ix ix_seq (pv 0) pe_int (fun _ _ => rfl)))) (pa_cons (pe_op op_mulT (pe_ix ix_seq (pv 0) pe_int (fun _ _ => rfl)) (pe_ix ix_seq (pv 1) pe_int (fun _ _ => rfl))) pa_nil))))),
    dsKX fun a0 h0 hs0 W hE => by
    exact (ds_ret (dt_callX hE (dan_cons (dt_op d2_add ((dt_op d2_mulT ((dt_op d2_ix (db_rd 0) ((dt_int 0)).b)).b ((dt_op d2_ix (db_rd 1) ((dt_int 1)).b)).b)).b ((dt_op d2_mulT ((dt_op d2_ix (db_rd 1) ((dt_int 0)).b)).b ((dt_op d2_ix (db_rd 0) ((dt_int 1)).b)).b)).b) (dan_cons (dt_op d2_mulT ((dt_op d2_ix (db_rd 0) ((dt_int 1)).b)).b ((dt_op d2_ix (db_rd 1) ((dt_int 1)).b)).b) dan_nil))))⟩)
  (fun _ _ _ _ _ _ us hl => match us, hl with | [_, _], _ => rfl)
abbrev s_minus : Stmt := top 15
theorem sc_minus : FnScope ["one", "other"] ["one", "other"] (defScope s_minus) := ⟨rfl, rfl, rfl, by decide +kernel, rfl, by decide +kernel, by decide +kernel⟩
theorem c_minus (T : Txt K mg) : CalX PR w K mg base 6 "minus" 2 m_minus := m_minus_eq.symm ▸ cal_ofX (N := ["one", "other"]) (ps := ["one", "other"]) (st := s_minus) (j := 0) (f := f_minus) T.f_minus T.g_minus sc_minus rfl rfl (fun cdv A outer s H E hr => ⟨_, (pss_one (ps_ret (pe_calX (c_fraction T) passesF (hr.mono (by decide)) (by rfl) (pa_cons (pe_op op_sub (pe_op op_mulT (pe_ix ix_seq (pv 0) pe_int (fun _ _ => rfl)) (pe_ix ix_seq (pv 1) pe_int (fun _ _ => rfl))) (pe_op op_mulT (pe_ix ix_seq (pv 1) pe_int (fun _ _ => rfl)) (pe_ix ix_seq (pv 0) pe_int (fun _ _ => rfl)))) (pa_cons (pe_op op_mulT (pe_ix ix_seq (pv 0) pe_int (fun _ _ => rfl)) (pe_ix ix_seq (pv 1) pe_int (fun _ _ => rfl))) pa_nil))))),
    dsKX fun a0 h0 hs0 W hE => by
    exact (ds_ret (dt_callX hE (dan_cons (dt_op d2_sub ((dt_op d2_mulT ((dt_op d2_ix (db_rd 0) ((dt_int 0)).b)).b ((dt_op d2_ix (db_rd 1) ((dt_int 1)).b)).b)).b ((dt_op d2_mulT ((dt_op d2_ix (db_rd 1) ((dt_int 0)).b)).b ((dt_op d2_ix (db_rd 0) ((dt_int 1)).b)).b)).b) (dan_cons (dt_op d2_mulT ((dt_op d2_ix (db_rd 0) ((dt_int 1)).b)).b ((dt_op d2_ix (db_rd 1) ((dt_int 1)).b)).b) dan_nil))))⟩)
  (fun _ _ _ _ _ _ us hl => match us, hl with | [_, _], _ => rfl)
abbrev s_less : Stmt := top 16
theorem sc_less : FnScope ["one", "other"] ["one", "other"] (defScope s_less) := ⟨rfl, rfl, rfl, by decide +kernel, rfl, by decide +kernel, by decide +kernel⟩
theorem c_less (T : Txt K mg) : Cal PR w K mg base 1 "less" 2 m_less := m_less_eq.symm ▸ cal_of (N := ["one", "other"]) (ps := ["one", "other"]) (st := s_less) (j := 0) (f := f_less) T.f_less T.g_less sc_less rfl rfl (fun cdv A outer s H E hr => ⟨_, (pss_one (ps_ret (pe_cmpR (op_ltV (units1 hr)) (pe_op op_mulT (pe_ix ix_seq (pv 0) pe_int (fun _ _ => rfl)) (pe_ix ix_seq (pv 1) pe_int (fun _ _ => rfl))) (pe_op op_mulT (pe_ix ix_seq (pv 1) pe_int (fun _ _ => rfl)) (pe_ix ix_seq (pv 0) pe_int (fun _ _ => rfl))) (nomark _)))),
    dsK fun a0 h0 hs0 W hW => by
    exact (ds_ret (dt_op d2_ltV ((dt_op d2_mulT ((dt_op d2_ix (db_rd 0) ((dt_int 0)).b)).b ((dt_op d2_ix (db_rd 1) ((dt_int 1)).b)).b)).b ((dt_op d2_mulT ((dt_op d2_ix (db_rd 1) ((dt_int 0)).b)).b ((dt_op d2_ix (db_rd 0) ((dt_int 1)).b)).b)).b))⟩)
  (fun _ _ _ _ _ _ us hl => match us, hl with | [_, _], _ => rfl)
abbrev s_total : Stmt := top 17
theorem sc_total : FnScope ["some", "found", "one"] ["some"] (defScope s_total) := ⟨rfl, rfl, rfl, by decide +kernel, rfl, by decide +kernel, by decide +kernel⟩
theorem c_total (T : Txt K mg) : CalX PR w K mg base 7 "total" 1 m_total := m_total_eq.symm ▸ cal_ofX (N := ["some", "found", "one"]) (ps := ["some"]) (st := s_total) (j := 2) (f := f_total) T.f_total T.g_total sc_total rfl rfl (fun cdv A outer s H E hr => ⟨_, (pss_cons (ps_set (i := 1) sc_total.nd rfl (by first | exact Or.inl rfl | exact Or.inr rfl) (pe_gcls (by rfl) T.gx_ZERO))
    (pss_cons (ps_for ownsF rfl (pi_seq (pv 0)) (pg_name (i := 2) sc_total.nd rfl (by first | exact Or.inl rfl | exact Or.inr rfl)) (pss_one (ps_set (i := 1) sc_total.nd rfl (by first | exact Or.inl rfl | exact Or.inr rfl) (pe_calX (c_plus T) passesF (hr.mono (by decide)) (by rfl) (pa_cons (pv 1) (pa_cons (pv 2) pa_nil))))))
    (pss_one (ps_ret (pv 1))))),
    dsKX fun a0 h0 hs0 W hE => by
    exact (ds_seq (ds_asg (dt_gtup (ns := [(0), (1)]) T.gt_ZERO) (dg_name 1))
    (ds_seq (ds_for (di_seq (dt_var 0)) (dg_name 2) (ds_asg (dt_callX hE (dan_cons (dt_var 1) (dan_cons (dt_var 2) dan_nil))) (dg_name 1)))
    (ds_ret (dt_var 1))))⟩)
  (fun _ _ _ _ _ _ us hl => match us, hl with | [_], _ => rfl)
abbrev s_Table : Stmt := inClass (top 22) 0
theorem sc_Table : FnScope ["self", "rows", "place", "row", "one"] ["self", "rows"] (defScope s_Table) := ⟨rfl, rfl, rfl, by decide +kernel, rfl, by decide +kernel, by decide +kernel⟩
theorem c_Table (T : Txt K mg) : MakX PR w K mg base 5 "Table" 1 m_Table := m_Table_eq.symm ▸ mak_ofX (N := ["self", "rows", "place", "row", "one"]) (ps := ["self", "rows"]) (st := s_Table) (j := 3) (f := f_Table) T.mk_Table T.f_Table T.g_Table sc_Table rfl rfl (fun cdv A outer s H E hr => ⟨_, (pss_cons (ps_if (PW.pt (pw_or (pt_not (pt_tru (pe_cal (c_is_row T) (hr.mono (by decide)) (by rfl) (pa_cons (pv 1) pa_nil)))) (pw_or1 (pt_not (pt_chain (op_leV (units1 hr)) (op_leV (units1 hr)) pe_int (pe_callB call_lenX (by rfl) T.b_len bt_len (pa_cons (pv 1) pa_nil)) (pe_gint (by rfl) T.i_MOST_PERSONS)))))) (pss_one (ps_raise1 (T.x_BadTable w base) rfl takesF (hr.mono (by decide)) (by rfl) (pa_cons (pe_un un_neg pe_int) pa_nil))) pss_nil)
    (pss_cons (ps_for ownsF rfl (pi_enumK (by rfl) T.b_enumerate (pv 1)) (pg_tup (n := 2) rfl (pgs_cons (pg_name (i := 2) sc_Table.nd rfl (by first | exact Or.inl rfl | exact Or.inr rfl)) (pgs_cons (pg_name (i := 3) sc_Table.nd rfl (by first | exact Or.inl rfl | exact Or.inr rfl)) pgs_nil))) (pss_cons (ps_if (PW.pt (pw_or (pt_not (pt_tru (pe_cal (c_is_row T) (hr.mono (by decide)) (by rfl) (pa_cons (pv 3) pa_nil)))) (pw_or (pt_cmpR (op_gtV (units1 hr)) (pe_callB call_lenX (by rfl) T.b_len bt_len (pa_cons (pv 3) pa_nil)) (pe_gint (by rfl) T.i_MOST_THINGS) (nomark _)) (pw_or (pt_not (pt_tru (pe_cal (c_is_row T) (hr.mono (by decide)) (by rfl) (pa_cons (pe_ix ix_seq (pv 1) pe_int (fun _ _ => rfl)) pa_nil)))) (pw_or1 (pt_cmpR (op_neD hr.units) (pe_callB call_lenX (by rfl) T.b_len bt_len (pa_cons (pv 3) pa_nil)) (pe_callB call_lenX (by rfl) T.b_len bt_len (pa_cons (pe_ix ix_seq (pv 1) pe_int (fun _ _ => rfl)) pa_nil)) (nomark _))))))) (pss_one (ps_raise1 (T.x_BadTable w base) rfl takesF (hr.mono (by decide)) (by rfl) (pa_cons (pv 2) pa_nil))) pss_nil)
    (pss_one (ps_if (pt_not (pt_tru (pe_callB (cr_all rfl) (by rfl) T.b_all bt_all (pa_cons (pe_lc (own := [("one", 4)]) (g := (gName 4)) (tt := tYes) (te := (tCall (spOf K 3 m_is_within) [] E0 (tCons (tVar 4) (tCons (tUn (rU fun i => .int (-i)) (tC (.int (100)))) (tCons (tC (.int (100))) tNil))))) rfl sc_Table.nd (pi_seq (pv 3)) (blkOk_by (by kernel_rfl)) (fun _ _ _ _ _ => (pg_name (i := 4) sc_Table.nd rfl (by first | exact Or.inl rfl | exact Or.inr rfl))) (fun _ _ _ _ _ => pts_nil) (fun _ _ _ _ _ => (pe_cal (c_is_within T) (hr.mono (by decide)) (by rfl) (pa_cons (pv 4) (pa_cons (pe_un un_neg (pe_gint (by rfl) T.i_MOST_WORTH)) (pa_cons (pe_gint (by rfl) T.i_MOST_WORTH) pa_nil)))))) pa_nil)))) (pss_one (ps_raise1 (T.x_BadTable w base) rfl takesF (hr.mono (by decide)) (by rfl) (pa_cons (pv 2) pa_nil))) pss_nil))))
    (pss_cons (ps_asg (pe_tup (pa_cons (pe_callB call_lenX (by rfl) T.b_len bt_len (pa_cons (pv 1) pa_nil)) (pa_cons (pe_callB call_lenX (by rfl) T.b_len bt_len (pa_cons (pe_ix ix_seq (pv 1) pe_int (fun _ _ => rfl)) pa_nil)) pa_nil))) (pg_tup (n := 2) rfl (pgs_cons (pg_fld (pv 0)) (pgs_cons (pg_fld (pv 0)) pgs_nil))))
    (pss_one (ps_fld (pv 0) (pe_callTy callA_tuple (by rfl) T.b_tuple bt_tuple (pa_cons (pe_lc (own := [("row", 3)]) (g := (gName 3)) (tt := tYes) (te := (tCB (rTupleOf K) (tCons (tVar 3) tNil))) rfl sc_Table.nd (pi_seq (pv 1)) (blkOk_by (by kernel_rfl)) (fun _ _ _ _ _ => (pg_name (i := 3) sc_Table.nd rfl (by first | exact Or.inl rfl | exact Or.inr rfl))) (fun _ _ _ _ _ => pts_nil) (fun _ _ _ _ _ => (pe_callTy callA_tuple (by rfl) T.b_tuple bt_tuple (pa_cons (pv 3) pa_nil)))) pa_nil)) rfl))))),
    dsKX fun a0 h0 hs0 W hE => by
    exact (ds_seq (ds_if (dtt_or (dtt_not (dtt_tru ((dt_call0 (dan_cons (dt_var 1) dan_nil))).b)) (dtt_not (dtt_val (dt_chain d2_leV d2_leV ((dt_int 1)).b ((dt_cb dc_len (dba_cons (db_rd 1) dba_nil))).b ((dt_int (5))).b)))) (ds_raise (flds := (fun vs => vs.map (fun v => (("place" : Str), v)) ++ [(("word" : Str), V.str "badtable")])) hE (by decide) (fun r hl => repF_1 r hl) (da_cons (dt_neg ((dt_int 1)).b) da_nil)) ds_next)
    (ds_seq (ds_for (di_enum (dt_var 1)) (dg_tup (n := 2) (dgs_cons (dg_name 2) (dgs_cons (dg_name 3) dgs_nil))) (ds_seq (ds_if (dtt_or (dtt_not (dtt_tru ((dt_call0 (dan_cons (dt_var 3) dan_nil))).b)) (dtt_or (dtt_val (dt_op d2_gtV ((dt_cb dc_len (dba_cons (db_rd 3) dba_nil))).b ((dt_int (9))).b)) (dtt_or (dtt_not (dtt_tru ((dt_call0 (dan_cons (dt_op d2_ix (db_rd 1) ((dt_int 0)).b) dan_nil))).b)) (dtt_val (dt_op d2_ne ((dt_cb dc_len (dba_cons (db_rd 3) dba_nil))).b ((dt_cb dc_len (dba_cons ((dt_op d2_ix (db_rd 1) ((dt_int 0)).b)).b dba_nil))).b))))) (ds_raise (flds := (fun vs => vs.map (fun v => (("place" : Str), v)) ++ [(("word" : Str), V.str "badtable")])) hE (by decide) (fun r hl => repF_1 r hl) (da_cons (dt_var 2) da_nil)) ds_next)
    (ds_if (dtt_not (dtt_tru ((dt_cb dc_all (dba_cons ((DF.t (df_lc (dib_seq (db_rd 3)) (dg_name 4) (by decide) dtt_yes (dt_call0 (dan_cons (dt_var 4) (dan_cons (dt_neg ((dt_int (100))).b) (dan_cons (dt_int (100)) dan_nil))))))).b dba_nil))).b)) (ds_raise (flds := (fun vs => vs.map (fun v => (("place" : Str), v)) ++ [(("word" : Str), V.str "badtable")])) hE (by decide) (fun r hl => repF_1 r hl) (da_cons (dt_var 2) da_nil)) ds_next)))
    (ds_seq (ds_self2 T.fs_Table_persons T.fs_Table_things (da_cons (dt_cb dc_len (dba_cons (db_rd 1) dba_nil)) (da_cons (dt_cb dc_len (dba_cons ((dt_op d2_ix (db_rd 1) ((dt_int 0)).b)).b dba_nil)) da_nil)))
    (ds_self T.fs_Table_rows (dt_cb dc_tuple (dba_cons ((DF.t (df_lc (dib_seq (db_rd 1)) (dg_name 3) (by decide) dtt_yes (dt_cb dc_tuple (dba_cons (db_rd 3) dba_nil))))).b dba_nil))))))⟩)
  (fun _ _ _ _ _ _ us hl => match us, hl with | [_, _], _ => rfl)
abbrev s_is_deal : Stmt := top 23
theorem sc_is_deal : FnScope ["table", "thing", "one"] ["table", "thing"] (defScope s_is_deal) := ⟨rfl, rfl, rfl, by decide +kernel, rfl, by decide +kernel, by decide +kernel⟩
theorem c_is_deal (T : Txt K mg) : Cal PR w K mg base 3 "is_deal" 2 m_is_deal := m_is_deal_eq.symm ▸ cal_of (N := ["table", "thing", "one"]) (ps := ["table", "thing"]) (st := s_is_deal) (j := 1) (f := f_is_deal) T.f_is_deal T.g_is_deal sc_is_deal rfl rfl (fun cdv A outer s H E hr => ⟨_, (pss_cons (ps_if (PW.pt (pw_or (pt_not (pt_tru (pe_callB call_isi (by rfl) T.b_isinstance bt_isinstance (pa_cons (pv 1) (pa_cons (pe_bltn (v := .ty "tuple") (by rfl) T.b_tuple bt_tuple rfl) pa_nil))))) (pw_or1 (pt_cmpR (op_neD hr.units) (pe_callB call_lenX (by rfl) T.b_len bt_len (pa_cons (pv 1) pa_nil)) (pe_fld (pv 0) rfl) (nomark _))))) (pss_one (ps_ret pe_bl)) pss_nil)
    (pss_one (ps_ret (pe_callB (cr_all rfl) (by rfl) T.b_all bt_all (pa_cons (pe_lc (own := [("one", 2)]) (g := (gName 2)) (tt := tYes) (te := (tCall (spOf K 3 m_is_within) [] E0 (tCons (tVar 2) (tCons (tC (.int 0)) (tCons (tOp (rI0 fun i j => .int (i - j)) (tFld K (tVar 0) "persons") (tC (.int 1))) tNil))))) rfl sc_is_deal.nd (pi_seq (pv 1)) (blkOk_by (by kernel_rfl)) (fun _ _ _ _ _ => (pg_name (i := 2) sc_is_deal.nd rfl (by first | exact Or.inl rfl | exact Or.inr rfl))) (fun _ _ _ _ _ => pts_nil) (fun _ _ _ _ _ => (pe_cal (c_is_within T) (hr.mono (by decide)) (by rfl) (pa_cons (pv 2) (pa_cons pe_int (pa_cons (pe_op op_sub (pe_fld (pv 0) rfl) pe_int) pa_nil)))))) pa_nil))))),
    dsK fun a0 h0 hs0 W hW => by
    exact (ds_seq (ds_if (dtt_or (dtt_not (dtt_tru ((dt_isi (by decide) (db_rd 1))).b)) (dtt_val (dt_op d2_ne ((dt_cb dc_len (dba_cons (db_rd 1) dba_nil))).b ((dt_fld T.fl_things (db_rd 0))).b))) (ds_ret (dt_bl false)) ds_next)
    (ds_ret (dt_cb dc_all (dba_cons ((DF.t (df_lc (dib_seq (db_rd 1)) (dg_name 2) (by decide) dtt_yes (dt_call hW (dan_cons (dt_var 2) (dan_cons (dt_int 0) (dan_cons (dt_op d2_sub ((dt_fld T.fl_persons (db_rd 0))).b ((dt_int 1)).b) dan_nil))))))).b dba_nil))))⟩)
  (fun _ _ _ _ _ _ us hl => match us, hl with | [_, _], _ => rfl)
abbrev s_check_rooms : Stmt := top 25
theorem sc_check_rooms : FnScope ["table"] ["table"] (defScope s_check_rooms) := ⟨rfl, rfl, rfl, by decide +kernel, rfl, by decide +kernel, by decide +kernel⟩
theorem c_check_rooms (T : Txt K mg) : CalX PR w K mg base 5 "check_rooms" 1 m_check_rooms := m_check_rooms_eq.symm ▸ cal_ofX (N := ["table"]) (ps := ["table"]) (st := s_check_rooms) (j := 0) (f := f_check_rooms) T.f_check_rooms T.g_check_rooms sc_check_rooms rfl rfl (fun cdv A outer s H E hr => ⟨_, (pss_one (ps_if (pt_cmpR (op_neD hr.units) (pe_fld (pv 0) rfl) (pe_fld (pv 0) rfl) (nomark _)) (pss_one (ps_raise0 (T.x_NoRooms w base) rfl takesF (hr.mono (by decide)) (by rfl))) pss_nil)),
    dsKX fun a0 h0 hs0 W hE => by
    exact (ds_if (dtt_val (dt_op d2_ne ((dt_fld T.fl_things (db_rd 0))).b ((dt_fld T.fl_persons (db_rd 0))).b)) (ds_raise0 (flds := (fun _ => [(("word" : Str), V.str "norooms")])) hE repF_w) ds_next)⟩)
  (fun _ _ _ _ _ _ us hl => match us, hl with | [_], _ => rfl)
abbrev s_check_rent : Stmt := top 26
theorem sc_check_rent : FnScope ["rent"] ["rent"] (defScope s_check_rent) := ⟨rfl, rfl, rfl, by decide +kernel, rfl, by decide +kernel, by decide +kernel⟩
theorem c_check_rent (T : Txt K mg) : CalX PR w K mg base 5 "check_rent" 1 m_check_rent := m_check_rent_eq.symm ▸ cal_ofX (N := ["rent"]) (ps := ["rent"]) (st := s_check_rent) (j := 0) (f := f_check_rent) T.f_check_rent T.g_check_rent sc_check_rent rfl rfl (fun cdv A outer s H E hr => ⟨_, (pss_one (ps_if (pt_not (pt_tru (pe_cal (c_is_fraction T) (hr.mono (by decide)) (by rfl) (pa_cons (pv 0) pa_nil)))) (pss_one (ps_raise0 (T.x_NoFraction w base) rfl takesF (hr.mono (by decide)) (by rfl))) pss_nil)),
    dsKX fun a0 h0 hs0 W hE => by
    exact (ds_if (dtt_not (dtt_tru ((dt_call0 (dan_cons (dt_var 0) dan_nil))).b)) (ds_raise0 (flds := (fun _ => [(("word" : Str), V.str "nofraction")])) hE repF_w) ds_next)⟩)
  (fun _ _ _ _ _ _ us hl => match us, hl with | [_], _ => rfl)
abbrev s_dealings : Stmt := top 27
theorem sc_dealings : FnScope ["table", "found", "person", "longer", "row", "room"] ["table"] (defScope s_dealings) := ⟨rfl, rfl, rfl, by decide +kernel, rfl, by decide +kernel, by decide +kernel⟩
theorem c_dealings (T : Txt K mg) : CalX PR w K mg base 6 "dealings" 1 m_dealings := m_dealings_eq.symm ▸ cal_ofX (N := ["table", "found", "person", "longer", "row", "room"]) (ps := ["table"]) (st := s_dealings) (j := 5) (f := f_dealings) T.f_dealings T.g_dealings sc_dealings rfl rfl (fun cdv A outer s H E hr => ⟨_, (pss_cons (ps_expr (pe_calX (c_check_rooms T) passesF (hr.mono (by decide)) (by rfl) (pa_cons (pv 0) pa_nil)))
    (pss_cons (ps_set (i := 1) sc_dealings.nd rfl (by first | exact Or.inl rfl | exact Or.inr rfl) (pe_lst (pa_cons (pe_tupF pa_nil) pa_nil)))
    (pss_cons (ps_for ownsF rfl (pi_range1 (by rfl) T.b_range (pa_cons (pe_fld (pv 0) rfl) pa_nil)) (pg_name (i := 2) sc_dealings.nd rfl (by first | exact Or.inl rfl | exact Or.inr rfl)) (pss_cons (ps_set (i := 3) sc_dealings.nd rfl (by first | exact Or.inl rfl | exact Or.inr rfl) (pe_lst pa_nil))
    (pss_cons (ps_for ownsF rfl (pi_seq (pv 1)) (pg_name (i := 4) sc_dealings.nd rfl (by first | exact Or.inl rfl | exact Or.inr rfl)) (pss_one (ps_expr (pe_bm PySem.F.plainAttrs_list PySem.F.slot_list_extend PySem.F.type_list_extend mt_extend (pv 3) (pa_cons (pe_lc (own := [("room", 5)]) (g := (gName 5)) (tt := (tTest (tOp (rNotInX K) (tVar 5) (tVar 4)))) (te := (tOp (rAddX K) (tVar 4) (tTupF (tCons (tVar 5) tNil)))) rfl sc_dealings.nd (pi_range1 (by rfl) T.b_range (pa_cons (pe_fld (pv 0) rfl) pa_nil)) (blkOk_by (by kernel_rfl)) (fun _ _ _ _ _ => (pg_name (i := 5) sc_dealings.nd rfl (by first | exact Or.inl rfl | exact Or.inr rfl))) (fun _ _ _ _ _ => (pts_one (pt_cmpR (op_notInXX (units1 hr)) (pv 5) (pv 4) (by rfl)))) (fun _ _ _ _ _ => (pe_op op_addX (pv 4) (pe_tupF (pa_cons (pv 5) pa_nil))))) pa_nil)))))
    (pss_one (ps_set (i := 1) sc_dealings.nd rfl (by first | exact Or.inl rfl | exact Or.inr rfl) (pv 3))))))
    (pss_one (ps_ret (pv 1)))))),
    dsKX fun a0 h0 hs0 W hE => by
    exact (ds_seq (ds_drop (dt_callX hE (dan_cons (dt_var 0) dan_nil)))
    (ds_seq (ds_asg (DF.t (df_lst (da_cons (dt_tup da_nil) da_nil))) (dg_name 1))
    (ds_seq (ds_for (di_rg1 (dt_fld T.fl_persons (db_rd 0))) (dg_name 2) (ds_seq (ds_own (i := 3) (df_lst da_nil))
    (ds_seq (ds_for (di_seq (dt_var 1)) (dg_name 4) (ds_ext (i := 3) ((DF.t (df_lc ((di_rg1 (dt_fld T.fl_things (db_rd 0)))).b (dg_name 5) (by decide) (dtt_val (dt_op d2_notInX (db_rd 5) (db_rd 4))) (dt_op d2_add (db_rd 4) ((dt_tup (da_cons (dt_var 5) da_nil))).b)))).b))
    (ds_still (i := 3) (ds_asg (dt_var 3) (dg_name 1))))))
    (ds_ret (dt_var 1)))))⟩)
  (fun _ _ _ _ _ _ us hl => match us, hl with | [_], _ => rfl)
abbrev s_is_dealing : Stmt := top 28
theorem sc_is_dealing : FnScope ["table", "thing"] ["table", "thing"] (defScope s_is_dealing) := ⟨rfl, rfl, rfl, by decide +kernel, rfl, by decide +kernel, by decide +kernel⟩
theorem c_is_dealing (T : Txt K mg) : CalX PR w K mg base 6 "is_dealing" 2 m_is_dealing := m_is_dealing_eq.symm ▸ cal_ofX (N := ["table", "thing"]) (ps := ["table", "thing"]) (st := s_is_dealing) (j := 0) (f := f_is_dealing) T.f_is_dealing T.g_is_dealing sc_is_dealing rfl rfl (fun cdv A outer s H E hr => ⟨_, (pss_cons (ps_expr (pe_calX (c_check_rooms T) passesF (hr.mono (by decide)) (by rfl) (pa_cons (pv 0) pa_nil)))
    (pss_one (ps_ret (pe_andT (pe_cal (c_is_deal T) (hr.mono (by decide)) (by rfl) (pa_cons (pv 0) (pa_cons (pv 1) pa_nil))) (pe_one (pe_cmpR (op_eqD hr.units) (pe_callB (cr_sortedW (units1 hr)) (by rfl) T.b_sorted bt_sorted (pa_cons (pv 1) pa_nil)) (pe_listRg rfl (by rfl) T.b_list (prg_1 (by rfl) T.b_range (pe_fld (pv 0) rfl))) (nomark _))))))),
    dsKX fun a0 h0 hs0 W hE => by
    exact (ds_seq (ds_drop (dt_callX hE (dan_cons (dt_var 0) dan_nil)))
    (ds_ret (dt_and (dt_call0 (dan_cons (dt_var 0) (dan_cons (dt_var 1) dan_nil))) (dt_op d2_eq ((DF.t (df_cb dcf_sortedW (dba_cons (db_rd 1) dba_nil)))).b ((DF.t (df_listRg (dr_1 (dt_fld T.fl_things (db_rd 0)))))).b))))⟩)
  (fun _ _ _ _ _ _ us hl => match us, hl with | [_, _], _ => rfl)
abbrev s_sum_of : Stmt := top 29
theorem sc_sum_of : FnScope ["table", "dealing", "person", "room"] ["table", "dealing"] (defScope s_sum_of) := ⟨rfl, rfl, rfl, by decide +kernel, rfl, by decide +kernel, by decide +kernel⟩
theorem c_sum_of (T : Txt K mg) : Cal PR w K mg base 1 "sum_of" 2 m_sum_of := m_sum_of_eq.symm ▸ cal_of (N := ["table", "dealing", "person", "room"]) (ps := ["table", "dealing"]) (st := s_sum_of) (j := 2) (f := f_sum_of) T.f_sum_of T.g_sum_of sc_sum_of rfl rfl (fun cdv A outer s H E hr => ⟨_, (pss_one (ps_ret (pe_callB (cr_sumW rfl) (by rfl) T.b_sum bt_sum (pa_cons (pe_lc (own := [("person", 2), ("room", 3)]) (g := (gTup K 2 (gCons (gName 2) (gCons (gName 3) gNil)))) (tt := tYes) (te := (tOp (rIx K) (tOp (rIx K) (tFld K (tVar 0) "rows") (tVar 2)) (tVar 3))) rfl sc_sum_of.nd (pi_enumK (by rfl) T.b_enumerate (pv 1)) (blkOk_by (by kernel_rfl)) (fun _ _ _ _ _ => (pg_tup (n := 2) rfl (pgs_cons (pg_name (i := 2) sc_sum_of.nd rfl (by first | exact Or.inl rfl | exact Or.inr rfl)) (pgs_cons (pg_name (i := 3) sc_sum_of.nd rfl (by first | exact Or.inl rfl | exact Or.inr rfl)) pgs_nil)))) (fun _ _ _ _ _ => pts_nil) (fun _ _ _ _ _ => (pe_ix ix_seq (pe_ix ix_seq (pe_fld (pv 0) rfl) (pv 2) (fun _ _ => rfl)) (pv 3) (fun _ _ => rfl)))) pa_nil)))),
    dsK fun a0 h0 hs0 W hW => by
    exact (ds_ret (dt_cb dc_sumW (dba_cons ((DF.t (df_lc (dib_enum (db_rd 1)) (dg_tup (n := 2) (dgs_cons (dg_name 2) (dgs_cons (dg_name 3) dgs_nil))) (by decide) dtt_yes (dt_op d2_ix ((dt_op d2_ix ((dt_fld T.fl_rows (db_rd 0))).b (db_rd 2))).b (db_rd 3))))).b dba_nil)))⟩)
  (fun _ _ _ _ _ _ us hl => match us, hl with | [_, _], _ => rfl)
abbrev s_best_dealing : Stmt := top 30
theorem sc_best_dealing : FnScope ["table", "best", "row", "here"] ["table"] (defScope s_best_dealing) := ⟨rfl, rfl, rfl, by decide +kernel, rfl, by decide +kernel, by decide +kernel⟩
theorem c_best_dealing (T : Txt K mg) : CalX PR w K mg base 7 "best_dealing" 1 m_best_dealing := m_best_dealing_eq.symm ▸ cal_ofX (N := ["table", "best", "row", "here"]) (ps := ["table"]) (st := s_best_dealing) (j := 3) (f := f_best_dealing) T.f_best_dealing T.g_best_dealing sc_best_dealing rfl rfl (fun cdv A outer s H E hr => ⟨_, (pss_cons (ps_set (i := 1) sc_best_dealing.nd rfl (by first | exact Or.inl rfl | exact Or.inr rfl) pe_non)
    (pss_cons (ps_for ownsF rfl (pi_seq (pe_calX (c_dealings T) passesF (hr.mono (by decide)) (by rfl) (pa_cons (pv 0) pa_nil))) (pg_name (i := 2) sc_best_dealing.nd rfl (by first | exact Or.inl rfl | exact Or.inr rfl)) (pss_cons (ps_set (i := 3) sc_best_dealing.nd rfl (by first | exact Or.inl rfl | exact Or.inr rfl) (pe_cal (c_sum_of T) (hr.mono (by decide)) (by rfl) (pa_cons (pv 0) (pa_cons (pv 2) pa_nil))))
    (pss_one (ps_if (PW.pt (pw_or (pt_cmpR op_isX (pv 1) pe_non (nomark _)) (pw_or1 (pt_cmpR (op_gtV (units1 hr)) (pv 3) (pe_ix ix_seq (pv 1) pe_int (fun _ _ => rfl)) (nomark _))))) (pss_one (ps_set (i := 1) sc_best_dealing.nd rfl (by first | exact Or.inl rfl | exact Or.inr rfl) (pe_tupF (pa_cons (pv 3) (pa_cons (pv 2) pa_nil))))) pss_nil))))
    (pss_one (ps_ret (pv 1))))),
    dsKX fun a0 h0 hs0 W hE => by
    exact (ds_seq (ds_asg dt_non (dg_name 1))
    (ds_seq (ds_for (di_seq (dt_callX hE (dan_cons (dt_var 0) dan_nil))) (dg_name 2) (ds_seq (ds_asg (dt_call0 (dan_cons (dt_var 0) (dan_cons (dt_var 2) dan_nil))) (dg_name 3))
    (ds_if (dtt_or (dtt_val (dt_op d2_is (db_rd 1) (dt_non).b)) (dtt_val (dt_op d2_gtV (db_rd 3) ((dt_op d2_ix (db_rd 1) ((dt_int 0)).b)).b))) (ds_asg (dt_tup (da_cons (dt_var 3) (da_cons (dt_var 2) da_nil))) (dg_name 1)) ds_next)))
    (ds_ret (dt_var 1))))⟩)
  (fun _ _ _ _ _ _ us hl => match us, hl with | [_], _ => rfl)
abbrev s_lifts : Stmt := top 31
theorem sc_lifts : FnScope ["table", "dealing", "many", "now", "turn", "later", "person", "room", "other", "step"] ["table", "dealing"] (defScope s_lifts) := ⟨rfl, rfl, rfl, by decide +kernel, rfl, by decide +kernel, by decide +kernel⟩
theorem c_lifts (T : Txt K mg) : Cal PR w K mg base 1 "lifts" 2 m_lifts := m_lifts_eq.symm ▸ cal_of (N := ["table", "dealing", "many", "now", "turn", "later", "person", "room", "other", "step"]) (ps := ["table", "dealing"]) (st := s_lifts) (j := 8) (f := f_lifts) T.f_lifts T.g_lifts sc_lifts rfl rfl (fun cdv A outer s H E hr => ⟨_, (pss_cons (ps_set (i := 2) sc_lifts.nd rfl (by first | exact Or.inl rfl | exact Or.inr rfl) (pe_fld (pv 0) rfl))
    (pss_cons (ps_set (i := 3) sc_lifts.nd rfl (by first | exact Or.inl rfl | exact Or.inr rfl) (pe_op op_mulXX (pe_lst (pa_cons pe_int pa_nil)) (pv 2)))
    (pss_cons (ps_for PassesOwn.never rfl (pi_range1 (by rfl) T.b_range (pa_cons (pe_op op_addX (pv 2) pe_int) pa_nil)) (pg_name (i := 4) sc_lifts.nd rfl (by first | exact Or.inl rfl | exact Or.inr rfl)) (pss_cons (ps_set (i := 5) sc_lifts.nd rfl (by first | exact Or.inl rfl | exact Or.inr rfl) (pe_callTy callA_list (by rfl) T.b_list bt_list (pa_cons (pv 3) pa_nil)))
    (pss_cons (ps_for PassesOwn.never rfl (pi_enumK (by rfl) T.b_enumerate (pv 1)) (pg_tup (n := 2) rfl (pgs_cons (pg_name (i := 6) sc_lifts.nd rfl (by first | exact Or.inl rfl | exact Or.inr rfl)) (pgs_cons (pg_name (i := 7) sc_lifts.nd rfl (by first | exact Or.inl rfl | exact Or.inr rfl)) pgs_nil))) (pss_one (ps_for PassesOwn.never rfl (pi_range1 (by rfl) T.b_range (pa_cons (pv 2) pa_nil)) (pg_name (i := 8) sc_lifts.nd rfl (by first | exact Or.inl rfl | exact Or.inr rfl)) (pss_cons (ps_set (i := 9) sc_lifts.nd rfl (by first | exact Or.inl rfl | exact Or.inr rfl) (pe_op op_sub (pe_ix ix_seq (pe_ix ix_seq (pe_fld (pv 0) rfl) (pv 6) (fun _ _ => rfl)) (pv 8) (fun _ _ => rfl)) (pe_ix ix_seq (pe_ix ix_seq (pe_fld (pv 0) rfl) (pv 6) (fun _ _ => rfl)) (pv 7) (fun _ _ => rfl))))
    (pss_one (ps_asg (pe_callB (cr_maxV rfl hr.units) (by rfl) T.b_max bt_max (pa_cons (pe_ix ix_seq (pv 5) (pv 8) (fun _ _ => rfl)) (pa_cons (pe_op op_addX (pe_ix ix_seq (pv 3) (pv 7) (fun _ _ => rfl)) (pv 9)) pa_nil))) (pg_sub (pv 5) (pv 8) set_list)))))))
    (pss_cons (ps_if (pt_cmpR (op_eqD hr.units) (pv 5) (pv 3) (nomark _)) (pss_one (ps_ret (pe_callTy callA_tuple (by rfl) T.b_tuple bt_tuple (pa_cons (pv 3) pa_nil)))) pss_nil)
    (pss_one (ps_set (i := 3) sc_lifts.nd rfl (by first | exact Or.inl rfl | exact Or.inr rfl) (pv 5)))))))
    (pss_one (ps_ret pe_non))))),
    dsK fun a0 h0 hs0 W hW => by
    exact (ds_seq (ds_asg (dt_fld T.fl_things (db_rd 0)) (dg_name 2))
    (ds_seq (ds_asg (DF.t (df_op d2f_mul ((DF.t (df_lst (da_cons (dt_int 0) da_nil)))).b (db_rd 2))) (dg_name 3))
    (ds_seq (ds_for (di_rg1 (dt_op d2_add (db_rd 2) ((dt_int 1)).b)) (dg_name 4) (ds_seq (ds_own (i := 5) (df_cb dcf_list (dba_cons (db_rd 3) dba_nil)))
    (ds_seq (ds_for (di_enum (dt_var 1)) (dg_tup (n := 2) (dgs_cons (dg_name 6) (dgs_cons (dg_name 7) dgs_nil))) (ds_for (di_rg1 (dt_var 2)) (dg_name 8) (ds_seq (ds_asg (dt_op d2_sub ((dt_op d2_ix ((dt_op d2_ix ((dt_fld T.fl_rows (db_rd 0))).b (db_rd 6))).b (db_rd 8))).b ((dt_op d2_ix ((dt_op d2_ix ((dt_fld T.fl_rows (db_rd 0))).b (db_rd 6))).b (db_rd 7))).b) (dg_name 9))
    (ds_setI (i := 5) (dt_var 8) (dt_cb dc_maxV (dba_cons ((dt_op d2_ix (db_rd 5) (db_rd 8))).b (dba_cons ((dt_op d2_add ((dt_op d2_ix (db_rd 3) (db_rd 7))).b (db_rd 9))).b dba_nil)))))))
    (ds_seq (ds_if (dtt_val (dt_op d2_eq (db_rd 5) (db_rd 3))) (ds_ret (dt_cb dc_tuple (dba_cons (db_rd 3) dba_nil))) ds_next)
    (ds_still (i := 5) (ds_asg (dt_var 5) (dg_name 3)))))))
    (ds_ret dt_non))))⟩)
  (fun _ _ _ _ _ _ us hl => match us, hl with | [_, _], _ => rfl)
abbrev s_prices : Stmt := top 32
theorem sc_prices : FnScope ["table", "dealing", "rent", "told", "share", "one"] ["table", "dealing", "rent"] (defScope s_prices) := ⟨rfl, rfl, rfl, by decide +kernel, rfl, by decide +kernel, by decide +kernel⟩
theorem c_prices (T : Txt K mg) : CalX PR w K mg base 7 "prices" 3 m_prices := m_prices_eq.symm ▸ cal_ofX (N := ["table", "dealing", "rent", "told", "share", "one"]) (ps := ["table", "dealing", "rent"]) (st := s_prices) (j := 3) (f := f_prices) T.f_prices T.g_prices sc_prices rfl rfl (fun cdv A outer s H E hr => ⟨_, (pss_cons (ps_expr (pe_calX (c_check_rooms T) passesF (hr.mono (by decide)) (by rfl) (pa_cons (pv 0) pa_nil)))
    (pss_cons (ps_expr (pe_calX (c_check_rent T) passesF (hr.mono (by decide)) (by rfl) (pa_cons (pv 2) pa_nil)))
    (pss_cons (ps_if (pt_not (pt_tru (pe_calX (c_is_dealing T) passesF (hr.mono (by decide)) (by rfl) (pa_cons (pv 0) (pa_cons (pv 1) pa_nil))))) (pss_one (ps_ret pe_non)) pss_nil)
    (pss_cons (ps_set (i := 3) sc_prices.nd rfl (by first | exact Or.inl rfl | exact Or.inr rfl) (pe_cal (c_lifts T) (hr.mono (by decide)) (by rfl) (pa_cons (pv 0) (pa_cons (pv 1) pa_nil))))
    (pss_cons (ps_if (pt_cmpR op_isX (pv 3) pe_non (nomark _)) (pss_one (ps_ret pe_non)) pss_nil)
    (pss_cons (ps_set (i := 4) sc_prices.nd rfl (by first | exact Or.inl rfl | exact Or.inr rfl) (pe_calX (c_fraction T) passesF (hr.mono (by decide)) (by rfl) (pa_cons (pe_op op_sub (pe_ix ix_seq (pv 2) pe_int (fun _ _ => rfl)) (pe_op op_mulT (pe_callB (cr_sumW rfl) (by rfl) T.b_sum bt_sum (pa_cons (pv 3) pa_nil)) (pe_ix ix_seq (pv 2) pe_int (fun _ _ => rfl)))) (pa_cons (pe_op op_mulT (pe_ix ix_seq (pv 2) pe_int (fun _ _ => rfl)) (pe_fld (pv 0) rfl)) pa_nil))))
    (pss_one (ps_ret (pe_callTy callA_tuple (by rfl) T.b_tuple bt_tuple (pa_cons (pe_lcF (own := [("one", 5)]) (g := (gName 5)) (tt := tYes) (te := (tCall (spX K 2 m_plus) [] E (tCons (tTupF (tCons (tVar 5) (tCons (tC (.int 1)) tNil))) (tCons (tVar 4) tNil)))) sc_prices.nd (pi_seq (pv 3)) (blkOk_by (by kernel_rfl)) (fun _ _ _ _ _ => (pg_name (i := 5) sc_prices.nd rfl (by first | exact Or.inl rfl | exact Or.inr rfl))) (fun _ _ _ _ _ => pts_nil) (fun _ _ _ _ _ => (pe_calX (c_plus T) passesB (hr.mono (by decide)) (by rfl) (pa_cons (pe_tupF (pa_cons (pv 5) (pa_cons pe_int pa_nil))) (pa_cons (pv 4) pa_nil))))) pa_nil)))))))))),
    dsKX fun a0 h0 hs0 W hE => by
    exact (ds_seq (ds_drop (dt_callX hE (dan_cons (dt_var 0) dan_nil)))
    (ds_seq (ds_drop (dt_callX hE (dan_cons (dt_var 2) dan_nil)))
    (ds_seq (ds_if (dtt_not (dtt_tru ((dt_callX hE (dan_cons (dt_var 0) (dan_cons (dt_var 1) dan_nil)))).b)) (ds_ret dt_non) ds_next)
    (ds_seq (ds_asg (dt_call0 (dan_cons (dt_var 0) (dan_cons (dt_var 1) dan_nil))) (dg_name 3))
    (ds_seq (ds_if (dtt_val (dt_op d2_is (db_rd 3) (dt_non).b)) (ds_ret dt_non) ds_next)
    (ds_seq (ds_asg (dt_callX hE (dan_cons (dt_op d2_sub ((dt_op d2_ix (db_rd 2) ((dt_int 0)).b)).b ((dt_op d2_mulT ((dt_cb dc_sumW (dba_cons (db_rd 3) dba_nil))).b ((dt_op d2_ix (db_rd 2) ((dt_int 1)).b)).b)).b) (dan_cons (dt_op d2_mulT ((dt_op d2_ix (db_rd 2) ((dt_int 1)).b)).b ((dt_fld T.fl_things (db_rd 0))).b) dan_nil))) (dg_name 4))
    (ds_ret (dt_cb dc_tuple (dba_cons ((DF.t (df_lc (dib_seq (db_rd 3)) (dg_name 5) (by decide) dtt_yes (dt_callX hE (dan_cons (dt_tup (da_cons (dt_var 5) (da_cons (dt_int 1) da_nil))) (dan_cons (dt_var 4) dan_nil)))))).b dba_nil)))))))))⟩)
  (fun _ _ _ _ _ _ us hl => match us, hl with | [_, _, _], _ => rfl)
abbrev s_calm_rents : Stmt := top 33
theorem sc_calm_rents : FnScope ["table", "rent", "dealing"] ["table", "rent"] (defScope s_calm_rents) := ⟨rfl, rfl, rfl, by decide +kernel, rfl, by decide +kernel, by decide +kernel⟩
theorem c_calm_rents (T : Txt K mg) : CalX PR w K mg base 8 "calm_rents" 2 m_calm_rents := m_calm_rents_eq.symm ▸ cal_ofX (N := ["table", "rent", "dealing"]) (ps := ["table", "rent"]) (st := s_calm_rents) (j := 1) (f := f_calm_rents) T.f_calm_rents T.g_calm_rents sc_calm_rents rfl rfl (fun cdv A outer s H E hr => ⟨_, (pss_cons (ps_expr (pe_calX (c_check_rooms T) passesF (hr.mono (by decide)) (by rfl) (pa_cons (pv 0) pa_nil)))
    (pss_cons (ps_expr (pe_calX (c_check_rent T) passesF (hr.mono (by decide)) (by rfl) (pa_cons (pv 1) pa_nil)))
    (pss_cons (ps_set (i := 2) sc_calm_rents.nd rfl (by first | exact Or.inl rfl | exact Or.inr rfl) (pe_ix ix_seq (pe_calX (c_best_dealing T) passesF (hr.mono (by decide)) (by rfl) (pa_cons (pv 0) pa_nil)) pe_int (fun _ _ => rfl)))
    (pss_one (ps_ret (pe_tupF (pa_cons (pv 2) (pa_cons (pe_calX (c_prices T) passesF (hr.mono (by decide)) (by rfl) (pa_cons (pv 0) (pa_cons (pv 2) (pa_cons (pv 1) pa_nil)))) pa_nil)))))))),
    dsKX fun a0 h0 hs0 W hE => by
    exact (ds_seq (ds_drop (dt_callX hE (dan_cons (dt_var 0) dan_nil)))
    (ds_seq (ds_drop (dt_callX hE (dan_cons (dt_var 1) dan_nil)))
    (ds_seq (ds_asg (dt_op d2_ix ((dt_callX hE (dan_cons (dt_var 0) dan_nil))).b ((dt_int 1)).b) (dg_name 2))
    (ds_ret (dt_tup (da_cons (dt_var 2) (da_cons (dt_callX hE (dan_cons (dt_var 0) (dan_cons (dt_var 2) (dan_cons (dt_var 1) dan_nil)))) da_nil)))))))⟩)
  (fun _ _ _ _ _ _ us hl => match us, hl with | [_, _], _ => rfl)
abbrev s_left_for : Stmt := top 34
theorem sc_left_for : FnScope ["table", "dealing", "told", "person", "room"] ["table", "dealing", "told"] (defScope s_left_for) := ⟨rfl, rfl, rfl, by decide +kernel, rfl, by decide +kernel, by decide +kernel⟩
theorem c_left_for (T : Txt K mg) : CalX PR w K mg base 7 "left_for" 3 m_left_for := m_left_for_eq.symm ▸ cal_ofX (N := ["table", "dealing", "told", "person", "room"]) (ps := ["table", "dealing", "told"]) (st := s_left_for) (j := 2) (f := f_left_for) T.f_left_for T.g_left_for sc_left_for rfl rfl (fun cdv A outer s H E hr => ⟨_, (pss_cons (ps_expr (pe_calX (c_check_rooms T) passesF (hr.mono (by decide)) (by rfl) (pa_cons (pv 0) pa_nil)))
    (pss_one (ps_ret (pe_callTy callA_tuple (by rfl) T.b_tuple bt_tuple (pa_cons (pe_lcF (own := [("person", 3), ("room", 4)]) (g := (gTup K 2 (gCons (gName 3) (gCons (gName 4) gNil)))) (tt := tYes) (te := (tCall (spX K 2 m_minus) [] E (tCons (tTupF (tCons (tOp (rIx K) (tOp (rIx K) (tFld K (tVar 0) "rows") (tVar 3)) (tVar 4)) (tCons (tC (.int 1)) tNil))) (tCons (tOp (rIx K) (tVar 2) (tVar 4)) tNil)))) sc_left_for.nd (pi_enumK (by rfl) T.b_enumerate (pv 1)) (blkOk_by (by kernel_rfl)) (fun _ _ _ _ _ => (pg_tup (n := 2) rfl (pgs_cons (pg_name (i := 3) sc_left_for.nd rfl (by first | exact Or.inl rfl | exact Or.inr rfl)) (pgs_cons (pg_name (i := 4) sc_left_for.nd rfl (by first | exact Or.inl rfl | exact Or.inr rfl)) pgs_nil)))) (fun _ _ _ _ _ => pts_nil) (fun _ _ _ _ _ => (pe_calX (c_minus T) passesB (hr.mono (by decide)) (by rfl) (pa_cons (pe_tupF (pa_cons (pe_ix ix_seq (pe_ix ix_seq (pe_fld (pv 0) rfl) (pv 3) (fun _ _ => rfl)) (pv 4) (fun _ _ => rfl)) (pa_cons pe_int pa_nil))) (pa_cons (pe_ix ix_seq (pv 2) (pv 4) (fun _ _ => rfl)) pa_nil))))) pa_nil))))),
    dsKX fun a0 h0 hs0 W hE => by
    exact (ds_seq (ds_drop (dt_callX hE (dan_cons (dt_var 0) dan_nil)))
    (ds_ret (dt_cb dc_tuple (dba_cons ((DF.t (df_lc (dib_enum (db_rd 1)) (dg_tup (n := 2) (dgs_cons (dg_name 3) (dgs_cons (dg_name 4) dgs_nil))) (by decide) dtt_yes (dt_callX hE (dan_cons (dt_tup (da_cons (dt_op d2_ix ((dt_op d2_ix ((dt_fld T.fl_rows (db_rd 0))).b (db_rd 3))).b (db_rd 4)) (da_cons (dt_int 1) da_nil))) (dan_cons (dt_op d2_ix (db_rd 2) (db_rd 4)) dan_nil)))))).b dba_nil))))⟩)
  (fun _ _ _ _ _ _ us hl => match us, hl with | [_, _, _], _ => rfl)
abbrev s_ring : Stmt := top 35
theorem sc_ring : FnScope ["table", "dealing", "ways", "found", "later", "way", "gain", "one", "other", "person"] ["table", "dealing"] (defScope s_ring) := ⟨rfl, rfl, rfl, by decide +kernel, rfl, by decide +kernel, by decide +kernel⟩
theorem c_ring (T : Txt K mg) : CalX PR w K mg base 6 "ring" 2 m_ring := m_ring_eq.symm ▸ cal_ofX (N := ["table", "dealing", "ways", "found", "later", "way", "gain", "one", "other", "person"]) (ps := ["table", "dealing"]) (st := s_ring) (j := 8) (f := f_ring) T.f_ring T.g_ring sc_ring rfl rfl (fun cdv A outer s H E hr => ⟨_, (pss_cons (ps_expr (pe_calX (c_check_rooms T) passesF (hr.mono (by decide)) (by rfl) (pa_cons (pv 0) pa_nil)))
    (pss_cons (ps_setLc (i := 2) (own := [("person", 9)]) (g := (gName 9)) (tt := tYes) (te := (tTupF (tCons (tVar 9) tNil))) rfl sc_ring.nd rfl rfl (sw_true rfl rfl rfl (by decide +kernel)) (pi_range1 (by rfl) T.b_range (pa_cons (pe_fld (pv 0) rfl) pa_nil)) (blkOk_by (by kernel_rfl)) (fun _ _ _ _ _ => (pg_name (i := 9) sc_ring.nd rfl (by first | exact Or.inl rfl | exact Or.inr rfl))) (fun _ _ _ _ _ => pts_nil) (fun _ _ _ _ _ => (pe_tupF (pa_cons (pv 9) pa_nil))))
    (pss_cons (ps_while ownsF (pt_cmpR (op_neD hr.units) (pv 2) (pe_lst pa_nil) (nomark _)) (pss_cons (ps_par2 (i := 3) (j := 4) rfl sc_ring.nd rfl rfl (by decide) rfl rfl (pa_cons (pe_lst pa_nil) (pa_cons (pe_lst pa_nil) pa_nil)) (by rfl))
    (pss_cons (ps_for ownsF rfl (pi_seq (pv 2)) (pg_name (i := 5) sc_ring.nd rfl (by first | exact Or.inl rfl | exact Or.inr rfl)) (pss_cons (ps_set (i := 6) sc_ring.nd rfl (by first | exact Or.inl rfl | exact Or.inr rfl) pe_int)
    (pss_cons (ps_for ownsF rfl (pi_zipK (by rfl) T.b_zip (pv 5) (pe_op op_addX (pe_slice sl_anyX (pv 5) (po_some pe_int) po_none) (pe_slice sl_anyX (pv 5) po_none (po_some pe_int)))) (pg_tup (n := 2) rfl (pgs_cons (pg_name (i := 7) sc_ring.nd rfl (by first | exact Or.inl rfl | exact Or.inr rfl)) (pgs_cons (pg_name (i := 8) sc_ring.nd rfl (by first | exact Or.inl rfl | exact Or.inr rfl)) pgs_nil))) (pss_one (ps_aug (i := 6) sc_ring.nd rfl (by first | exact Or.inl rfl | exact Or.inr rfl) (pe_op op_sub (pe_ix ix_seq (pe_ix ix_seq (pe_fld (pv 0) rfl) (pv 7) (fun _ _ => rfl)) (pe_ix ix_seq (pv 1) (pv 8) (fun _ _ => rfl)) (fun _ _ => rfl)) (pe_ix ix_seq (pe_ix ix_seq (pe_fld (pv 0) rfl) (pv 7) (fun _ _ => rfl)) (pe_ix ix_seq (pv 1) (pv 7) (fun _ _ => rfl)) (fun _ _ => rfl))) ip_add)))
    (pss_cons (ps_expr (pe_bm PySem.F.plainAttrs_list PySem.F.slot_list_extend PySem.F.type_list_extend mt_extend (pv 3) (pa_cons (pe_ifExp (PW.pt (pw_and (pt_cmpR (op_gtV (units1 hr)) (pv 6) pe_int (nomark _)) (pw_and1 (pt_cmpR (op_gtV (units1 hr)) (pe_callB call_lenX (by rfl) T.b_len bt_len (pa_cons (pv 5) pa_nil)) pe_int (nomark _))))) (pe_lst (pa_cons (pv 5) pa_nil)) (pe_lst pa_nil)) pa_nil)))
    (pss_one (ps_expr (pe_bm PySem.F.plainAttrs_list PySem.F.slot_list_extend PySem.F.type_list_extend mt_extend (pv 4) (pa_cons (pe_lc (own := [("other", 8)]) (g := (gName 8)) (tt := (tAnd (tTest (tOp (rCmpV K (fun i j => decide (j < i)) fun d e => PySem.W.dataLt e d) (tVar 8) (tOp (rIx K) (tVar 5) (tC (.int 0))))) (tTest (tOp (rNotInX K) (tVar 8) (tVar 5))))) (te := (tOp (rAddX K) (tVar 5) (tTupF (tCons (tVar 8) tNil)))) rfl sc_ring.nd (pi_range1 (by rfl) T.b_range (pa_cons (pe_fld (pv 0) rfl) pa_nil)) (blkOk_by (by kernel_rfl)) (fun _ _ _ _ _ => (pg_name (i := 8) sc_ring.nd rfl (by first | exact Or.inl rfl | exact Or.inr rfl))) (fun _ _ _ _ _ => (pts_one (PW.pt (pw_and (pt_cmpR (op_gtV (units1 hr)) (pv 8) (pe_ix ix_seq (pv 5) pe_int (fun _ _ => rfl)) (nomark _)) (pw_and1 (pt_cmpR (op_notInXX (units1 hr)) (pv 8) (pv 5) (by rfl))))))) (fun _ _ _ _ _ => (pe_op op_addX (pv 5) (pe_tupF (pa_cons (pv 8) pa_nil))))) pa_nil))))))))
    (pss_cons (ps_if (pt_cmpR (op_neD hr.units) (pv 3) (pe_lst pa_nil) (nomark _)) (pss_one (ps_ret (pe_callB (cr_minV rfl hr.units) (by rfl) T.b_min bt_min (pa_cons (pv 3) pa_nil)))) pss_nil)
    (pss_one (ps_set (i := 2) sc_ring.nd rfl (by first | exact Or.inl rfl | exact Or.inr rfl) (pv 4)))))))
    (pss_one (ps_ret pe_non))))),
    dsKX fun a0 h0 hs0 W hE => by
    exact (ds_seq (ds_drop (dt_callX hE (dan_cons (dt_var 0) dan_nil)))
    (ds_seq (ds_asg (DF.t (df_lc ((di_rg1 (dt_fld T.fl_persons (db_rd 0)))).b (dg_name 9) (by decide) dtt_yes (dt_tup (da_cons (dt_var 9) da_nil)))) (dg_name 2))
    (ds_seq (ds_while (dtt_val (dt_op d2_ne (db_rd 2) ((DF.t (df_lst da_nil))).b)) (ds_seq (ds_parN (is := [3, 4]) (dn_ol (df_lst da_nil) (dn_ol (df_lst da_nil) dn_nil)) rfl (by decide))
    (ds_seq (ds_for (di_seq (dt_var 2)) (dg_name 5) (ds_seq (ds_asg (dt_int 0) (dg_name 6))
    (ds_seq (ds_for (di_zip (dt_var 5) (dt_op d2_add ((dt_sl (db_rd 5) (do_some (dt_int 1)) do_none)).b ((dt_sl (db_rd 5) do_none (do_some (dt_int 1)))).b)) (dg_tup (n := 2) (dgs_cons (dg_name 7) (dgs_cons (dg_name 8) dgs_nil))) (ds_augI (i := 6) (dt_op d2_sub ((dt_op d2_ix ((dt_op d2_ix ((dt_fld T.fl_rows (db_rd 0))).b (db_rd 7))).b ((dt_op d2_ix (db_rd 1) (db_rd 8))).b)).b ((dt_op d2_ix ((dt_op d2_ix ((dt_fld T.fl_rows (db_rd 0))).b (db_rd 7))).b ((dt_op d2_ix (db_rd 1) (db_rd 7))).b)).b)))
    (ds_seq (ds_ext (i := 3) ((dt_if (dtt_and (dtt_val (dt_op d2_gtV (db_rd 6) ((dt_int 0)).b)) (dtt_val (dt_op d2_gtV ((dt_cb dc_len (dba_cons (db_rd 5) dba_nil))).b ((dt_int 1)).b))) (DF.t (df_lst (da_cons (dt_var 5) da_nil))) (DF.t (df_lst da_nil)))).b)
    (ds_ext (i := 4) ((DF.t (df_lc ((di_rg1 (dt_fld T.fl_persons (db_rd 0)))).b (dg_name 8) (by decide) (dtt_and (dtt_val (dt_op d2_gtV (db_rd 8) ((dt_op d2_ix (db_rd 5) ((dt_int 0)).b)).b)) (dtt_val (dt_op d2_notInX (db_rd 8) (db_rd 5)))) (dt_op d2_add (db_rd 5) ((dt_tup (da_cons (dt_var 8) da_nil))).b)))).b)))))
    (ds_seq (ds_if (dtt_val (dt_op d2_ne (db_rd 3) ((DF.t (df_lst da_nil))).b)) (ds_ret (dt_cb dc_minV (dba_cons (db_rd 3) dba_nil))) ds_next)
    (ds_still (i := 4) (ds_asg (dt_var 4) (dg_name 2)))))))
    (ds_ret dt_non))))⟩)
  (fun _ _ _ _ _ _ us hl => match us, hl with | [_, _], _ => rfl)
abbrev s_come_to : Stmt := top 36
theorem sc_come_to : FnScope ["told", "rent"] ["told", "rent"] (defScope s_come_to) := ⟨rfl, rfl, rfl, by decide +kernel, rfl, by decide +kernel, by decide +kernel⟩
theorem c_come_to (T : Txt K mg) : CalX PR w K mg base 8 "come_to" 2 m_come_to := m_come_to_eq.symm ▸ cal_ofX (N := ["told", "rent"]) (ps := ["told", "rent"]) (st := s_come_to) (j := 0) (f := f_come_to) T.f_come_to T.g_come_to sc_come_to rfl rfl (fun cdv A outer s H E hr => ⟨_, (pss_cons (ps_if (pt_not (pt_tru (pe_cal (c_is_row T) (hr.mono (by decide)) (by rfl) (pa_cons (pv 0) pa_nil)))) (pss_one (ps_raise0 (T.x_NoFraction w base) rfl takesF (hr.mono (by decide)) (by rfl))) pss_nil)
    (pss_one (ps_ret (pe_ifExp (pt_cmpR (op_neD hr.units) (pe_callTy callA_list (by rfl) T.b_list bt_list (pa_cons (pv 0) pa_nil)) (pe_lst pa_nil) (nomark _)) (pe_cmpR (op_eqD hr.units) (pe_calX (c_total T) passesF (hr.mono (by decide)) (by rfl) (pa_cons (pe_callTy callA_list (by rfl) T.b_list bt_list (pa_cons (pv 0) pa_nil)) pa_nil)) (pv 1) (nomark _)) (pe_cmpR (op_eqD hr.units) (pv 1) (pe_gcls (by rfl) T.gx_ZERO) (nomark _)))))),
    dsKX fun a0 h0 hs0 W hE => by
    exact (ds_seq (ds_if (dtt_not (dtt_tru ((dt_call0 (dan_cons (dt_var 0) dan_nil))).b)) (ds_raise0 (flds := (fun _ => [(("word" : Str), V.str "nofraction")])) hE repF_w) ds_next)
    (ds_ret (dt_if (dtt_val (dt_op d2_ne ((DF.t (df_cb dcf_list (dba_cons (db_rd 0) dba_nil)))).b ((DF.t (df_lst da_nil))).b)) (dt_op d2_eq ((dt_callX hE (dan_cons (DF.t (df_cb dcf_list (dba_cons (db_rd 0) dba_nil))) dan_nil))).b (db_rd 1)) (dt_op d2_eq (db_rd 1) ((dt_gtup (ns := [(0), (1)]) T.gt_ZERO)).b))))⟩)
  (fun _ _ _ _ _ _ us hl => match us, hl with | [_, _], _ => rfl)
abbrev s_are_pays : Stmt := top 38
theorem sc_are_pays : FnScope ["table", "thing", "one"] ["table", "thing"] (defScope s_are_pays) := ⟨rfl, rfl, rfl, by decide +kernel, rfl, by decide +kernel, by decide +kernel⟩
theorem c_are_pays (T : Txt K mg) : CalX PR w K mg base 8 "are_pays" 2 m_are_pays := m_are_pays_eq.symm ▸ cal_ofX (N := ["table", "thing", "one"]) (ps := ["table", "thing"]) (st := s_are_pays) (j := 1) (f := f_are_pays) T.f_are_pays T.g_are_pays sc_are_pays rfl rfl (fun cdv A outer s H E hr => ⟨_, (pss_cons (ps_if (PW.pt (pw_or (pt_not (pt_tru (pe_callB call_isi (by rfl) T.b_isinstance bt_isinstance (pa_cons (pv 1) (pa_cons (pe_bltn (v := .ty "tuple") (by rfl) T.b_tuple bt_tuple rfl) pa_nil))))) (pw_or (pt_cmpR (op_neD hr.units) (pe_callB call_lenX (by rfl) T.b_len bt_len (pa_cons (pv 1) pa_nil)) (pe_fld (pv 0) rfl) (nomark _)) (pw_or1 (pt_not (pt_tru (pe_callB (cr_all rfl) (by rfl) T.b_all bt_all (pa_cons (pe_lc (own := [("one", 2)]) (g := (gName 2)) (tt := tYes) (te := (tCall (spOf K 1 m_is_fraction) [] E0 (tCons (tVar 2) tNil))) rfl sc_are_pays.nd (pi_seq (pv 1)) (blkOk_by (by kernel_rfl)) (fun _ _ _ _ _ => (pg_name (i := 2) sc_are_pays.nd rfl (by first | exact Or.inl rfl | exact Or.inr rfl))) (fun _ _ _ _ _ => pts_nil) (fun _ _ _ _ _ => (pe_cal (c_is_fraction T) (hr.mono (by decide)) (by rfl) (pa_cons (pv 2) pa_nil)))) pa_nil)))))))) (pss_one (ps_ret pe_bl)) pss_nil)
    (pss_one (ps_ret (pe_cmpR (op_eqD hr.units) (pe_calX (c_total T) passesF (hr.mono (by decide)) (by rfl) (pa_cons (pe_callTy callA_list (by rfl) T.b_list bt_list (pa_cons (pv 1) pa_nil)) pa_nil)) (pe_gcls (by rfl) T.gx_ZERO) (nomark _))))),
    dsKX fun a0 h0 hs0 W hE => by
    exact (ds_seq (ds_if (dtt_or (dtt_not (dtt_tru ((dt_isi (by decide) (db_rd 1))).b)) (dtt_or (dtt_val (dt_op d2_ne ((dt_cb dc_len (dba_cons (db_rd 1) dba_nil))).b ((dt_fld T.fl_persons (db_rd 0))).b)) (dtt_not (dtt_tru ((dt_cb dc_all (dba_cons ((DF.t (df_lc (dib_seq (db_rd 1)) (dg_name 2) (by decide) dtt_yes (dt_call0 (dan_cons (dt_var 2) dan_nil))))).b dba_nil))).b)))) (ds_ret (dt_bl false)) ds_next)
    (ds_ret (dt_op d2_eq ((dt_callX hE (dan_cons (DF.t (df_cb dcf_list (dba_cons (db_rd 1) dba_nil))) dan_nil))).b ((dt_gtup (ns := [(0), (1)]) T.gt_ZERO)).b)))⟩)
  (fun _ _ _ _ _ _ us hl => match us, hl with | [_, _], _ => rfl)
abbrev s_left_with : Stmt := top 39
theorem sc_left_with : FnScope ["table", "deal", "pays", "found", "person", "gain", "one", "owner"] ["table", "deal", "pays"] (defScope s_left_with) := ⟨rfl, rfl, rfl, by decide +kernel, rfl, by decide +kernel, by decide +kernel⟩
theorem c_left_with (T : Txt K mg) : CalX PR w K mg base 9 "left_with" 3 m_left_with := m_left_with_eq.symm ▸ cal_ofX (N := ["table", "deal", "pays", "found", "person", "gain", "one", "owner"]) (ps := ["table", "deal", "pays"]) (st := s_left_with) (j := 5) (f := f_left_with) T.f_left_with T.g_left_with sc_left_with rfl rfl (fun cdv A outer s H E hr => ⟨_, (pss_cons (ps_if (PW.pt (pw_or (pt_not (pt_tru (pe_cal (c_is_deal T) (hr.mono (by decide)) (by rfl) (pa_cons (pv 0) (pa_cons (pv 1) pa_nil))))) (pw_or1 (pt_not (pt_tru (pe_calX (c_are_pays T) passesF (hr.mono (by decide)) (by rfl) (pa_cons (pv 0) (pa_cons (pv 2) pa_nil)))))))) (pss_one (ps_raise0 (T.x_NoBids w base) rfl takesF (hr.mono (by decide)) (by rfl))) pss_nil)
    (pss_cons (ps_set (i := 3) sc_left_with.nd rfl (by first | exact Or.inl rfl | exact Or.inr rfl) (pe_lst pa_nil))
    (pss_cons (ps_for ownsF rfl (pi_range1 (by rfl) T.b_range (pa_cons (pe_fld (pv 0) rfl) pa_nil)) (pg_name (i := 4) sc_left_with.nd rfl (by first | exact Or.inl rfl | exact Or.inr rfl)) (pss_cons (ps_set (i := 5) sc_left_with.nd rfl (by first | exact Or.inl rfl | exact Or.inr rfl) (pe_callB (cr_sumW rfl) (by rfl) T.b_sum bt_sum (pa_cons (pe_lc (own := [("one", 6), ("owner", 7)]) (g := (gTup K 2 (gCons (gName 6) (gCons (gName 7) gNil)))) (tt := (tTest (tOp (rEqD K) (tVar 7) (tVar 4)))) (te := (tOp (rIx K) (tOp (rIx K) (tFld K (tVar 0) "rows") (tVar 4)) (tVar 6))) rfl sc_left_with.nd (pi_enumK (by rfl) T.b_enumerate (pv 1)) (blkOk_by (by kernel_rfl)) (fun _ _ _ _ _ => (pg_tup (n := 2) rfl (pgs_cons (pg_name (i := 6) sc_left_with.nd rfl (by first | exact Or.inl rfl | exact Or.inr rfl)) (pgs_cons (pg_name (i := 7) sc_left_with.nd rfl (by first | exact Or.inl rfl | exact Or.inr rfl)) pgs_nil)))) (fun _ _ _ _ _ => (pts_one (pt_cmpR (op_eqD hr.units) (pv 7) (pv 4) (nomark _)))) (fun _ _ _ _ _ => (pe_ix ix_seq (pe_ix ix_seq (pe_fld (pv 0) rfl) (pv 4) (fun _ _ => rfl)) (pv 6) (fun _ _ => rfl)))) pa_nil)))
    (pss_one (ps_expr (pe_bm PySem.F.plainAttrs_list PySem.F.slot_list_append PySem.F.type_list_append mt_append (pv 3) (pa_cons (pe_calX (c_minus T) passesF (hr.mono (by decide)) (by rfl) (pa_cons (pe_tupF (pa_cons (pv 5) (pa_cons pe_int pa_nil))) (pa_cons (pe_ix ix_seq (pv 2) (pv 4) (fun _ _ => rfl)) pa_nil))) pa_nil))))))
    (pss_one (ps_ret (pe_callTy callA_tuple (by rfl) T.b_tuple bt_tuple (pa_cons (pv 3) pa_nil))))))),
    dsKX fun a0 h0 hs0 W hE => by
    exact (ds_seq (ds_if (dtt_or (dtt_not (dtt_tru ((dt_call0 (dan_cons (dt_var 0) (dan_cons (dt_var 1) dan_nil)))).b)) (dtt_not (dtt_tru ((dt_callX hE (dan_cons (dt_var 0) (dan_cons (dt_var 2) dan_nil)))).b))) (ds_raise0 (flds := (fun _ => [(("word" : Str), V.str "nobids")])) hE repF_w) ds_next)
    (ds_seq (ds_own (i := 3) (df_lst da_nil))
    (ds_seq (ds_for (di_rg1 (dt_fld T.fl_persons (db_rd 0))) (dg_name 4) (ds_seq (ds_asg (dt_cb dc_sumW (dba_cons ((DF.t (df_lc (dib_enum (db_rd 1)) (dg_tup (n := 2) (dgs_cons (dg_name 6) (dgs_cons (dg_name 7) dgs_nil))) (by decide) (dtt_val (dt_op d2_eq (db_rd 7) (db_rd 4))) (dt_op d2_ix ((dt_op d2_ix ((dt_fld T.fl_rows (db_rd 0))).b (db_rd 4))).b (db_rd 6))))).b dba_nil)) (dg_name 5))
    (ds_app (i := 3) (dt_callX hE (dan_cons (dt_tup (da_cons (dt_var 5) (da_cons (dt_int 1) da_nil))) (dan_cons (dt_op d2_ix (db_rd 2) (db_rd 4)) dan_nil))))))
    (ds_ret (dt_cb dc_tuple (dba_cons (db_rd 3) dba_nil))))))⟩)
  (fun _ _ _ _ _ _ us hl => match us, hl with | [_, _, _], _ => rfl)
abbrev s_money_envy : Stmt := top 40
theorem sc_money_envy : FnScope ["table", "deal", "pays", "found", "person", "row", "other", "gain", "one", "owner"] ["table", "deal", "pays"] (defScope s_money_envy) := ⟨rfl, rfl, rfl, by decide +kernel, rfl, by decide +kernel, by decide +kernel⟩
theorem c_money_envy (T : Txt K mg) : CalX PR w K mg base 9 "money_envy" 3 m_money_envy := m_money_envy_eq.symm ▸ cal_ofX (N := ["table", "deal", "pays", "found", "person", "row", "other", "gain", "one", "owner"]) (ps := ["table", "deal", "pays"]) (st := s_money_envy) (j := 7) (f := f_money_envy) T.f_money_envy T.g_money_envy sc_money_envy rfl rfl (fun cdv A outer s H E hr => ⟨_, (pss_cons (ps_if (PW.pt (pw_or (pt_not (pt_tru (pe_cal (c_is_deal T) (hr.mono (by decide)) (by rfl) (pa_cons (pv 0) (pa_cons (pv 1) pa_nil))))) (pw_or1 (pt_not (pt_tru (pe_calX (c_are_pays T) passesF (hr.mono (by decide)) (by rfl) (pa_cons (pv 0) (pa_cons (pv 2) pa_nil)))))))) (pss_one (ps_raise0 (T.x_NoBids w base) rfl takesF (hr.mono (by decide)) (by rfl))) pss_nil)
    (pss_cons (ps_set (i := 3) sc_money_envy.nd rfl (by first | exact Or.inl rfl | exact Or.inr rfl) (pe_lst pa_nil))
    (pss_cons (ps_for ownsF rfl (pi_range1 (by rfl) T.b_range (pa_cons (pe_fld (pv 0) rfl) pa_nil)) (pg_name (i := 4) sc_money_envy.nd rfl (by first | exact Or.inl rfl | exact Or.inr rfl)) (pss_cons (ps_set (i := 5) sc_money_envy.nd rfl (by first | exact Or.inl rfl | exact Or.inr rfl) (pe_lst pa_nil))
    (pss_cons (ps_for ownsF rfl (pi_range1 (by rfl) T.b_range (pa_cons (pe_fld (pv 0) rfl) pa_nil)) (pg_name (i := 6) sc_money_envy.nd rfl (by first | exact Or.inl rfl | exact Or.inr rfl)) (pss_cons (ps_set (i := 7) sc_money_envy.nd rfl (by first | exact Or.inl rfl | exact Or.inr rfl) (pe_callB (cr_sumW rfl) (by rfl) T.b_sum bt_sum (pa_cons (pe_lc (own := [("one", 8), ("owner", 9)]) (g := (gTup K 2 (gCons (gName 8) (gCons (gName 9) gNil)))) (tt := (tTest (tOp (rEqD K) (tVar 9) (tVar 6)))) (te := (tOp (rIx K) (tOp (rIx K) (tFld K (tVar 0) "rows") (tVar 4)) (tVar 8))) rfl sc_money_envy.nd (pi_enumK (by rfl) T.b_enumerate (pv 1)) (blkOk_by (by kernel_rfl)) (fun _ _ _ _ _ => (pg_tup (n := 2) rfl (pgs_cons (pg_name (i := 8) sc_money_envy.nd rfl (by first | exact Or.inl rfl | exact Or.inr rfl)) (pgs_cons (pg_name (i := 9) sc_money_envy.nd rfl (by first | exact Or.inl rfl | exact Or.inr rfl)) pgs_nil)))) (fun _ _ _ _ _ => (pts_one (pt_cmpR (op_eqD hr.units) (pv 9) (pv 6) (nomark _)))) (fun _ _ _ _ _ => (pe_ix ix_seq (pe_ix ix_seq (pe_fld (pv 0) rfl) (pv 4) (fun _ _ => rfl)) (pv 8) (fun _ _ => rfl)))) pa_nil)))
    (pss_one (ps_expr (pe_bm PySem.F.plainAttrs_list PySem.F.slot_list_append PySem.F.type_list_append mt_append (pv 5) (pa_cons (pe_calX (c_minus T) passesF (hr.mono (by decide)) (by rfl) (pa_cons (pe_tupF (pa_cons (pv 7) (pa_cons pe_int pa_nil))) (pa_cons (pe_ix ix_seq (pv 2) (pv 6) (fun _ _ => rfl)) pa_nil))) pa_nil))))))
    (pss_one (ps_expr (pe_bm PySem.F.plainAttrs_list PySem.F.slot_list_extend PySem.F.type_list_extend mt_extend (pv 3) (pa_cons (pe_lc (own := [("other", 6)]) (g := (gName 6)) (tt := (tTru K (tCall (spOf K 2 m_less) [] E0 (tCons (tOp (rIx K) (tVar 5) (tVar 4)) (tCons (tOp (rIx K) (tVar 5) (tVar 6)) tNil))))) (te := (tTupF (tCons (tVar 4) (tCons (tVar 6) tNil)))) rfl sc_money_envy.nd (pi_range1 (by rfl) T.b_range (pa_cons (pe_fld (pv 0) rfl) pa_nil)) (blkOk_by (by kernel_rfl)) (fun _ _ _ _ _ => (pg_name (i := 6) sc_money_envy.nd rfl (by first | exact Or.inl rfl | exact Or.inr rfl))) (fun _ _ _ _ _ => (pts_one (pt_tru (pe_cal (c_less T) (hr.mono (by decide)) (by rfl) (pa_cons (pe_ix ix_seq (pv 5) (pv 4) (fun _ _ => rfl)) (pa_cons (pe_ix ix_seq (pv 5) (pv 6) (fun _ _ => rfl)) pa_nil)))))) (fun _ _ _ _ _ => (pe_tupF (pa_cons (pv 4) (pa_cons (pv 6) pa_nil))))) pa_nil)))))))
    (pss_one (ps_ret (pv 3)))))),
    dsKX fun a0 h0 hs0 W hE => by
    exact (ds_seq (ds_if (dtt_or (dtt_not (dtt_tru ((dt_call0 (dan_cons (dt_var 0) (dan_cons (dt_var 1) dan_nil)))).b)) (dtt_not (dtt_tru ((dt_callX hE (dan_cons (dt_var 0) (dan_cons (dt_var 2) dan_nil)))).b))) (ds_raise0 (flds := (fun _ => [(("word" : Str), V.str "nobids")])) hE repF_w) ds_next)
    (ds_seq (ds_own (i := 3) (df_lst da_nil))
    (ds_seq (ds_for (di_rg1 (dt_fld T.fl_persons (db_rd 0))) (dg_name 4) (ds_seq (ds_own (i := 5) (df_lst da_nil))
    (ds_seq (ds_for (di_rg1 (dt_fld T.fl_persons (db_rd 0))) (dg_name 6) (ds_seq (ds_asg (dt_cb dc_sumW (dba_cons ((DF.t (df_lc (dib_enum (db_rd 1)) (dg_tup (n := 2) (dgs_cons (dg_name 8) (dgs_cons (dg_name 9) dgs_nil))) (by decide) (dtt_val (dt_op d2_eq (db_rd 9) (db_rd 6))) (dt_op d2_ix ((dt_op d2_ix ((dt_fld T.fl_rows (db_rd 0))).b (db_rd 4))).b (db_rd 8))))).b dba_nil)) (dg_name 7))
    (ds_app (i := 5) (dt_callX hE (dan_cons (dt_tup (da_cons (dt_var 7) (da_cons (dt_int 1) da_nil))) (dan_cons (dt_op d2_ix (db_rd 2) (db_rd 6)) dan_nil))))))
    (ds_ext (i := 3) ((DF.t (df_lc ((di_rg1 (dt_fld T.fl_persons (db_rd 0)))).b (dg_name 6) (by decide) (dtt_tru ((dt_call0 (dan_cons (dt_op d2_ix (db_rd 5) (db_rd 4)) (dan_cons (dt_op d2_ix (db_rd 5) (db_rd 6)) dan_nil)))).b) (dt_tup (da_cons (dt_var 4) (da_cons (dt_var 6) da_nil)))))).b))))
    (ds_still (i := 3) (ds_ret (dt_var 3))))))⟩)
  (fun _ _ _ _ _ _ us hl => match us, hl with | [_, _, _], _ => rfl)
abbrev s_calm_pays : Stmt := top 41
theorem sc_calm_pays : FnScope ["table", "deal", "worths", "person", "row", "one", "owner", "now", "turn", "later", "other", "mean"] ["table", "deal"] (defScope s_calm_pays) := ⟨rfl, rfl, rfl, by decide +kernel, rfl, by decide +kernel, by decide +kernel⟩
theorem c_calm_pays (T : Txt K mg) : CalX PR w K mg base 7 "calm_pays" 2 m_calm_pays := m_calm_pays_eq.symm ▸ cal_ofX (N := ["table", "deal", "worths", "person", "row", "one", "owner", "now", "turn", "later", "other", "mean"]) (ps := ["table", "deal"]) (st := s_calm_pays) (j := 10) (f := f_calm_pays) T.f_calm_pays T.g_calm_pays sc_calm_pays rfl rfl (fun cdv A outer s H E hr => ⟨_, (pss_cons (ps_if (pt_not (pt_tru (pe_cal (c_is_deal T) (hr.mono (by decide)) (by rfl) (pa_cons (pv 0) (pa_cons (pv 1) pa_nil))))) (pss_one (ps_raise0 (T.x_NoBids w base) rfl takesF (hr.mono (by decide)) (by rfl))) pss_nil)
    (pss_cons (ps_set (i := 2) sc_calm_pays.nd rfl (by first | exact Or.inl rfl | exact Or.inr rfl) (pe_lst pa_nil))
    (pss_cons (ps_for ownsF rfl (pi_range1 (by rfl) T.b_range (pa_cons (pe_fld (pv 0) rfl) pa_nil)) (pg_name (i := 3) sc_calm_pays.nd rfl (by first | exact Or.inl rfl | exact Or.inr rfl)) (pss_cons (ps_set (i := 4) sc_calm_pays.nd rfl (by first | exact Or.inl rfl | exact Or.inr rfl) (pe_op op_mulXX (pe_lst (pa_cons pe_int pa_nil)) (pe_fld (pv 0) rfl)))
    (pss_cons (ps_for ownsF rfl (pi_enumK (by rfl) T.b_enumerate (pv 1)) (pg_tup (n := 2) rfl (pgs_cons (pg_name (i := 5) sc_calm_pays.nd rfl (by first | exact Or.inl rfl | exact Or.inr rfl)) (pgs_cons (pg_name (i := 6) sc_calm_pays.nd rfl (by first | exact Or.inl rfl | exact Or.inr rfl)) pgs_nil))) (pss_one (ps_augS (pv 4) (pv 6) get_list (pe_ix ix_seq (pe_ix ix_seq (pe_fld (pv 0) rfl) (pv 3) (fun _ _ => rfl)) (pv 5) (fun _ _ => rfl)) ip_add set_list)))
    (pss_one (ps_expr (pe_bm PySem.F.plainAttrs_list PySem.F.slot_list_append PySem.F.type_list_append mt_append (pv 2) (pa_cons (pv 4) pa_nil)))))))
    (pss_cons (ps_set (i := 7) sc_calm_pays.nd rfl (by first | exact Or.inl rfl | exact Or.inr rfl) (pe_op op_mulXX (pe_lst (pa_cons pe_int pa_nil)) (pe_fld (pv 0) rfl)))
    (pss_cons (ps_for ownsF rfl (pi_range1 (by rfl) T.b_range (pa_cons (pe_op op_addX (pe_fld (pv 0) rfl) pe_int) pa_nil)) (pg_name (i := 8) sc_calm_pays.nd rfl (by first | exact Or.inl rfl | exact Or.inr rfl)) (pss_cons (ps_set (i := 9) sc_calm_pays.nd rfl (by first | exact Or.inl rfl | exact Or.inr rfl) (pe_callTy callA_list (by rfl) T.b_list bt_list (pa_cons (pv 7) pa_nil)))
    (pss_cons (ps_for ownsF rfl (pi_range1 (by rfl) T.b_range (pa_cons (pe_fld (pv 0) rfl) pa_nil)) (pg_name (i := 3) sc_calm_pays.nd rfl (by first | exact Or.inl rfl | exact Or.inr rfl)) (pss_one (ps_for ownsF rfl (pi_range1 (by rfl) T.b_range (pa_cons (pe_fld (pv 0) rfl) pa_nil)) (pg_name (i := 10) sc_calm_pays.nd rfl (by first | exact Or.inl rfl | exact Or.inr rfl)) (pss_one (ps_asg (pe_callB (cr_maxV rfl hr.units) (by rfl) T.b_max bt_max (pa_cons (pe_ix ix_seq (pv 9) (pv 10) (fun _ _ => rfl)) (pa_cons (pe_op op_sub (pe_op op_addX (pe_ix ix_seq (pv 7) (pv 3) (fun _ _ => rfl)) (pe_ix ix_seq (pe_ix ix_seq (pv 2) (pv 3) (fun _ _ => rfl)) (pv 10) (fun _ _ => rfl))) (pe_ix ix_seq (pe_ix ix_seq (pv 2) (pv 3) (fun _ _ => rfl)) (pv 3) (fun _ _ => rfl))) pa_nil))) (pg_sub (pv 9) (pv 10) set_list))))))
    (pss_cons (ps_if (pt_cmpR (op_eqD hr.units) (pv 9) (pv 7) (nomark _)) (pss_cons (ps_set (i := 11) sc_calm_pays.nd rfl (by first | exact Or.inl rfl | exact Or.inr rfl) (pe_calX (c_fraction T) passesF (hr.mono (by decide)) (by rfl) (pa_cons (pe_callB (cr_sumW rfl) (by rfl) T.b_sum bt_sum (pa_cons (pv 7) pa_nil)) (pa_cons (pe_fld (pv 0) rfl) pa_nil))))
    (pss_one (ps_ret (pe_callTy callA_tuple (by rfl) T.b_tuple bt_tuple (pa_cons (pe_lcF (own := [("one", 5)]) (g := (gName 5)) (tt := tYes) (te := (tCall (spX K 2 m_minus) [] E (tCons (tTupF (tCons (tVar 5) (tCons (tC (.int 1)) tNil))) (tCons (tVar 11) tNil)))) sc_calm_pays.nd (pi_seq (pv 7)) (blkOk_by (by kernel_rfl)) (fun _ _ _ _ _ => (pg_name (i := 5) sc_calm_pays.nd rfl (by first | exact Or.inl rfl | exact Or.inr rfl))) (fun _ _ _ _ _ => pts_nil) (fun _ _ _ _ _ => (pe_calX (c_minus T) passesB (hr.mono (by decide)) (by rfl) (pa_cons (pe_tupF (pa_cons (pv 5) (pa_cons pe_int pa_nil))) (pa_cons (pv 11) pa_nil))))) pa_nil))))) pss_nil)
    (pss_one (ps_set (i := 7) sc_calm_pays.nd rfl (by first | exact Or.inl rfl | exact Or.inr rfl) (pv 9)))))))
    (pss_one (ps_ret pe_non))))))),
    dsKX fun a0 h0 hs0 W hE => by
    exact (ds_seq (ds_if (dtt_not (dtt_tru ((dt_call0 (dan_cons (dt_var 0) (dan_cons (dt_var 1) dan_nil)))).b)) (ds_raise0 (flds := (fun _ => [(("word" : Str), V.str "nobids")])) hE repF_w) ds_next)
    (ds_seq (ds_own (i := 2) (df_lst da_nil))
    (ds_seq (ds_for (di_rg1 (dt_fld T.fl_persons (db_rd 0))) (dg_name 3) (ds_seq (ds_own (i := 4) (df_op d2f_mul ((DF.t (df_lst (da_cons (dt_int 0) da_nil)))).b ((dt_fld T.fl_persons (db_rd 0))).b))
    (ds_seq (ds_for (di_enum (dt_var 1)) (dg_tup (n := 2) (dgs_cons (dg_name 5) (dgs_cons (dg_name 6) dgs_nil))) (ds_augSI (i := 4) (dt_var 6) (dt_op d2_ix ((dt_op d2_ix ((dt_fld T.fl_rows (db_rd 0))).b (db_rd 3))).b (db_rd 5))))
    (ds_still (i := 4) (ds_app (i := 2) (dt_var 4))))))
    (ds_seq (ds_asg (DF.t (df_op d2f_mul ((DF.t (df_lst (da_cons (dt_int 0) da_nil)))).b ((dt_fld T.fl_persons (db_rd 0))).b)) (dg_name 7))
    (ds_seq (ds_for (di_rg1 (dt_op d2_add ((dt_fld T.fl_persons (db_rd 0))).b ((dt_int 1)).b)) (dg_name 8) (ds_seq (ds_own (i := 9) (df_cb dcf_list (dba_cons (db_rd 7) dba_nil)))
    (ds_seq (ds_for (di_rg1 (dt_fld T.fl_persons (db_rd 0))) (dg_name 3) (ds_for (di_rg1 (dt_fld T.fl_persons (db_rd 0))) (dg_name 10) (ds_setI (i := 9) (dt_var 10) (dt_cb dc_maxV (dba_cons ((dt_op d2_ix (db_rd 9) (db_rd 10))).b (dba_cons ((dt_op d2_sub ((dt_op d2_add ((dt_op d2_ix (db_rd 7) (db_rd 3))).b ((dt_op d2_ix ((dt_op d2_ix (db_rd 2) (db_rd 3))).b (db_rd 10))).b)).b ((dt_op d2_ix ((dt_op d2_ix (db_rd 2) (db_rd 3))).b (db_rd 3))).b)).b dba_nil))))))
    (ds_seq (ds_if (dtt_val (dt_op d2_eq (db_rd 9) (db_rd 7))) (ds_seq (ds_asg (dt_callX hE (dan_cons (dt_cb dc_sumW (dba_cons (db_rd 7) dba_nil)) (dan_cons (dt_fld T.fl_persons (db_rd 0)) dan_nil))) (dg_name 11))
    (ds_ret (dt_cb dc_tuple (dba_cons ((DF.t (df_lc (dib_seq (db_rd 7)) (dg_name 5) (by decide) dtt_yes (dt_callX hE (dan_cons (dt_tup (da_cons (dt_var 5) (da_cons (dt_int 1) da_nil))) (dan_cons (dt_var 11) dan_nil)))))).b dba_nil)))) ds_next)
    (ds_still (i := 9) (ds_asg (dt_var 9) (dg_name 7)))))))
    (ds_ret dt_non))))))⟩)
  (fun _ _ _ _ _ _ us hl => match us, hl with | [_, _], _ => rfl)
abbrev s__law_hand : Stmt := top 43
theorem sc__law_hand : FnScope ["script", "cells", "cell"] ["script"] (defScope s__law_hand) := ⟨rfl, rfl, rfl, by decide +kernel, rfl, by decide +kernel, by decide +kernel⟩
theorem c__law_hand (T : Txt K mg) : Cal PR w K mg base 1 "_law_hand" 1 m__law_hand := m__law_hand_eq.symm ▸ cal_of (N := ["script", "cells", "cell"]) (ps := ["script"]) (st := s__law_hand) (j := 2) (f := f__law_hand) T.f__law_hand T.g__law_hand sc__law_hand rfl rfl (fun cdv A outer s H E hr => ⟨_, (pss_cons (ps_setLc (i := 1) (own := [("cell", 2)]) (g := (gName 2)) (tt := tYes) (te := (tCB rAbs1 (tCons (tCB rInt1 (tCons (tVar 2) tNil)) tNil))) rfl sc__law_hand.nd rfl rfl (sw_true rfl rfl rfl (by decide +kernel)) (pi_seq (pe_slice sl_anyX (pv 0) po_none (po_some pe_int))) (blkOk_by (by kernel_rfl)) (fun _ _ _ _ _ => (pg_name (i := 2) sc__law_hand.nd rfl (by first | exact Or.inl rfl | exact Or.inr rfl))) (fun _ _ _ _ _ => pts_nil) (fun _ _ _ _ _ => (pe_callB callA_abs (by rfl) T.b_abs bt_abs (pa_cons (pe_callTy callA_int (by rfl) T.b_int bt_int (pa_cons (pv 2) pa_nil)) pa_nil))))
    (pss_one (ps_ret (pe_lst (pa_cons (pv 1) (pa_cons pe_int (pa_cons pe_int (pa_cons (pe_op op_addX pe_int (pe_op op_mulT pe_int (pe_callB call_lenX (by rfl) T.b_len bt_len (pa_cons (pv 1) pa_nil)))) (pa_cons pe_int pa_nil))))))))),
    dsK fun a0 h0 hs0 W hW => by
    exact (ds_seq (ds_asg (DF.t (df_lc (dib_seq ((dt_sl (db_rd 0) do_none (do_some (dt_int 63)))).b) (dg_name 2) (by decide) dtt_yes (dt_cb dc_abs (dba_cons ((dt_cb dc_int (dba_cons (db_rd 2) dba_nil))).b dba_nil)))) (dg_name 1))
    (ds_ret (DF.t (df_lst (da_cons (dt_var 1) (da_cons (dt_int 0) (da_cons (dt_int 0) (da_cons (dt_op d2_add ((dt_int 71)).b ((dt_op d2_mulT ((dt_int 11)).b ((dt_cb dc_len (dba_cons (db_rd 1) dba_nil))).b)).b) (da_cons (dt_int 0) da_nil)))))))))⟩)
  (fun _ _ _ _ _ _ us hl => match us, hl with | [_], _ => rfl)
abbrev s__law_draw : Stmt := top 44
theorem sc__law_draw : FnScope ["hand", "many", "cell", "digit", "number"] ["hand", "many"] (defScope s__law_draw) := ⟨rfl, rfl, rfl, by decide +kernel, rfl, by decide +kernel, by decide +kernel⟩
theorem c__law_draw (T : Txt K mg) : Cal PR w K mg base 1 "_law_draw" 2 m__law_draw := cal_draw (N := ["hand", "many", "cell", "digit", "number"]) (ps := ["hand", "many"]) (st := s__law_draw) (j := 3) (f := f__law_draw) T.f__law_draw T.g__law_draw sc__law_draw rfl rfl (fun cdv A outer s H E hr => ⟨_, (pss_cons (ps_if (PW.pt (pw_and (pt_cmpR (op_eqD hr.units) (pe_ix ix_seq (pv 0) pe_int (fun _ _ => rfl)) pe_int (nomark _)) (pw_and1 (pt_cmpR (op_ltV (units1 hr)) (pe_ix ix_seq (pv 0) pe_int (fun _ _ => rfl)) (pe_callB call_lenX (by rfl) T.b_len bt_len (pa_cons (pe_ix ix_seq (pv 0) pe_int (fun _ _ => rfl)) pa_nil)) (nomark _))))) (pss_cons (ps_set (i := 2) sc__law_draw.nd rfl (by first | exact Or.inl rfl | exact Or.inr rfl) (pe_ix ix_seq (pe_ix ix_seq (pv 0) pe_int (fun _ _ => rfl)) (pe_ix ix_seq (pv 0) pe_int (fun _ _ => rfl)) (fun _ _ => rfl)))
    (pss_cons (ps_asg (pe_op op_addX (pe_ix ix_seq (pv 0) pe_int (fun _ _ => rfl)) pe_int) (pg_sub (pv 0) pe_int set_list))
    (pss_cons (ps_asg (pe_op op_mod (pe_callTy callA_int (by rfl) T.b_int bt_int (pa_cons (pe_op op_addX (pe_op op_addX (pe_op op_mulT (pe_ix ix_seq (pv 0) pe_int (fun _ _ => rfl)) pe_int) (pv 2)) pe_int) pa_nil)) pe_int) (pg_sub (pv 0) pe_int set_list))
    (pss_one (ps_if (pt_cmpR (op_geV (units1 hr)) (pv 2) (pe_op op_pow pe_int pe_int) (nomark _)) (pss_one (ps_asg (pv 2) (pg_sub (pv 0) pe_int set_list))) pss_nil))))) pss_nil)
    (pss_cons (ps_if (pt_cmpR (op_gtV (units1 hr)) (pe_ix ix_seq (pv 0) pe_int (fun _ _ => rfl)) pe_int (nomark _)) (pss_cons (ps_set (i := 3) sc__law_draw.nd rfl (by first | exact Or.inl rfl | exact Or.inr rfl) (pe_op op_mod (pe_callTy callA_int (by rfl) T.b_int bt_int (pa_cons (pe_ix ix_seq (pv 0) pe_int (fun _ _ => rfl)) pa_nil)) (pv 1)))
    (pss_cons (ps_asg (pe_op op_fdiv (pe_ix ix_seq (pv 0) pe_int (fun _ _ => rfl)) (pv 1)) (pg_sub (pv 0) pe_int set_list))
    (pss_one (ps_ret (pv 3))))) pss_nil)
    (pss_cons (ps_asg (pe_op op_addX (pe_ix ix_seq (pv 0) pe_int (fun _ _ => rfl)) pe_int) (pg_sub (pv 0) pe_int set_list))
    (pss_cons (ps_set (i := 4) sc__law_draw.nd rfl (by first | exact Or.inl rfl | exact Or.inr rfl) (pe_op op_mod (pe_callTy callA_int (by rfl) T.b_int bt_int (pa_cons (pe_op op_mulT (pe_callTy callA_int (by rfl) T.b_int bt_int (pa_cons (pe_op op_addX (pe_ix ix_seq (pv 0) pe_int (fun _ _ => rfl)) (pe_op op_mulT pe_int (pe_ix ix_seq (pv 0) pe_int (fun _ _ => rfl)))) pa_nil)) pe_int) pa_nil)) pe_int))
    (pss_cons (ps_set (i := 4) sc__law_draw.nd rfl (by first | exact Or.inl rfl | exact Or.inr rfl) (pe_op op_mod (pe_callTy callA_int (by rfl) T.b_int bt_int (pa_cons (pe_op op_mulT (pv 4) (pe_op op_addX (pe_op op_fdiv (pv 4) pe_int) pe_int)) pa_nil)) pe_int))
    (pss_cons (ps_set (i := 4) sc__law_draw.nd rfl (by first | exact Or.inl rfl | exact Or.inr rfl) (pe_op op_mod (pe_callTy callA_int (by rfl) T.b_int bt_int (pa_cons (pe_op op_mulT (pv 4) (pe_op op_addX (pe_op op_fdiv (pv 4) pe_int) pe_int)) pa_nil)) pe_int))
    (pss_one (ps_ret (pe_op op_mod (pe_callTy callA_int (by rfl) T.b_int bt_int (pa_cons (pe_op op_fdiv (pv 4) pe_int) pa_nil)) (pv 1)))))))))),
    dsK fun a0 h0 hs0 W hW => by
    exact (ds_seq (ds_if (dtt_and (dtt_val (dt_op d2_eq ((dt_op d2_ix (db_rd 0) ((dt_int 2)).b)).b ((dt_int 0)).b)) (dtt_val (dt_op d2_ltV ((dt_op d2_ix (db_rd 0) ((dt_int 1)).b)).b ((dt_cb dc_len (dba_cons ((dt_op d2_ix (db_rd 0) ((dt_int 0)).b)).b dba_nil))).b))) (ds_seq (ds_asg (dt_op d2_ix ((dt_op d2_ix (db_rd 0) ((dt_int 0)).b)).b ((dt_op d2_ix (db_rd 0) ((dt_int 1)).b)).b) (dg_name 2))
    (ds_seq (ds_setH (i := 0) (dt_int 1) (dt_op d2_add ((dt_op d2_ix (db_rd 0) ((dt_int 1)).b)).b ((dt_int 1)).b))
    (ds_seq (ds_setH (i := 0) (dt_int 3) (dt_op d2_mod ((dt_cb dc_int (dba_cons ((dt_op d2_add ((dt_op d2_add ((dt_op d2_mulT ((dt_op d2_ix (db_rd 0) ((dt_int 3)).b)).b ((dt_int 69621)).b)).b (db_rd 2))).b ((dt_int 23)).b)).b dba_nil))).b ((dt_int 2147483629)).b))
    (ds_if (dtt_val (dt_op d2_geV (db_rd 2) ((dt_op d2_pow ((dt_int 10)).b ((dt_int 18)).b)).b)) (ds_setH (i := 0) (dt_int 2) (dt_var 2)) ds_next)))) ds_next)
    (ds_seq (ds_if (dtt_val (dt_op d2_gtV ((dt_op d2_ix (db_rd 0) ((dt_int 2)).b)).b ((dt_int 0)).b)) (ds_seq (ds_asg (dt_op d2_mod ((dt_cb dc_int (dba_cons ((dt_op d2_ix (db_rd 0) ((dt_int 2)).b)).b dba_nil))).b (db_rd 1)) (dg_name 3))
    (ds_seq (ds_setH (i := 0) (dt_int 2) (dt_op d2_fdiv ((dt_op d2_ix (db_rd 0) ((dt_int 2)).b)).b (db_rd 1)))
    (ds_ret (dt_var 3)))) ds_next)
    (ds_seq (ds_setH (i := 0) (dt_int 4) (dt_op d2_add ((dt_op d2_ix (db_rd 0) ((dt_int 4)).b)).b ((dt_int 1)).b))
    (ds_seq (ds_asg (dt_op d2_mod ((dt_cb dc_int (dba_cons ((dt_op d2_mulT ((dt_cb dc_int (dba_cons ((dt_op d2_add ((dt_op d2_ix (db_rd 0) ((dt_int 3)).b)).b ((dt_op d2_mulT ((dt_int 7919)).b ((dt_op d2_ix (db_rd 0) ((dt_int 4)).b)).b)).b)).b dba_nil))).b ((dt_int 48271)).b)).b dba_nil))).b ((dt_int 2147483647)).b) (dg_name 4))
    (ds_seq (ds_asg (dt_op d2_mod ((dt_cb dc_int (dba_cons ((dt_op d2_mulT (db_rd 4) ((dt_op d2_add ((dt_op d2_fdiv (db_rd 4) ((dt_int 1009)).b)).b ((dt_int 69621)).b)).b)).b dba_nil))).b ((dt_int 2147483647)).b) (dg_name 4))
    (ds_seq (ds_asg (dt_op d2_mod ((dt_cb dc_int (dba_cons ((dt_op d2_mulT (db_rd 4) ((dt_op d2_add ((dt_op d2_fdiv (db_rd 4) ((dt_int 2003)).b)).b ((dt_int 40692)).b)).b)).b dba_nil))).b ((dt_int 2147483399)).b) (dg_name 4))
    (ds_ret (dt_op d2_mod ((dt_cb dc_int (dba_cons ((dt_op d2_fdiv (db_rd 4) ((dt_int 16)).b)).b dba_nil))).b (db_rd 1)))))))))⟩)
  draw_works (fun _ _ _ _ _ _ us hl => match us, hl with | [_, _], _ => rfl)
abbrev s__law_some : Stmt := top 45
theorem sc__law_some : FnScope ["hand", "things"] ["hand", "things"] (defScope s__law_some) := ⟨rfl, rfl, rfl, by decide +kernel, rfl, by decide +kernel, by decide +kernel⟩
theorem c__law_some (T : Txt K mg) : Cal PR w K mg base 2 "_law_some" 2 m__law_some := m__law_some_eq.symm ▸ cal_of (N := ["hand", "things"]) (ps := ["hand", "things"]) (st := s__law_some) (j := 0) (f := f__law_some) T.f__law_some T.g__law_some sc__law_some rfl rfl (fun cdv A outer s H E hr => ⟨_, (pss_one (ps_ret (pe_ix ix_seq (pv 1) (pe_cal (c__law_draw T) (hr.mono (by decide)) (by rfl) (pa_cons (pv 0) (pa_cons (pe_callB call_lenX (by rfl) T.b_len bt_len (pa_cons (pv 1) pa_nil)) pa_nil))) (fun _ _ => rfl)))),
    dsK fun a0 h0 hs0 W hW => by
    exact (ds_ret (dt_op d2_ix (db_rd 1) ((dt_call hW (dan_cons (dt_var 0) (dan_cons (dt_cb dc_len (dba_cons (db_rd 1) dba_nil)) dan_nil)))).b))⟩)
  (fun _ _ _ _ _ _ us hl => match us, hl with | [_, _], _ => rfl)
abbrev s__law_is : Stmt := top 46
theorem sc__law_is : FnScope ["got", "due", "one", "other"] ["got", "due"] (defScope s__law_is) := ⟨rfl, rfl, rfl, by decide +kernel, rfl, by decide +kernel, by decide +kernel⟩
theorem cr__law_is (T : Txt K mg) : ∀ k : Nat, Cal PR w K mg base (0 + k + 1) "_law_is" 2 (m__law_is k)
  | 0 => m__law_is_0.symm ▸ cal_none (N := ["got", "due", "one", "other"]) (ps := ["got", "due"]) (st := s__law_is) T.f__law_is T.g__law_is sc__law_is rfl (fun _ _ _ _ _ _ us hl => match us, hl with | [_, _], _ => rfl)
  | k + 1 => by
    have ih := cr__law_is T k
    exact (m__law_is_eq k).symm ▸ cal_of (N := ["got", "due", "one", "other"]) (ps := ["got", "due"]) (st := s__law_is) (j := 2) (f := f__law_is (m__law_is k)) T.f__law_is T.g__law_is sc__law_is rfl rfl (fun cdv A outer s H E hr => ⟨_, (pss_cons (ps_if (pt_tru (pe_callB call_isiT (by rfl) T.b_isinstance bt_isinstance (pa_cons (pv 1) (pa_cons (pe_tup (pa_cons (pe_bltn (v := .ty "tuple") (by rfl) T.b_tuple bt_tuple rfl) (pa_cons (pe_bltn (v := .ty "list") (by rfl) T.b_list bt_list rfl) pa_nil))) pa_nil)))) (pss_cons (ps_if (pt_cmpR (op_neD hr.units) (pe_callB call_isi (by rfl) T.b_isinstance bt_isinstance (pa_cons (pv 0) (pa_cons (pe_bltn (v := .ty "tuple") (by rfl) T.b_tuple bt_tuple rfl) pa_nil))) (pe_callB call_isi (by rfl) T.b_isinstance bt_isinstance (pa_cons (pv 1) (pa_cons (pe_bltn (v := .ty "tuple") (by rfl) T.b_tuple bt_tuple rfl) pa_nil))) (nomark _)) (pss_one (ps_ret pe_bl)) pss_nil)
    (pss_cons (ps_if (PW.pt (pw_or (pt_cmpR (op_neD hr.units) (pe_callB call_isi (by rfl) T.b_isinstance bt_isinstance (pa_cons (pv 0) (pa_cons (pe_bltn (v := .ty "list") (by rfl) T.b_list bt_list rfl) pa_nil))) (pe_callB call_isi (by rfl) T.b_isinstance bt_isinstance (pa_cons (pv 1) (pa_cons (pe_bltn (v := .ty "list") (by rfl) T.b_list bt_list rfl) pa_nil))) (nomark _)) (pw_or1 (pt_cmpR (op_neD hr.units) (pe_callB call_lenX (by rfl) T.b_len bt_len (pa_cons (pv 0) pa_nil)) (pe_callB call_lenX (by rfl) T.b_len bt_len (pa_cons (pv 1) pa_nil)) (nomark _))))) (pss_one (ps_ret pe_bl)) pss_nil)
    (pss_one (ps_ret (pe_callB (cr_all rfl) (by rfl) T.b_all bt_all (pa_cons (pe_lc (own := [("one", 2), ("other", 3)]) (g := (gTup K 2 (gCons (gName 2) (gCons (gName 3) gNil)))) (tt := tYes) (te := (tCall (spOf K 2 (m__law_is k)) [] E0 (tCons (tVar 2) (tCons (tVar 3) tNil)))) rfl sc__law_is.nd (pi_zipK (by rfl) T.b_zip (pv 0) (pv 1)) (blkOk_by (by kernel_rfl)) (fun _ _ _ _ _ => (pg_tup (n := 2) rfl (pgs_cons (pg_name (i := 2) sc__law_is.nd rfl (by first | exact Or.inl rfl | exact Or.inr rfl)) (pgs_cons (pg_name (i := 3) sc__law_is.nd rfl (by first | exact Or.inl rfl | exact Or.inr rfl)) pgs_nil)))) (fun _ _ _ _ _ => pts_nil) (fun _ _ _ _ _ => (pe_cal ih (hr.mono (by omega)) (by rfl) (pa_cons (pv 2) (pa_cons (pv 3) pa_nil))))) pa_nil)))))) pss_nil)
    (pss_cons (ps_if (PW.pt (pw_or (pt_cmpR op_isX (pv 1) pe_non (nomark _)) (pw_or1 (pt_cmpR op_isX (pv 0) pe_non (nomark _))))) (pss_one (ps_ret (pe_andT (pe_cmpR op_isX (pv 1) pe_non (nomark _)) (pe_one (pe_cmpR op_isX (pv 0) pe_non (nomark _)))))) pss_nil)
    (pss_cons (ps_if (pt_cmpR (op_neD hr.units) (pe_callB call_isi (by rfl) T.b_isinstance bt_isinstance (pa_cons (pv 0) (pa_cons (pe_bltn (v := .ty "bool") (by rfl) T.b_bool bt_bool rfl) pa_nil))) (pe_callB call_isi (by rfl) T.b_isinstance bt_isinstance (pa_cons (pv 1) (pa_cons (pe_bltn (v := .ty "bool") (by rfl) T.b_bool bt_bool rfl) pa_nil))) (nomark _)) (pss_one (ps_ret pe_bl)) pss_nil)
    (pss_one (ps_ret (pe_andT (pe_cmpR (op_eqD hr.units) (pe_callB call_isi (by rfl) T.b_isinstance bt_isinstance (pa_cons (pv 0) (pa_cons (pe_bltn (v := .ty "str") (by rfl) T.b_str bt_str rfl) pa_nil))) (pe_callB call_isi (by rfl) T.b_isinstance bt_isinstance (pa_cons (pv 1) (pa_cons (pe_bltn (v := .ty "str") (by rfl) T.b_str bt_str rfl) pa_nil))) (nomark _)) (pe_one (pe_cmpR (op_eqD hr.units) (pv 0) (pv 1) (nomark _))))))))),
    dsK fun a0 h0 hs0 W hW => by
    exact (ds_seq (ds_if (dtt_tru ((dt_isiT (ns := ["tuple", "list"]) (by decide) (by decide) (db_rd 1))).b) (ds_seq (ds_if (dtt_val (dt_op d2_ne ((dt_isi (by decide) (db_rd 0))).b ((dt_isi (by decide) (db_rd 1))).b)) (ds_ret (dt_bl false)) ds_next)
    (ds_seq (ds_if (dtt_or (dtt_val (dt_op d2_ne ((dt_isi (by decide) (db_rd 0))).b ((dt_isi (by decide) (db_rd 1))).b)) (dtt_val (dt_op d2_ne ((dt_cb dc_len (dba_cons (db_rd 0) dba_nil))).b ((dt_cb dc_len (dba_cons (db_rd 1) dba_nil))).b))) (ds_ret (dt_bl false)) ds_next)
    (ds_ret (dt_cb dc_all (dba_cons ((DF.t (df_lc (dib_zip (db_rd 0) (db_rd 1)) (dg_tup (n := 2) (dgs_cons (dg_name 2) (dgs_cons (dg_name 3) dgs_nil))) (by decide) dtt_yes (dt_call hW (dan_cons (dt_var 2) (dan_cons (dt_var 3) dan_nil)))))).b dba_nil))))) ds_next)
    (ds_seq (ds_if (dtt_or (dtt_val (dt_op d2_is (db_rd 1) (dt_non).b)) (dtt_val (dt_op d2_is (db_rd 0) (dt_non).b))) (ds_ret (dt_and (dt_op d2_is (db_rd 1) (dt_non).b) (dt_op d2_is (db_rd 0) (dt_non).b))) ds_next)
    (ds_seq (ds_if (dtt_val (dt_op d2_ne ((dt_isi (by decide) (db_rd 0))).b ((dt_isi (by decide) (db_rd 1))).b)) (ds_ret (dt_bl false)) ds_next)
    (ds_ret (dt_and (dt_op d2_eq ((dt_isi (by decide) (db_rd 0))).b ((dt_isi (by decide) (db_rd 1))).b) (dt_op d2_eq (db_rd 0) (db_rd 1)))))))⟩)
      (fun _ _ _ _ _ _ us hl => match us, hl with | [_, _], _ => rfl)
theorem c__law_is (T : Txt K mg) : Cal PR w K mg base 7 "_law_is" 2 (m__law_is 6) := (cr__law_is T 6).mono (by decide)
abbrev s__law_cut : Stmt := top 47
theorem sc__law_cut : FnScope ["top", "bottom", "one", "other", "sign"] ["top", "bottom"] (defScope s__law_cut) := ⟨rfl, rfl, rfl, by decide +kernel, rfl, by decide +kernel, by decide +kernel⟩
theorem c__law_cut (T : Txt K mg) : Cal PR w K mg base 1 "_law_cut" 2 m__law_cut := m__law_cut_eq.symm ▸ cal_of (N := ["top", "bottom", "one", "other", "sign"]) (ps := ["top", "bottom"]) (st := s__law_cut) (j := 3) (f := f__law_cut) T.f__law_cut T.g__law_cut sc__law_cut rfl rfl (fun cdv A outer s H E hr => ⟨_, (pss_cons (ps_par2 (i := 2) (j := 3) rfl sc__law_cut.nd rfl rfl (by decide) rfl rfl (pa_cons (pe_callB callA_abs (by rfl) T.b_abs bt_abs (pa_cons (pv 0) pa_nil)) (pa_cons (pe_callB callA_abs (by rfl) T.b_abs bt_abs (pa_cons (pv 1) pa_nil)) pa_nil)) (by rfl))
    (pss_cons (ps_while PassesOwn.never (pt_cmpR (op_neD hr.units) (pv 3) pe_int (nomark _)) (pss_one (ps_par2 (i := 2) (j := 3) rfl sc__law_cut.nd rfl rfl (by decide) rfl rfl (pa_cons (pv 3) (pa_cons (pe_op op_mod (pe_callTy callA_int (by rfl) T.b_int bt_int (pa_cons (pv 2) pa_nil)) (pv 3)) pa_nil)) (by rfl))))
    (pss_cons (ps_set (i := 4) sc__law_cut.nd rfl (by first | exact Or.inl rfl | exact Or.inr rfl) (pe_ifExp (pt_cmpR (op_gtV (units1 hr)) (pv 1) pe_int (nomark _)) (pv 2) (pe_op op_sub pe_int (pv 2))))
    (pss_one (ps_ret (pe_tupF (pa_cons (pe_op op_fdiv (pv 0) (pv 4)) (pa_cons (pe_op op_fdiv (pv 1) (pv 4)) pa_nil)))))))),
    dsK fun a0 h0 hs0 W hW => by
    exact (ds_seq (ds_parN (is := [2, 3]) (dn_sh (dt_cb dc_abs (dba_cons (db_rd 0) dba_nil)) (dn_sh (dt_cb dc_abs (dba_cons (db_rd 1) dba_nil)) dn_nil)) rfl (by decide))
    (ds_seq (ds_while (dtt_val (dt_op d2_ne (db_rd 3) ((dt_int 0)).b)) (ds_parN (is := [2, 3]) (dn_sh (dt_var 3) (dn_sh (dt_op d2_mod ((dt_cb dc_int (dba_cons (db_rd 2) dba_nil))).b (db_rd 3)) dn_nil)) rfl (by decide)))
    (ds_seq (ds_asg (dt_if (dtt_val (dt_op d2_gtV (db_rd 1) ((dt_int 0)).b)) (dt_var 2) (dt_op d2_sub ((dt_int 0)).b (db_rd 2))) (dg_name 4))
    (ds_ret (dt_tup (da_cons (dt_op d2_fdiv (db_rd 0) (db_rd 4)) (da_cons (dt_op d2_fdiv (db_rd 1) (db_rd 4)) da_nil)))))))⟩)
  (fun _ _ _ _ _ _ us hl => match us, hl with | [_, _], _ => rfl)
abbrev s__law_plus : Stmt := top 48
theorem sc__law_plus : FnScope ["one", "other"] ["one", "other"] (defScope s__law_plus) := ⟨rfl, rfl, rfl, by decide +kernel, rfl, by decide +kernel, by decide +kernel⟩
theorem c__law_plus (T : Txt K mg) : Cal PR w K mg base 2 "_law_plus" 2 m__law_plus := m__law_plus_eq.symm ▸ cal_of (N := ["one", "other"]) (ps := ["one", "other"]) (st := s__law_plus) (j := 0) (f := f__law_plus) T.f__law_plus T.g__law_plus sc__law_plus rfl rfl (fun cdv A outer s H E hr => ⟨_, (pss_one (ps_ret (pe_cal (c__law_cut T) (hr.mono (by decide)) (by rfl) (pa_cons (pe_op op_addX (pe_op op_mulT (pe_ix ix_seq (pv 0) pe_int (fun _ _ => rfl)) (pe_ix ix_seq (pv 1) pe_int (fun _ _ => rfl))) (pe_op op_mulT (pe_ix ix_seq (pv 1) pe_int (fun _ _ => rfl)) (pe_ix ix_seq (pv 0) pe_int (fun _ _ => rfl)))) (pa_cons (pe_op op_mulT (pe_ix ix_seq (pv 0) pe_int (fun _ _ => rfl)) (pe_ix ix_seq (pv 1) pe_int (fun _ _ => rfl))) pa_nil))))),
    dsK fun a0 h0 hs0 W hW => by
    exact (ds_ret (dt_call hW (dan_cons (dt_op d2_add ((dt_op d2_mulT ((dt_op d2_ix (db_rd 0) ((dt_int 0)).b)).b ((dt_op d2_ix (db_rd 1) ((dt_int 1)).b)).b)).b ((dt_op d2_mulT ((dt_op d2_ix (db_rd 1) ((dt_int 0)).b)).b ((dt_op d2_ix (db_rd 0) ((dt_int 1)).b)).b)).b) (dan_cons (dt_op d2_mulT ((dt_op d2_ix (db_rd 0) ((dt_int 1)).b)).b ((dt_op d2_ix (db_rd 1) ((dt_int 1)).b)).b) dan_nil))))⟩)
  (fun _ _ _ _ _ _ us hl => match us, hl with | [_, _], _ => rfl)
abbrev s__law_minus : Stmt := top 49
theorem sc__law_minus : FnScope ["one", "other"] ["one", "other"] (defScope s__law_minus) := ⟨rfl, rfl, rfl, by decide +kernel, rfl, by decide +kernel, by decide +kernel⟩
theorem c__law_minus (T : Txt K mg) : Cal PR w K mg base 2 "_law_minus" 2 m__law_minus := m__law_minus_eq.symm ▸ cal_of (N := ["one", "other"]) (ps := ["one", "other"]) (st := s__law_minus) (j := 0) (f := f__law_minus) T.f__law_minus T.g__law_minus sc__law_minus rfl rfl (fun cdv A outer s H E hr => ⟨_, (pss_one (ps_ret (pe_cal (c__law_cut T) (hr.mono (by decide)) (by rfl) (pa_cons (pe_op op_sub (pe_op op_mulT (pe_ix ix_seq (pv 0) pe_int (fun _ _ => rfl)) (pe_ix ix_seq (pv 1) pe_int (fun _ _ => rfl))) (pe_op op_mulT (pe_ix ix_seq (pv 1) pe_int (fun _ _ => rfl)) (pe_ix ix_seq (pv 0) pe_int (fun _ _ => rfl)))) (pa_cons (pe_op op_mulT (pe_ix ix_seq (pv 0) pe_int (fun _ _ => rfl)) (pe_ix ix_seq (pv 1) pe_int (fun _ _ => rfl))) pa_nil))))),
    dsK fun a0 h0 hs0 W hW => by
    exact (ds_ret (dt_call hW (dan_cons (dt_op d2_sub ((dt_op d2_mulT ((dt_op d2_ix (db_rd 0) ((dt_int 0)).b)).b ((dt_op d2_ix (db_rd 1) ((dt_int 1)).b)).b)).b ((dt_op d2_mulT ((dt_op d2_ix (db_rd 1) ((dt_int 0)).b)).b ((dt_op d2_ix (db_rd 0) ((dt_int 1)).b)).b)).b) (dan_cons (dt_op d2_mulT ((dt_op d2_ix (db_rd 0) ((dt_int 1)).b)).b ((dt_op d2_ix (db_rd 1) ((dt_int 1)).b)).b) dan_nil))))⟩)
  (fun _ _ _ _ _ _ us hl => match us, hl with | [_, _], _ => rfl)
abbrev s__law_less : Stmt := top 50
theorem sc__law_less : FnScope ["one", "other"] ["one", "other"] (defScope s__law_less) := ⟨rfl, rfl, rfl, by decide +kernel, rfl, by decide +kernel, by decide +kernel⟩
theorem c__law_less (T : Txt K mg) : Cal PR w K mg base 1 "_law_less" 2 m__law_less := m__law_less_eq.symm ▸ cal_of (N := ["one", "other"]) (ps := ["one", "other"]) (st := s__law_less) (j := 0) (f := f__law_less) T.f__law_less T.g__law_less sc__law_less rfl rfl (fun cdv A outer s H E hr => ⟨_, (pss_one (ps_ret (pe_cmpR (op_ltV (units1 hr)) (pe_op op_mulT (pe_ix ix_seq (pv 0) pe_int (fun _ _ => rfl)) (pe_ix ix_seq (pv 1) pe_int (fun _ _ => rfl))) (pe_op op_mulT (pe_ix ix_seq (pv 1) pe_int (fun _ _ => rfl)) (pe_ix ix_seq (pv 0) pe_int (fun _ _ => rfl))) (nomark _)))),
    dsK fun a0 h0 hs0 W hW => by
    exact (ds_ret (dt_op d2_ltV ((dt_op d2_mulT ((dt_op d2_ix (db_rd 0) ((dt_int 0)).b)).b ((dt_op d2_ix (db_rd 1) ((dt_int 1)).b)).b)).b ((dt_op d2_mulT ((dt_op d2_ix (db_rd 1) ((dt_int 0)).b)).b ((dt_op d2_ix (db_rd 0) ((dt_int 1)).b)).b)).b))⟩)
  (fun _ _ _ _ _ _ us hl => match us, hl with | [_, _], _ => rfl)
abbrev s__law_total : Stmt := top 51
theorem sc__law_total : FnScope ["some", "found", "one"] ["some"] (defScope s__law_total) := ⟨rfl, rfl, rfl, by decide +kernel, rfl, by decide +kernel, by decide +kernel⟩
theorem c__law_total (T : Txt K mg) : Cal PR w K mg base 3 "_law_total" 1 m__law_total := m__law_total_eq.symm ▸ cal_of (N := ["some", "found", "one"]) (ps := ["some"]) (st := s__law_total) (j := 2) (f := f__law_total) T.f__law_total T.g__law_total sc__law_total rfl rfl (fun cdv A outer s H E hr => ⟨_, (pss_cons (ps_set (i := 1) sc__law_total.nd rfl (by first | exact Or.inl rfl | exact Or.inr rfl) (pe_tupF (pa_cons pe_int (pa_cons pe_int pa_nil))))
    (pss_cons (ps_for PassesOwn.never rfl (pi_seq (pv 0)) (pg_name (i := 2) sc__law_total.nd rfl (by first | exact Or.inl rfl | exact Or.inr rfl)) (pss_one (ps_set (i := 1) sc__law_total.nd rfl (by first | exact Or.inl rfl | exact Or.inr rfl) (pe_cal (c__law_plus T) (hr.mono (by decide)) (by rfl) (pa_cons (pv 1) (pa_cons (pv 2) pa_nil))))))
    (pss_one (ps_ret (pv 1))))),
    dsK fun a0 h0 hs0 W hW => by
    exact (ds_seq (ds_asg (dt_tup (da_cons (dt_int 0) (da_cons (dt_int 1) da_nil))) (dg_name 1))
    (ds_seq (ds_for (di_seq (dt_var 0)) (dg_name 2) (ds_asg (dt_call hW (dan_cons (dt_var 1) (dan_cons (dt_var 2) dan_nil))) (dg_name 1)))
    (ds_ret (dt_var 1))))⟩)
  (fun _ _ _ _ _ _ us hl => match us, hl with | [_], _ => rfl)
abbrev s__law_rows : Stmt := top 52
theorem sc__law_rows : FnScope ["hand", "persons", "things", "low", "high", "found", "person", "one"] ["hand", "persons", "things", "low", "high"] (defScope s__law_rows) := ⟨rfl, rfl, rfl, by decide +kernel, rfl, by decide +kernel, by decide +kernel⟩
theorem c__law_rows (T : Txt K mg) : Cal PR w K mg base 2 "_law_rows" 5 m__law_rows := m__law_rows_eq.symm ▸ cal_of (N := ["hand", "persons", "things", "low", "high", "found", "person", "one"]) (ps := ["hand", "persons", "things", "low", "high"]) (st := s__law_rows) (j := 3) (f := f__law_rows) T.f__law_rows T.g__law_rows sc__law_rows rfl rfl (fun cdv A outer s H E hr => ⟨_, (pss_cons (ps_set (i := 5) sc__law_rows.nd rfl (by first | exact Or.inl rfl | exact Or.inr rfl) (pe_lst pa_nil))
    (pss_cons (ps_for PassesOwn.never rfl (pi_range1 (by rfl) T.b_range (pa_cons (pv 1) pa_nil)) (pg_name (i := 6) sc__law_rows.nd rfl (by first | exact Or.inl rfl | exact Or.inr rfl)) (pss_one (ps_expr (pe_bm PySem.F.plainAttrs_list PySem.F.slot_list_append PySem.F.type_list_append mt_append (pv 5) (pa_cons (pe_callTy callA_tuple (by rfl) T.b_tuple bt_tuple (pa_cons (pe_lc (own := [("one", 7)]) (g := (gName 7)) (tt := tYes) (te := (tOp (rAddX K) (tVar 3) (tCall (spOf K 2 m__law_draw) [] E0 (tCons (tVar 0) (tCons (tOp (rAddX K) (tOp (rI0 fun i j => .int (i - j)) (tVar 4) (tVar 3)) (tC (.int 1))) tNil))))) rfl sc__law_rows.nd (pi_range1 (by rfl) T.b_range (pa_cons (pv 2) pa_nil)) (blkOk_by (by kernel_rfl)) (fun _ _ _ _ _ => (pg_name (i := 7) sc__law_rows.nd rfl (by first | exact Or.inl rfl | exact Or.inr rfl))) (fun _ _ _ _ _ => pts_nil) (fun _ _ _ _ _ => (pe_op op_addX (pv 3) (pe_cal (c__law_draw T) (hr.mono (by decide)) (by rfl) (pa_cons (pv 0) (pa_cons (pe_op op_addX (pe_op op_sub (pv 4) (pv 3)) pe_int) pa_nil)))))) pa_nil)) pa_nil)))))
    (pss_one (ps_ret (pe_callTy callA_tuple (by rfl) T.b_tuple bt_tuple (pa_cons (pv 5) pa_nil)))))),
    dsK fun a0 h0 hs0 W hW => by
    exact (ds_seq (ds_own (i := 5) (df_lst da_nil))
    (ds_seq (ds_for (di_rg1 (dt_var 1)) (dg_name 6) (ds_app (i := 5) (dt_cb dc_tuple (dba_cons ((DF.t (df_lc ((di_rg1 (dt_var 2))).b (dg_name 7) (by decide) dtt_yes (dt_op d2_add (db_rd 3) ((dt_call hW (dan_cons (dt_var 0) (dan_cons (dt_op d2_add ((dt_op d2_sub (db_rd 4) (db_rd 3))).b ((dt_int 1)).b) dan_nil)))).b)))).b dba_nil))))
    (ds_ret (dt_cb dc_tuple (dba_cons (db_rd 5) dba_nil)))))⟩)
  (fun _ _ _ _ _ _ us hl => match us, hl with | [_, _, _, _, _], _ => rfl)
abbrev s__law_orders : Stmt := top 53
theorem sc__law_orders : FnScope ["many", "level", "turn", "later", "row", "one"] ["many"] (defScope s__law_orders) := ⟨rfl, rfl, rfl, by decide +kernel, rfl, by decide +kernel, by decide +kernel⟩
theorem c__law_orders (T : Txt K mg) : Cal PR w K mg base 1 "_law_orders" 1 m__law_orders := m__law_orders_eq.symm ▸ cal_of (N := ["many", "level", "turn", "later", "row", "one"]) (ps := ["many"]) (st := s__law_orders) (j := 5) (f := f__law_orders) T.f__law_orders T.g__law_orders sc__law_orders rfl rfl (fun cdv A outer s H E hr => ⟨_, (pss_cons (ps_set (i := 1) sc__law_orders.nd rfl (by first | exact Or.inl rfl | exact Or.inr rfl) (pe_lst (pa_cons (pe_tupF pa_nil) pa_nil)))
    (pss_cons (ps_for PassesOwn.never rfl (pi_range1 (by rfl) T.b_range (pa_cons (pv 0) pa_nil)) (pg_name (i := 2) sc__law_orders.nd rfl (by first | exact Or.inl rfl | exact Or.inr rfl)) (pss_cons (ps_set (i := 3) sc__law_orders.nd rfl (by first | exact Or.inl rfl | exact Or.inr rfl) (pe_lst pa_nil))
    (pss_cons (ps_for PassesOwn.never rfl (pi_seq (pv 1)) (pg_name (i := 4) sc__law_orders.nd rfl (by first | exact Or.inl rfl | exact Or.inr rfl)) (pss_one (ps_expr (pe_bm PySem.F.plainAttrs_list PySem.F.slot_list_extend PySem.F.type_list_extend mt_extend (pv 3) (pa_cons (pe_lc (own := [("one", 5)]) (g := (gName 5)) (tt := (tTest (tOp (rNotInX K) (tVar 5) (tVar 4)))) (te := (tOp (rAddX K) (tVar 4) (tTupF (tCons (tVar 5) tNil)))) rfl sc__law_orders.nd (pi_range1 (by rfl) T.b_range (pa_cons (pv 0) pa_nil)) (blkOk_by (by kernel_rfl)) (fun _ _ _ _ _ => (pg_name (i := 5) sc__law_orders.nd rfl (by first | exact Or.inl rfl | exact Or.inr rfl))) (fun _ _ _ _ _ => (pts_one (pt_cmpR (op_notInXX (units1 hr)) (pv 5) (pv 4) (by rfl)))) (fun _ _ _ _ _ => (pe_op op_addX (pv 4) (pe_tupF (pa_cons (pv 5) pa_nil))))) pa_nil)))))
    (pss_one (ps_set (i := 1) sc__law_orders.nd rfl (by first | exact Or.inl rfl | exact Or.inr rfl) (pv 3))))))
    (pss_one (ps_ret (pv 1))))),
    dsK fun a0 h0 hs0 W hW => by
    exact (ds_seq (ds_asg (DF.t (df_lst (da_cons (dt_tup da_nil) da_nil))) (dg_name 1))
    (ds_seq (ds_for (di_rg1 (dt_var 0)) (dg_name 2) (ds_seq (ds_own (i := 3) (df_lst da_nil))
    (ds_seq (ds_for (di_seq (dt_var 1)) (dg_name 4) (ds_ext (i := 3) ((DF.t (df_lc ((di_rg1 (dt_var 0))).b (dg_name 5) (by decide) (dtt_val (dt_op d2_notInX (db_rd 5) (db_rd 4))) (dt_op d2_add (db_rd 4) ((dt_tup (da_cons (dt_var 5) da_nil))).b)))).b))
    (ds_still (i := 3) (ds_asg (dt_var 3) (dg_name 1))))))
    (ds_ret (dt_var 1))))⟩)
  (fun _ _ _ _ _ _ us hl => match us, hl with | [_], _ => rfl)
abbrev s__law_is_calm : Stmt := top 54
theorem sc__law_is_calm : FnScope ["rows", "dealing", "told", "person", "room", "own", "other"] ["rows", "dealing", "told"] (defScope s__law_is_calm) := ⟨rfl, rfl, rfl, by decide +kernel, rfl, by decide +kernel, by decide +kernel⟩
theorem c__law_is_calm (T : Txt K mg) : Cal PR w K mg base 3 "_law_is_calm" 3 m__law_is_calm := m__law_is_calm_eq.symm ▸ cal_of (N := ["rows", "dealing", "told", "person", "room", "own", "other"]) (ps := ["rows", "dealing", "told"]) (st := s__law_is_calm) (j := 4) (f := f__law_is_calm) T.f__law_is_calm T.g__law_is_calm sc__law_is_calm rfl rfl (fun cdv A outer s H E hr => ⟨_, (pss_cons (ps_for PassesOwn.never rfl (pi_enumK (by rfl) T.b_enumerate (pv 1)) (pg_tup (n := 2) rfl (pgs_cons (pg_name (i := 3) sc__law_is_calm.nd rfl (by first | exact Or.inl rfl | exact Or.inr rfl)) (pgs_cons (pg_name (i := 4) sc__law_is_calm.nd rfl (by first | exact Or.inl rfl | exact Or.inr rfl)) pgs_nil))) (pss_cons (ps_set (i := 5) sc__law_is_calm.nd rfl (by first | exact Or.inl rfl | exact Or.inr rfl) (pe_cal (c__law_minus T) (hr.mono (by decide)) (by rfl) (pa_cons (pe_tupF (pa_cons (pe_ix ix_seq (pe_ix ix_seq (pv 0) (pv 3) (fun _ _ => rfl)) (pv 4) (fun _ _ => rfl)) (pa_cons pe_int pa_nil))) (pa_cons (pe_ix ix_seq (pv 2) (pv 4) (fun _ _ => rfl)) pa_nil))))
    (pss_one (ps_for PassesOwn.never rfl (pi_range1 (by rfl) T.b_range (pa_cons (pe_callB call_lenX (by rfl) T.b_len bt_len (pa_cons (pv 0) pa_nil)) pa_nil)) (pg_name (i := 6) sc__law_is_calm.nd rfl (by first | exact Or.inl rfl | exact Or.inr rfl)) (pss_one (ps_if (pt_tru (pe_cal (c__law_less T) (hr.mono (by decide)) (by rfl) (pa_cons (pv 5) (pa_cons (pe_cal (c__law_minus T) (hr.mono (by decide)) (by rfl) (pa_cons (pe_tupF (pa_cons (pe_ix ix_seq (pe_ix ix_seq (pv 0) (pv 3) (fun _ _ => rfl)) (pv 6) (fun _ _ => rfl)) (pa_cons pe_int pa_nil))) (pa_cons (pe_ix ix_seq (pv 2) (pv 6) (fun _ _ => rfl)) pa_nil))) pa_nil)))) (pss_one (ps_ret pe_bl)) pss_nil))))))
    (pss_one (ps_ret pe_bl))),
    dsK fun a0 h0 hs0 W hW => by
    exact (ds_seq (ds_for (di_enum (dt_var 1)) (dg_tup (n := 2) (dgs_cons (dg_name 3) (dgs_cons (dg_name 4) dgs_nil))) (ds_seq (ds_asg (dt_call hW (dan_cons (dt_tup (da_cons (dt_op d2_ix ((dt_op d2_ix (db_rd 0) (db_rd 3))).b (db_rd 4)) (da_cons (dt_int 1) da_nil))) (dan_cons (dt_op d2_ix (db_rd 2) (db_rd 4)) dan_nil))) (dg_name 5))
    (ds_for (di_rg1 (dt_cb dc_len (dba_cons (db_rd 0) dba_nil))) (dg_name 6) (ds_if (dtt_tru ((dt_call hW (dan_cons (dt_var 5) (dan_cons (dt_call hW (dan_cons (dt_tup (da_cons (dt_op d2_ix ((dt_op d2_ix (db_rd 0) (db_rd 3))).b (db_rd 6)) (da_cons (dt_int 1) da_nil))) (dan_cons (dt_op d2_ix (db_rd 2) (db_rd 6)) dan_nil))) dan_nil)))).b) (ds_ret (dt_bl false)) ds_next))))
    (ds_ret (dt_bl true)))⟩)
  (fun _ _ _ _ _ _ us hl => match us, hl with | [_, _, _], _ => rfl)
abbrev s__law_is_right : Stmt := top 55
theorem sc__law_is_right : FnScope ["hand", "many", "rows", "table", "orders", "sums", "best", "at", "spot", "dealing", "rent", "deal", "told", "is_there", "nought", "pays", "left", "said", "person", "room"] ["hand"] (defScope s__law_is_right) := ⟨rfl, rfl, rfl, by decide +kernel, rfl, by decide +kernel, by decide +kernel⟩
theorem c__law_is_right (T : Txt K mg) : Cal PR w K mg base 10 "_law_is_right" 1 m__law_is_right := m__law_is_right_eq.symm ▸ cal_of (N := ["hand", "many", "rows", "table", "orders", "sums", "best", "at", "spot", "dealing", "rent", "deal", "told", "is_there", "nought", "pays", "left", "said", "person", "room"]) (ps := ["hand"]) (st := s__law_is_right) (j := 19) (f := f__law_is_right) T.f__law_is_right T.g__law_is_right sc__law_is_right rfl rfl (fun cdv A outer s H E hr => ⟨_, (pss_cons (ps_set (i := 1) sc__law_is_right.nd rfl (by first | exact Or.inl rfl | exact Or.inr rfl) (pe_op op_addX pe_int (pe_cal (c__law_draw T) (hr.mono (by decide)) (by rfl) (pa_cons (pv 0) (pa_cons pe_int pa_nil)))))
    (pss_cons (ps_set (i := 2) sc__law_is_right.nd rfl (by first | exact Or.inl rfl | exact Or.inr rfl) (pe_cal (c__law_rows T) (hr.mono (by decide)) (by rfl) (pa_cons (pv 0) (pa_cons (pv 1) (pa_cons (pv 1) (pa_cons pe_int (pa_cons (pe_cal (c__law_some T) (hr.mono (by decide)) (by rfl) (pa_cons (pv 0) (pa_cons (pe_lst (pa_cons pe_int (pa_cons pe_int pa_nil))) pa_nil))) pa_nil)))))))
    (pss_cons (ps_par2 (i := 3) (j := 4) rfl sc__law_is_right.nd rfl rfl (by decide) rfl rfl (pa_cons (pe_makX (c_Table T) passL (hr.mono (by decide)) (by rfl) (pa_cons (pv 2) pa_nil)) (pa_cons (pe_cal (c__law_orders T) (hr.mono (by decide)) (by rfl) (pa_cons (pv 1) pa_nil)) pa_nil)) (by rfl))
    (pss_cons (ps_setLc (i := 5) (own := [("dealing", 9)]) (g := (gName 9)) (tt := tYes) (te := (tCB (rSumW K) (tCons (tLc (iEnumK K (tVar 9)) (gTup K 2 (gCons (gName 18) (gCons (gName 19) gNil))) tYes (tOp (rIx K) (tOp (rIx K) (tVar 2) (tVar 18)) (tVar 19)) [18, 19]) tNil))) rfl sc__law_is_right.nd rfl rfl (sw_true rfl rfl rfl (by decide +kernel)) (pi_seq (pv 4)) (blkOk_by (by kernel_rfl)) (fun _ _ _ _ _ => (pg_name (i := 9) sc__law_is_right.nd rfl (by first | exact Or.inl rfl | exact Or.inr rfl))) (fun _ _ _ _ _ => pts_nil) (fun _ _ _ _ _ => (pe_callB (cr_sumW rfl) (by rfl) T.b_sum bt_sum (pa_cons (pe_lc (own := [("person", 18), ("room", 19)]) (g := (gTup K 2 (gCons (gName 18) (gCons (gName 19) gNil)))) (tt := tYes) (te := (tOp (rIx K) (tOp (rIx K) (tVar 2) (tVar 18)) (tVar 19))) rfl sc__law_is_right.nd (pi_enumK (by rfl) T.b_enumerate (pv 9)) (blkOk_by (by kernel_rfl)) (fun _ _ _ _ _ => (pg_tup (n := 2) rfl (pgs_cons (pg_name (i := 18) sc__law_is_right.nd rfl (by first | exact Or.inl rfl | exact Or.inr rfl)) (pgs_cons (pg_name (i := 19) sc__law_is_right.nd rfl (by first | exact Or.inl rfl | exact Or.inr rfl)) pgs_nil)))) (fun _ _ _ _ _ => pts_nil) (fun _ _ _ _ _ => (pe_ix ix_seq (pe_ix ix_seq (pv 2) (pv 18) (fun _ _ => rfl)) (pv 19) (fun _ _ => rfl)))) pa_nil))))
    (pss_cons (ps_set (i := 6) sc__law_is_right.nd rfl (by first | exact Or.inl rfl | exact Or.inr rfl) (pe_tupF (pa_cons (pe_callB (cr_maxV rfl hr.units) (by rfl) T.b_max bt_max (pa_cons (pv 5) pa_nil)) (pa_cons (pe_ix ix_seq (pv 4) (pe_lt PySem.F.plainAttrs_list PySem.F.slot_list_index PySem.F.type_list_index mt_index PySem.F.plainAttrs_tuple PySem.F.slot_tuple_index PySem.F.type_tuple_index mt_tidx (pv 5) (pa_cons (pe_callB (cr_maxV rfl hr.units) (by rfl) T.b_max bt_max (pa_cons (pv 5) pa_nil)) pa_nil)) (fun _ _ => rfl)) pa_nil))))
    (pss_cons (ps_if (pt_not (pt_tru (pe_cal (c__law_is T) (hr.mono (by decide)) (by rfl) (pa_cons (pe_lst (pa_cons (pe_callTy callA_list (by rfl) T.b_list bt_list (pa_cons (pe_calX (c_dealings T) passL (hr.mono (by decide)) (by rfl) (pa_cons (pv 3) pa_nil)) pa_nil)) (pa_cons (pe_calX (c_best_dealing T) passL (hr.mono (by decide)) (by rfl) (pa_cons (pv 3) pa_nil)) pa_nil))) (pa_cons (pe_lst (pa_cons (pv 4) (pa_cons (pv 6) pa_nil))) pa_nil))))) (pss_one (ps_ret pe_bl)) pss_nil)
    (pss_cons (ps_set (i := 7) sc__law_is_right.nd rfl (by first | exact Or.inl rfl | exact Or.inr rfl) (pe_cal (c__law_draw T) (hr.mono (by decide)) (by rfl) (pa_cons (pv 0) (pa_cons (pe_callB call_lenX (by rfl) T.b_len bt_len (pa_cons (pv 4) pa_nil)) pa_nil))))
    (pss_cons (ps_for PassesOwn.never rfl (pi_seq (pe_tupF (pa_cons (pv 7) (pa_cons (pe_lt PySem.F.plainAttrs_list PySem.F.slot_list_index PySem.F.type_list_index mt_index PySem.F.plainAttrs_tuple PySem.F.slot_tuple_index PySem.F.type_tuple_index mt_tidx (pv 5) (pa_cons (pe_callB (cr_maxV rfl hr.units) (by rfl) T.b_max bt_max (pa_cons (pv 5) pa_nil)) pa_nil)) pa_nil)))) (pg_name (i := 8) sc__law_is_right.nd rfl (by first | exact Or.inl rfl | exact Or.inr rfl)) (pss_cons (ps_asg (pe_tup (pa_cons (pe_ix ix_seq (pv 4) (pv 8) (fun _ _ => rfl)) (pa_cons (pe_cal (c__law_cut T) (hr.mono (by decide)) (by rfl) (pa_cons (pe_cal (c__law_draw T) (hr.mono (by decide)) (by rfl) (pa_cons (pv 0) (pa_cons pe_int pa_nil))) (pa_cons (pe_op op_addX pe_int (pe_cal (c__law_draw T) (hr.mono (by decide)) (by rfl) (pa_cons (pv 0) (pa_cons pe_int pa_nil)))) pa_nil))) pa_nil))) (pg_tup (n := 2) rfl (pgs_cons (pg_name (i := 9) sc__law_is_right.nd rfl (by first | exact Or.inl rfl | exact Or.inr rfl)) (pgs_cons (pg_name (i := 10) sc__law_is_right.nd rfl (by first | exact Or.inl rfl | exact Or.inr rfl)) pgs_nil))))
    (pss_cons (ps_set (i := 11) sc__law_is_right.nd rfl (by first | exact Or.inl rfl | exact Or.inr rfl) (pe_callTy callA_tuple (by rfl) T.b_tuple bt_tuple (pa_cons (pe_lc (own := [("room", 19)]) (g := (gName 19)) (tt := tYes) (te := (tLT K (rIndex K) (rTIdx K) (tVar 9) (tCons (tVar 19) tNil))) rfl sc__law_is_right.nd (pi_range1 (by rfl) T.b_range (pa_cons (pv 1) pa_nil)) (blkOk_by (by kernel_rfl)) (fun _ _ _ _ _ => (pg_name (i := 19) sc__law_is_right.nd rfl (by first | exact Or.inl rfl | exact Or.inr rfl))) (fun _ _ _ _ _ => pts_nil) (fun _ _ _ _ _ => (pe_lt PySem.F.plainAttrs_list PySem.F.slot_list_index PySem.F.type_list_index mt_index PySem.F.plainAttrs_tuple PySem.F.slot_tuple_index PySem.F.type_tuple_index mt_tidx (pv 9) (pa_cons (pv 19) pa_nil)))) pa_nil)))
    (pss_cons (ps_par2 (i := 12) (j := 13) rfl sc__law_is_right.nd rfl rfl (by decide) rfl rfl (pa_cons (pe_calX (c_prices T) passL (hr.mono (by decide)) (by rfl) (pa_cons (pv 3) (pa_cons (pv 9) (pa_cons (pv 10) pa_nil)))) (pa_cons (pe_cmpR (op_eqD hr.units) (pe_ix ix_seq (pv 5) (pv 8) (fun _ _ => rfl)) (pe_callB (cr_maxV rfl hr.units) (by rfl) T.b_max bt_max (pa_cons (pv 5) pa_nil)) (nomark _)) pa_nil)) (by rfl))
    (pss_cons (ps_if (PW.pt (pw_or (pt_not (pt_tru (pe_cal (c__law_is T) (hr.mono (by decide)) (by rfl) (pa_cons (pe_cal (c_sum_of T) (hr.mono (by decide)) (by rfl) (pa_cons (pv 3) (pa_cons (pv 9) pa_nil))) (pa_cons (pe_ix ix_seq (pv 5) (pv 8) (fun _ _ => rfl)) pa_nil))))) (pw_or1 (pt_cmpR (op_eqD hr.units) (pe_cmpR op_isX (pv 12) pe_non (nomark _)) (pv 13) (nomark _))))) (pss_one (ps_ret pe_bl)) pss_nil)
    (pss_cons (ps_if (PW.pt (pw_or (pt_cmpR (op_neD hr.units) (pe_cmpR op_isX (pe_calX (c_ring T) passL (hr.mono (by decide)) (by rfl) (pa_cons (pv 3) (pa_cons (pv 9) pa_nil))) pe_non (nomark _)) (pv 13) (nomark _)) (pw_or1 (pt_cmpR (op_eqD hr.units) (pe_cmpR op_isX (pe_calX (c_calm_pays T) passL (hr.mono (by decide)) (by rfl) (pa_cons (pv 3) (pa_cons (pv 11) pa_nil))) pe_non (nomark _)) (pv 13) (nomark _))))) (pss_one (ps_ret pe_bl)) pss_nil)
    (pss_one (ps_if (pt_tru (pv 13)) (pss_cons (ps_if (PW.pt (pw_or (pt_not (pt_tru (pe_cal (c__law_is_calm T) (hr.mono (by decide)) (by rfl) (pa_cons (pv 2) (pa_cons (pv 9) (pa_cons (pv 12) pa_nil)))))) (pw_or1 (pt_cmpR (op_neD hr.units) (pe_cal (c__law_total T) (hr.mono (by decide)) (by rfl) (pa_cons (pv 12) pa_nil)) (pv 10) (nomark _))))) (pss_one (ps_ret pe_bl)) pss_nil)
    (pss_cons (ps_if (pt_cmpR op_isNotX (pe_calX (c_come_to T) passL (hr.mono (by decide)) (by rfl) (pa_cons (pv 12) (pa_cons (pv 10) pa_nil))) pe_bl (nomark _)) (pss_one (ps_ret pe_bl)) pss_nil)
    (pss_cons (ps_set (i := 14) sc__law_is_right.nd rfl (by first | exact Or.inl rfl | exact Or.inr rfl) (pe_calX (c_prices T) passL (hr.mono (by decide)) (by rfl) (pa_cons (pv 3) (pa_cons (pv 9) (pa_cons (pe_tupF (pa_cons pe_int (pa_cons pe_int pa_nil))) pa_nil)))))
    (pss_cons (ps_set (i := 15) sc__law_is_right.nd rfl (by first | exact Or.inl rfl | exact Or.inr rfl) (pe_callTy callA_tuple (by rfl) T.b_tuple bt_tuple (pa_cons (pe_lc (own := [("room", 19)]) (g := (gName 19)) (tt := tYes) (te := (tOp (rIx K) (tVar 14) (tVar 19))) rfl sc__law_is_right.nd (pi_seq (pv 9)) (blkOk_by (by kernel_rfl)) (fun _ _ _ _ _ => (pg_name (i := 19) sc__law_is_right.nd rfl (by first | exact Or.inl rfl | exact Or.inr rfl))) (fun _ _ _ _ _ => pts_nil) (fun _ _ _ _ _ => (pe_ix ix_seq (pv 14) (pv 19) (fun _ _ => rfl)))) pa_nil)))
    (pss_cons (ps_if (PW.pt (pw_or (pt_cmpR op_isNotX (pe_calX (c_are_pays T) passL (hr.mono (by decide)) (by rfl) (pa_cons (pv 3) (pa_cons (pv 15) pa_nil))) pe_bl (nomark _)) (pw_or1 (pt_cmpR (op_neD hr.units) (pe_callTy callA_list (by rfl) T.b_list bt_list (pa_cons (pe_calX (c_money_envy T) passL (hr.mono (by decide)) (by rfl) (pa_cons (pv 3) (pa_cons (pv 11) (pa_cons (pv 15) pa_nil)))) pa_nil)) (pe_lst pa_nil) (nomark _))))) (pss_one (ps_ret pe_bl)) pss_nil)
    (pss_cons (ps_setLc (i := 16) (own := [("person", 18), ("room", 19)]) (g := (gTup K 2 (gCons (gName 18) (gCons (gName 19) gNil)))) (tt := tYes) (te := (tCall (spOf K 2 m__law_minus) [] E0 (tCons (tTupF (tCons (tOp (rIx K) (tOp (rIx K) (tVar 2) (tVar 18)) (tVar 19)) (tCons (tC (.int 1)) tNil))) (tCons (tOp (rIx K) (tVar 14) (tVar 19)) tNil)))) rfl sc__law_is_right.nd rfl rfl (sw_true rfl rfl rfl (by decide +kernel)) (pi_enumK (by rfl) T.b_enumerate (pv 9)) (blkOk_by (by kernel_rfl)) (fun _ _ _ _ _ => (pg_tup (n := 2) rfl (pgs_cons (pg_name (i := 18) sc__law_is_right.nd rfl (by first | exact Or.inl rfl | exact Or.inr rfl)) (pgs_cons (pg_name (i := 19) sc__law_is_right.nd rfl (by first | exact Or.inl rfl | exact Or.inr rfl)) pgs_nil)))) (fun _ _ _ _ _ => pts_nil) (fun _ _ _ _ _ => (pe_cal (c__law_minus T) (hr.mono (by decide)) (by rfl) (pa_cons (pe_tupF (pa_cons (pe_ix ix_seq (pe_ix ix_seq (pv 2) (pv 18) (fun _ _ => rfl)) (pv 19) (fun _ _ => rfl)) (pa_cons pe_int pa_nil))) (pa_cons (pe_ix ix_seq (pv 14) (pv 19) (fun _ _ => rfl)) pa_nil)))))
    (pss_cons (ps_set (i := 17) sc__law_is_right.nd rfl (by first | exact Or.inl rfl | exact Or.inr rfl) (pe_lst (pa_cons (pe_callTy callA_list (by rfl) T.b_list bt_list (pa_cons (pe_calX (c_left_with T) passL (hr.mono (by decide)) (by rfl) (pa_cons (pv 3) (pa_cons (pv 11) (pa_cons (pv 15) pa_nil)))) pa_nil)) (pa_cons (pe_callTy callA_list (by rfl) T.b_list bt_list (pa_cons (pe_calX (c_left_for T) passL (hr.mono (by decide)) (by rfl) (pa_cons (pv 3) (pa_cons (pv 9) (pa_cons (pv 14) pa_nil)))) pa_nil)) pa_nil))))
    (pss_one (ps_if (pt_not (pt_tru (pe_cal (c__law_is T) (hr.mono (by decide)) (by rfl) (pa_cons (pv 17) (pa_cons (pe_lst (pa_cons (pv 16) (pa_cons (pv 16) pa_nil))) pa_nil))))) (pss_one (ps_ret pe_bl)) pss_nil))))))))) pss_nil))))))))
    (pss_cons (ps_set (i := 10) sc__law_is_right.nd rfl (by first | exact Or.inl rfl | exact Or.inr rfl) (pe_cal (c__law_cut T) (hr.mono (by decide)) (by rfl) (pa_cons (pe_cal (c__law_draw T) (hr.mono (by decide)) (by rfl) (pa_cons (pv 0) (pa_cons pe_int pa_nil))) (pa_cons (pe_op op_addX pe_int (pe_cal (c__law_draw T) (hr.mono (by decide)) (by rfl) (pa_cons (pv 0) (pa_cons pe_int pa_nil)))) pa_nil))))
    (pss_cons (ps_asg (pe_calX (c_calm_rents T) passL (hr.mono (by decide)) (by rfl) (pa_cons (pv 3) (pa_cons (pv 10) pa_nil))) (pg_tup (n := 2) rfl (pgs_cons (pg_name (i := 9) sc__law_is_right.nd rfl (by first | exact Or.inl rfl | exact Or.inr rfl)) (pgs_cons (pg_name (i := 12) sc__law_is_right.nd rfl (by first | exact Or.inl rfl | exact Or.inr rfl)) pgs_nil))))
    (pss_one (ps_ret (pe_andT (pe_cmpR (op_eqD hr.units) (pv 9) (pe_ix ix_seq (pe_calX (c_best_dealing T) passL (hr.mono (by decide)) (by rfl) (pa_cons (pv 3) pa_nil)) pe_int (fun _ _ => rfl)) (nomark _)) (pe_andT (pe_cal (c__law_is_calm T) (hr.mono (by decide)) (by rfl) (pa_cons (pv 2) (pa_cons (pv 9) (pa_cons (pv 12) pa_nil)))) (pe_one (pe_cmpR (op_eqD hr.units) (pe_cal (c__law_total T) (hr.mono (by decide)) (by rfl) (pa_cons (pv 12) pa_nil)) (pv 10) (nomark _))))))))))))))))),
    dsK fun a0 h0 hs0 W hW => by
    exact (ds_seq (ds_asg (dt_op d2_add ((dt_int 1)).b ((dt_call hW (dan_cons (dt_var 0) (dan_cons (dt_int 4) dan_nil)))).b) (dg_name 1))
    (ds_seq (ds_asg (dt_call hW (dan_cons (dt_var 0) (dan_cons (dt_var 1) (dan_cons (dt_var 1) (dan_cons (dt_int 0) (dan_cons (dt_call hW (dan_cons (dt_var 0) (dan_cons (DF.t (df_lst (da_cons (dt_int 3) (da_cons (dt_int 30) da_nil)))) dan_nil))) dan_nil)))))) (dg_name 2))
    (ds_seq (ds_parN (is := [3, 4]) (dn_sh (dt_makeN (dan_cons (dt_var 2) dan_nil)) (dn_sh (dt_call hW (dan_cons (dt_var 1) dan_nil)) dn_nil)) rfl (by decide))
    (ds_seq (ds_asg (DF.t (df_lc (dib_seq (db_rd 4)) (dg_name 9) (by decide) dtt_yes (dt_cb dc_sumW (dba_cons ((DF.t (df_lc (dib_enum (db_rd 9)) (dg_tup (n := 2) (dgs_cons (dg_name 18) (dgs_cons (dg_name 19) dgs_nil))) (by decide) dtt_yes (dt_op d2_ix ((dt_op d2_ix (db_rd 2) (db_rd 18))).b (db_rd 19))))).b dba_nil)))) (dg_name 5))
    (ds_seq (ds_asg (dt_tup (da_cons (dt_cb dc_maxV (dba_cons (db_rd 5) dba_nil)) (da_cons (dt_op d2_ix (db_rd 4) ((dt_indexV (db_rd 5) (dt_cb dc_maxV (dba_cons (db_rd 5) dba_nil)))).b) da_nil))) (dg_name 6))
    (ds_seq (ds_if (dtt_not (dtt_tru ((dt_call hW (dan_cons (DF.t (df_lst (da_cons (DF.t (df_cb dcf_list (dba_cons ((dt_callN (dan_cons (dt_var 3) dan_nil))).b dba_nil))) (da_cons (dt_callN (dan_cons (dt_var 3) dan_nil)) da_nil)))) (dan_cons (DF.t (df_lst (da_cons (dt_var 4) (da_cons (dt_var 6) da_nil)))) dan_nil)))).b)) (ds_ret (dt_bl false)) ds_next)
    (ds_seq (ds_asg (dt_call hW (dan_cons (dt_var 0) (dan_cons (dt_cb dc_len (dba_cons (db_rd 4) dba_nil)) dan_nil))) (dg_name 7))
    (ds_seq (ds_for (di_seq (dt_tup (da_cons (dt_var 7) (da_cons (dt_indexV (db_rd 5) (dt_cb dc_maxV (dba_cons (db_rd 5) dba_nil))) da_nil)))) (dg_name 8) (ds_seq (ds_many (n := 2) (is := [9, 10]) (dn_sh (dt_op d2_ix (db_rd 4) (db_rd 8)) (dn_sh (dt_call hW (dan_cons (dt_call hW (dan_cons (dt_var 0) (dan_cons (dt_int 200) dan_nil))) (dan_cons (dt_op d2_add ((dt_int 1)).b ((dt_call hW (dan_cons (dt_var 0) (dan_cons (dt_int 4) dan_nil)))).b) dan_nil))) dn_nil)) rfl (by decide) (by decide))
    (ds_seq (ds_asg (dt_cb dc_tuple (dba_cons ((DF.t (df_lc ((di_rg1 (dt_var 1))).b (dg_name 19) (by decide) dtt_yes (dt_indexV (db_rd 9) (dt_var 19))))).b dba_nil)) (dg_name 11))
    (ds_seq (ds_parN (is := [12, 13]) (dn_sh (dt_callN (dan_cons (dt_var 3) (dan_cons (dt_var 9) (dan_cons (dt_var 10) dan_nil)))) (dn_sh (dt_op d2_eq ((dt_op d2_ix (db_rd 5) (db_rd 8))).b ((dt_cb dc_maxV (dba_cons (db_rd 5) dba_nil))).b) dn_nil)) rfl (by decide))
    (ds_seq (ds_if (dtt_or (dtt_not (dtt_tru ((dt_call hW (dan_cons (dt_call hW (dan_cons (dt_var 3) (dan_cons (dt_var 9) dan_nil))) (dan_cons (dt_op d2_ix (db_rd 5) (db_rd 8)) dan_nil)))).b)) (dtt_val (dt_op d2_eq ((dt_op d2_is (db_rd 12) (dt_non).b)).b (db_rd 13)))) (ds_ret (dt_bl false)) ds_next)
    (ds_seq (ds_if (dtt_or (dtt_val (dt_op d2_ne ((dt_op d2_is ((dt_callN (dan_cons (dt_var 3) (dan_cons (dt_var 9) dan_nil)))).b (dt_non).b)).b (db_rd 13))) (dtt_val (dt_op d2_eq ((dt_op d2_is ((dt_callN (dan_cons (dt_var 3) (dan_cons (dt_var 11) dan_nil)))).b (dt_non).b)).b (db_rd 13)))) (ds_ret (dt_bl false)) ds_next)
    (ds_if (dtt_tru (db_rd 13)) (ds_seq (ds_if (dtt_or (dtt_not (dtt_tru ((dt_call hW (dan_cons (dt_var 2) (dan_cons (dt_var 9) (dan_cons (dt_var 12) dan_nil))))).b)) (dtt_val (dt_op d2_ne ((dt_call hW (dan_cons (dt_var 12) dan_nil))).b (db_rd 10)))) (ds_ret (dt_bl false)) ds_next)
    (ds_seq (ds_if (dtt_val (dt_op d2_isNot ((dt_callN (dan_cons (dt_var 12) (dan_cons (dt_var 10) dan_nil)))).b ((dt_bl true)).b)) (ds_ret (dt_bl false)) ds_next)
    (ds_seq (ds_asg (dt_callN (dan_cons (dt_var 3) (dan_cons (dt_var 9) (dan_cons (dt_tup (da_cons (dt_int 0) (da_cons (dt_int 1) da_nil))) dan_nil)))) (dg_name 14))
    (ds_seq (ds_asg (dt_cb dc_tuple (dba_cons ((DF.t (df_lc (dib_seq (db_rd 9)) (dg_name 19) (by decide) dtt_yes (dt_op d2_ix (db_rd 14) (db_rd 19))))).b dba_nil)) (dg_name 15))
    (ds_seq (ds_if (dtt_or (dtt_val (dt_op d2_isNot ((dt_callN (dan_cons (dt_var 3) (dan_cons (dt_var 15) dan_nil)))).b ((dt_bl true)).b)) (dtt_val (dt_op d2_ne ((DF.t (df_cb dcf_list (dba_cons ((dt_callN (dan_cons (dt_var 3) (dan_cons (dt_var 11) (dan_cons (dt_var 15) dan_nil))))).b dba_nil)))).b ((DF.t (df_lst da_nil))).b))) (ds_ret (dt_bl false)) ds_next)
    (ds_seq (ds_asg (DF.t (df_lc (dib_enum (db_rd 9)) (dg_tup (n := 2) (dgs_cons (dg_name 18) (dgs_cons (dg_name 19) dgs_nil))) (by decide) dtt_yes (dt_call hW (dan_cons (dt_tup (da_cons (dt_op d2_ix ((dt_op d2_ix (db_rd 2) (db_rd 18))).b (db_rd 19)) (da_cons (dt_int 1) da_nil))) (dan_cons (dt_op d2_ix (db_rd 14) (db_rd 19)) dan_nil))))) (dg_name 16))
    (ds_seq (ds_asg (DF.t (df_lst (da_cons (DF.t (df_cb dcf_list (dba_cons ((dt_callN (dan_cons (dt_var 3) (dan_cons (dt_var 11) (dan_cons (dt_var 15) dan_nil))))).b dba_nil))) (da_cons (DF.t (df_cb dcf_list (dba_cons ((dt_callN (dan_cons (dt_var 3) (dan_cons (dt_var 9) (dan_cons (dt_var 14) dan_nil))))).b dba_nil))) da_nil)))) (dg_name 17))
    (ds_if (dtt_not (dtt_tru ((dt_call hW (dan_cons (dt_var 17) (dan_cons (DF.t (df_lst (da_cons (dt_var 16) (da_cons (dt_var 16) da_nil)))) dan_nil)))).b)) (ds_ret (dt_bl false)) ds_next)))))))) ds_next)))))))
    (ds_seq (ds_asg (dt_call hW (dan_cons (dt_call hW (dan_cons (dt_var 0) (dan_cons (dt_int 500) dan_nil))) (dan_cons (dt_op d2_add ((dt_int 1)).b ((dt_call hW (dan_cons (dt_var 0) (dan_cons (dt_int 6) dan_nil)))).b) dan_nil))) (dg_name 10))
    (ds_seq (ds_asg (dt_callN (dan_cons (dt_var 3) (dan_cons (dt_var 10) dan_nil))) (dg_tup (n := 2) (dgs_cons (dg_name 9) (dgs_cons (dg_name 12) dgs_nil))))
    (ds_ret (dt_and (dt_op d2_eq (db_rd 9) ((dt_op d2_ix ((dt_callN (dan_cons (dt_var 3) dan_nil))).b ((dt_int 1)).b)).b) (dt_and (dt_call hW (dan_cons (dt_var 2) (dan_cons (dt_var 9) (dan_cons (dt_var 12) dan_nil)))) (dt_op d2_eq ((dt_call hW (dan_cons (dt_var 12) dan_nil))).b (db_rd 10)))))))))))))))⟩)
  (fun _ _ _ _ _ _ us hl => match us, hl with | [_], _ => rfl)
abbrev s_law : Stmt := top 56
theorem sc_law : FnScope ["script", "hand", "table", "told", "turn"] ["script"] (defScope s_law) := ⟨rfl, rfl, rfl, by decide +kernel, rfl, by decide +kernel, by decide +kernel⟩
theorem c_law (T : Txt K mg) (B : Tbs K mg base) (hm : ∀ ns : List Int, ns.length ≤ 63 → m__law_hand [.scr ns] (fun d => ∃ cells s, d = .lst (handD cells 0 0 s 0) ∧ cells.length ≤ 63) (fun _ => False))
    (hf : f_law ((List.replicate (1 + lawMore) .no).set lawSlot (.sh .hand)) ⟨fun _ => False, fun _ d => d = .bl true, fun _ => False, fun _ => False⟩ (fun _ => False)) :
    ∃ fd, FunD K "law" "law" (defArgs s_law) (defBody s_law) (defScope s_law) [] [] (He.ga K "law") fd ∧ FnOk PR w K mg base CX0 11 (He.ga K "law") fd ["script"] (spLaw K (tabL K LDQ)) := by
  obtain ⟨fd, F⟩ := T.f_law
  refine ⟨fd, F, funD_okc F (B.hc_law fd F) sc_law (fun vs H Q E h => ?_) (fun A outer s H vs Q E hr h => ?_)⟩
  · obtain ⟨p, ns, rfl, _⟩ := h
    rfl
  · refine ⟨_, PSs.nox (pss_cons (ps_set (i := 1) sc_law.nd rfl (by first | exact Or.inl rfl | exact Or.inr rfl) (pe_cal (c__law_hand T) (hr.mono (by decide)) (by rfl) (pa_cons (pv 0) pa_nil)))
    (pss_cons (ps_set (i := 2) sc_law.nd rfl (by first | exact Or.inl rfl | exact Or.inr rfl) (pe_makX (c_Table T) passL (hr.mono (by decide)) (by rfl) (pa_cons (pe_tupF (pa_cons (pe_tupF (pa_cons pe_int (pa_cons pe_int pa_nil))) (pa_cons (pe_tupF (pa_cons pe_int (pa_cons pe_int pa_nil))) pa_nil))) pa_nil)))
    (pss_cons (ps_set (i := 3) sc_law.nd rfl (by first | exact Or.inl rfl | exact Or.inr rfl) (pe_lst (pa_cons (pe_calX (c_best_dealing T) passL (hr.mono (by decide)) (by rfl) (pa_cons (pv 2) pa_nil)) (pa_cons (pe_cal (c_sum_of T) (hr.mono (by decide)) (by rfl) (pa_cons (pv 2) (pa_cons (pe_tupF (pa_cons pe_int (pa_cons pe_int pa_nil))) pa_nil))) (pa_cons (pe_calX (c_prices T) passL (hr.mono (by decide)) (by rfl) (pa_cons (pv 2) (pa_cons (pe_tupF (pa_cons pe_int (pa_cons pe_int pa_nil))) (pa_cons (pe_tupF (pa_cons pe_int (pa_cons pe_int pa_nil))) pa_nil)))) (pa_cons (pe_calX (c_ring T) passL (hr.mono (by decide)) (by rfl) (pa_cons (pv 2) (pa_cons (pe_tupF (pa_cons pe_int (pa_cons pe_int pa_nil))) pa_nil))) pa_nil))))))
    (pss_cons (ps_if (PW.pt (pw_or (pt_not (pt_tru (pe_cal (c__law_is T) (hr.mono (by decide)) (by rfl) (pa_cons (pv 3) (pa_cons (pe_lst (pa_cons (pe_tupF (pa_cons pe_int (pa_cons (pe_tupF (pa_cons pe_int (pa_cons pe_int pa_nil))) pa_nil))) (pa_cons pe_int (pa_cons pe_non (pa_cons pe_non pa_nil))))) pa_nil))))) (pw_or1 (pt_cmpR op_isNotX (pe_calX (c_calm_pays T) passL (hr.mono (by decide)) (by rfl) (pa_cons (pv 2) (pa_cons (pe_tupF (pa_cons pe_int (pa_cons pe_int pa_nil))) pa_nil))) pe_non (nomark _))))) (pss_one (ps_ret pe_bl)) pss_nil)
    (pss_one (ps_ret (pe_callB (cr_all rfl) (by rfl) T.b_all bt_all (pa_cons (pe_lc (own := [("turn", 4)]) (g := (gName 4)) (tt := tYes) (te := (tCall (spOf K 1 m__law_is_right) [] E0 (tCons (tVar 1) tNil))) rfl sc_law.nd (pi_range1 (by rfl) T.b_range (pa_cons pe_int pa_nil)) (blkOk_by (by kernel_rfl)) (fun _ _ _ _ _ => (pg_name (i := 4) sc_law.nd rfl (by first | exact Or.inl rfl | exact Or.inr rfl))) (fun _ _ _ _ _ => pts_nil) (fun _ _ _ _ _ => (pe_cal (c__law_is_right T) (hr.mono (by decide)) (by rfl) (pa_cons (pv 1) pa_nil)))) pa_nil)))))))), law_ok (T := tabL K LDQ) (N := ["script", "hand", "table", "told", "turn"]) (i := 1) (j := 4) (f := f_law) rfl (by decide) hm (dsKT fun a0 h0 hs0 W hW hTT hT => by
    exact (ds_seq (ds_asg (dt_makeN (dan_cons (dt_tup (da_cons (dt_tup (da_cons (dt_int 6) (da_cons (dt_int 2) da_nil))) (da_cons (dt_tup (da_cons (dt_int 5) (da_cons (dt_int 4) da_nil))) da_nil))) dan_nil)) (dg_name 2))
    (ds_seq (ds_asg (DF.t (df_lst (da_cons (dt_callN (dan_cons (dt_var 2) dan_nil)) (da_cons (dt_call hW (dan_cons (dt_var 2) (dan_cons (dt_tup (da_cons (dt_int 1) (da_cons (dt_int 0) da_nil))) dan_nil))) (da_cons (dt_callN (dan_cons (dt_var 2) (dan_cons (dt_tup (da_cons (dt_int 1) (da_cons (dt_int 0) da_nil))) (dan_cons (dt_tup (da_cons (dt_int 3) (da_cons (dt_int 1) da_nil))) dan_nil)))) (da_cons (dt_callN (dan_cons (dt_var 2) (dan_cons (dt_tup (da_cons (dt_int 0) (da_cons (dt_int 1) da_nil))) dan_nil))) da_nil)))))) (dg_name 3))
    (ds_seq (ds_if (dtt_or (dtt_not (dtt_tru ((dt_call hW (dan_cons (dt_var 3) (dan_cons (DF.t (df_lst (da_cons (dt_tup (da_cons (dt_int 10) (da_cons (dt_tup (da_cons (dt_int 0) (da_cons (dt_int 1) da_nil))) da_nil))) (da_cons (dt_int 7) (da_cons dt_non (da_cons dt_non da_nil)))))) dan_nil)))).b)) (dtt_val (dt_op d2_isNot ((dt_callN (dan_cons (dt_var 2) (dan_cons (dt_tup (da_cons (dt_int 1) (da_cons (dt_int 0) da_nil))) dan_nil)))).b (dt_non).b))) (ds_ret (dt_bl false)) ds_next)
    (ds_ret (dt_cb dc_all (dba_cons ((DF.t (df_lc ((di_rg1 (dt_int 3))).b (dg_name 4) (by decide) dtt_yes (dt_call hW (dan_cons (dt_var 1) dan_nil))))).b dba_nil))))))) hf h⟩
end
end K80
open PySem L2 Fd in
local macro_rules | `(tactic| simp! only [$xs,*]) => `(tactic| simp only [$xs,*, true_and, beq_self_eq_true, Bool.not_true, Bool.not_false, decide_true, decide_false, eVar, eRd, eC, e2, dAdd, dSub, dMul, dFdiv, dMod, dPow, dII, dI0, dLtI, dLe, dGt, dGe, dLtV_int, dLeV_int, dGtV_int, dGeV_int, dMinV_2, dMaxV_2, dMinV_L, dMinV_T, dMaxV_L, dMaxV_T, dMinV_l, dMinV_t, dMaxV_l, dMaxV_t, dSortedV_eq, dSortedV_L, eAnd, eOr, eNot, eIf, eNeg, eChain, mTru, mVal, mAnd, mOr, mNot, mYes, dTru_bl, dTru_int, dTru_non, dTru_tup, dTru_lst, dIx_lst, dIx_tup, eFld_eq, tab_fold, dNeO_tab, eIsC_eq, isCQ_tab, fldQ_p, fldQ_t, fldQ_r, eSl, oNone, oSome, eTup, fLst, eNew, eCB, fCB, dLen, dAbs, dInt, dTuple, dList, aNil, aCons, fLstRg, eTupRg, rRg1, rRg2, eIsi, fSeq, fRg1, fRg2, fEnum, fZip, D.items, gdName, gdTup, gdCons, gdNil, sSeq, sNext, sDrop, sRet, sRetN, sIf, sAsg, sOwn, sOwnD, sStill, sPar, sAugI, sApp, sExt, sSetI, sSetH, sFor, fLc, sForD, eGetD, dOf, eGet1, eGet2, sPutDN, keyD, sMany, setAll, nNil, nSh, nOl, nOd, eCall, mBody, mInit, eMake, sSelf, sSelf2, wipeE, dSl, List.getElem?_cons_zero, List.getElem?_cons_succ, List.set_cons_zero, List.set_cons_succ, List.replicate_succ, List.replicate_zero, List.map_cons, List.map_nil, List.cons_append, List.nil_append, List.length_cons, List.length_nil, List.length_map, atI_0, atI_1, atI_2, atI_3, atI_4, atI_n, ↓reduceIte, Bool.false_eq_true, dEq_int, dNe_int, Nat.reduceAdd, List.flatten_replicate_singleton, Int.toNat_natCast, List.length_replicate, List.length_append, Nat.zero_add, putFD, f2, dAddF, dMulF, fSl, dMulT, eCallN, eMakeN, eLam, sRaise, sTryTh, unset, eIsX, eIsV, eXf, eTold, eCount, eCountV, cntQ_nat, eIndexF, eIndexV, dIndex_nat, dIndex_int, eSumL, mWord, dSorted, sNever, dSumW_lst, dMaxW_lst, dMinW_lst, dMinW_2, dMaxW_2, dSortedW_l, dSortedW_t, dSortedW_T, sAugSI, eRevX])
open PySem L2 Fd in
local macro_rules | `(tactic| decreasing_trivial) => `(tactic| first | exact trivial | decide | exact small (by first | omega | (simp only [List.length_map, List.length_range, List.length_append, List.length_cons, List.length_nil, List.length_take]; omega)) | exact smallL (by first | omega | (simp only [List.length_map, List.length_range, List.length_append, List.length_cons, List.length_nil, List.length_take]; omega)) | exact rgB_lit (by omega) (by omega) | exact rgOk_lit (by omega) (by omega) (by omega) (by omega) | omega | (refine And.intro ?_ (And.intro ?_ ?_) <;> omega) | (constructor <;> decide))
open PySem L2 Fd in
local macro_rules | `(tactic| get_elem_tactic_trivial) => `(tactic| (refine okq_deep (n := 8) (by decide) ?_; repeat first | with_reducible exact deep_int _ _ | with_reducible exact deep_bl _ _ | with_reducible exact deep_non _ | with_reducible exact deeps_n | with_reducible refine deep_tup ?_ | with_reducible refine deep_lst ?_ | with_reducible refine deeps_map fun _ _ => ?_ | with_reducible refine deeps_c ?_ ?_))
namespace K80
open PySem L2 Fd
variable {p t : Nat} {R : List (List Int)} {q : D → Prop} {qe : QE}
--# hand_works
theorem hand_works : ∀ ns : List Int, ns.length ≤ 63 → m__law_hand [.scr ns] (fun d => ∃ cells s, d = .lst (handD cells 0 0 s 0) ∧ cells.length ≤ 63) (fun _ => False) := by
  intro ns h
  have hc : ∀ a : Int, CMul 11 a := fun a => .inl (by omega)
  simp! only [m__law_hand_eq, f__law_hand]
  rw [cut63 _ (by rw [List.length_map]; exact h)]
  refine ⟨by rw [List.length_map]; unfold sizeLine; omega, lc_map (fun x => .int (if x < 0 then -x else x)) (fun x _ k hk => ?_) ?_⟩
  · simp! only [↓reduceIte]
    exact hk
  · simp! only [hc, true_and]
    exact ⟨by decide, ns.map fun x => if x < 0 then -x else x, _, by unfold handD; rw [List.map_map]; rfl, by rw [List.length_map]; exact h⟩
--# is_integer
theorem w_is_integer {d : D} (hd : d.plain = true) (h : q (.bl (isIntD d))) : m_is_integer [d] q qe := by
  simp! only [m_is_integer_eq, f_is_integer]
  cases d <;> first | (cases hd; done) | (simp! only [D.ty]; exact h)
--# is_within
theorem w_is_within {d : D} {lo hi : Int} (hd : d.plain = true) (h : q (.bl (withinD d lo hi))) : m_is_within [d, .int lo, .int hi] q qe := by
  simp! only [m_is_within_eq, f_is_within]
  refine w_is_integer hd ?_
  cases d with
  | int a =>
    simp! only [isIntD]
    by_cases h1 : lo ≤ a
    · simp! only [h1, decide_true]
      simpa only [withinD, h1, decide_true, Bool.true_and] using h
    · simp! only [h1, decide_false]
      simpa only [withinD, h1, decide_false, Bool.false_and] using h
  | _ => first | (cases hd; done) | (simp! only [isIntD]; exact h)
--# is_row
theorem w_is_row {d : D} (hd : d.plain = true) (h : q (.bl (match d with | .tup _ => true | .lst _ => true | _ => false))) : m_is_row [d] q qe := by
  simp! only [m_is_row_eq, f_is_row]
  cases d <;> first | (cases hd; done) | (simp! only [D.ty]; exact h)
--# Table
theorem w_Table (T : Tab p t R) {qf : List (Str × D) → Prop} (h : qf [("persons", .int p), ("things", .int t), ("rows", .tup (R.map intT))]) : m_Table [.tup (R.map intT)] qf qe := by
  have hr := T.rows
  have h1 := T.p1
  have h5 := T.p5
  have h9 := T.t9
  have c1 : (1 : Int) ≤ (p : Int) := by omega
  have c2 : (p : Int) ≤ 5 := by omega
  have r0 := row_get T (i := 0) (by omega)
  have l0 : (R.getD 0 []).length = t := T.cols _ (row_mem T (by omega))
  simp! only [m_Table_eq, f_Table]
  intro x dx
  refine w_is_row rfl ?_
  simp! only [hr, c1, c2, decide_true, Bool.not_true, enumD_map]
  refine for_inv (fun k ρ => ∃ u2 u3, ρ = [.oo "Table" x dx [], .sh (.tup (R.map intT)), u2, u3, .no]) ⟨_, _, rfl⟩ (fun k y ρ nx hy hs hk => ?_) (fun ρ hs => ?_)
  · obtain ⟨u2, u3, rfl⟩ := hs
    obtain ⟨r, i⟩ := y
    have hmem : r ∈ R := List.fst_mem_of_mem_zipIdx (List.mem_of_getElem? hy)
    have hrl := T.cols r hmem
    have n9 : ¬ (9 : Int) < (t : Int) := by omega
    simp! only [true_and]
    refine w_is_row rfl ?_
    simp! only [hrl, n9, decide_false, Bool.not_true, r0]
    refine w_is_row rfl ?_
    simp! only [l0, hrl, beq_self_eq_true, Bool.not_true]
    refine ⟨small (by omega), lc_map (fun x => .bl true) (fun c hc k' hk' => ?_) ?_⟩
    · have := T.low r hmem c hc
      simp! only [↓reduceIte]
      refine w_is_within rfl ?_
      rw [within_nat this.1 this.2]
      exact hk'
    · rw [dAll_map, List.all_eq_true.mpr (fun _ _ => rfl)]
      simp! only [Bool.not_true]
      exact hk _ ⟨_, _, rfl⟩
  · obtain ⟨u2, u3, rfl⟩ := hs
    simp! only [hr, r0, l0, ne_pt, ne_pr, ne_tr]
    refine ⟨by decide, by decide, small (by omega), lc_map intT (fun r _ k hk => ?_) ⟨by decide, _, rfl, h⟩⟩
    simp! only [↓reduceIte]
    exact hk
--# Lot
def Lot (t : Nat) (L : List Nat) : Prop := ∃ f, L = (List.range t).filter f
theorem Lot.len {L : List Nat} (h : Lot t L) : L.length ≤ t := by
  obtain ⟨f, rfl⟩ := h
  have := List.length_filter_le f (List.range t)
  rwa [List.length_range] at this
theorem Lot.lt {L : List Nat} (h : Lot t L) : ∀ i ∈ L, i < t := by
  obtain ⟨f, rfl⟩ := h
  exact fun i hi => List.mem_range.mp (List.mem_filter.mp hi).1
theorem Lot.pw {L : List Nat} (h : Lot t L) : L.Pairwise (· < ·) := by
  obtain ⟨f, rfl⟩ := h
  exact List.Pairwise.filter _ List.pairwise_lt_range
theorem zip_lt : ∀ {L : List Nat}, L.Pairwise (· < ·) → ∀ x ∈ L.zip (L.drop 1), x.1 < x.2
  | [], _, x, h => by cases h
  | [a], _, x, h => by cases h
  | a :: b :: r, h, x, hx => by
    have e : (a :: b :: r).zip ((a :: b :: r).drop 1) = (a, b) :: ((b :: r).zip ((b :: r).drop 1)) := rfl
    rw [e] at hx
    rcases List.mem_cons.mp hx with e | e
    · subst e
      exact (List.pairwise_cons.mp h).1 b (List.mem_cons_self ..)
    · exact zip_lt (List.pairwise_cons.mp h).2 x e
--# Deal
structure Deal (p t : Nat) (d : List Nat) : Prop where
  len : d.length = t
  lt : ∀ x ∈ d, x < p
theorem Deal.at_ {d : List Nat} (h : Deal p t d) {j : Nat} (hj : j < t) : atI (d.map natI) (j : Int) = some (.int (d.getD j 0 : Nat)) := by
  have h' : j < d.length := by rw [h.len]; exact hj
  rw [atI_n, List.getElem?_map, List.getElem?_eq_getElem h', List.getD_eq_getElem?_getD, List.getElem?_eq_getElem h']
  rfl
--# is_deal
theorem w_is_deal {d : List Nat} (ht : t ≤ 9) (hd : Deal p t d) (h : q (.bl true)) : m_is_deal [tab p t R, nats d] q qe := by
  simp! only [m_is_deal_eq, f_is_deal, D.ty, isi_tt, Bool.not_true, hd.len, beq_self_eq_true]
  refine ⟨small (by omega), lc_map (fun x => .bl true) (fun x hx k hk => ?_) ?_⟩
  · have := hd.lt x hx
    simp! only [↓reduceIte]
    refine w_is_within rfl ?_
    rw [within_nat (by omega) (by omega)]
    exact hk
  · rw [dAll_map, List.all_eq_true.mpr (fun _ _ => rfl)]
    exact h
--# lotOf
/-- the lot of a person -/
def lotOf (t : Nat) (d : List Nat) (i : Nat) : List Nat := (List.range t).filter fun j => d.getD j 0 == i
theorem lotOf_lot (d : List Nat) (i : Nat) : Lot t (lotOf t d i) := ⟨_, rfl⟩
def gain (R : List (List Int)) (t : Nat) (d : List Nat) (i : Nat) : Int := ((lotOf t d i).map (W R i)).sum
--# nats_eq
theorem eqv_nats : ∀ a b : List Nat, D.eqv (nats a) (nats b) = (a == b)
  | [], [] => rfl
  | [], _ :: _ => rfl
  | _ :: _, [] => rfl
  | x :: a, y :: b => by
    show (((x : Int) == (y : Int)) && D.eqv (nats a) (nats b)) = (x == y && a == b)
    rw [eqv_nats a b, cast_beq]
theorem eqv_natL : ∀ a b : List Nat, D.eqv (.lst (a.map natI)) (.lst (b.map natI)) = (a == b)
  | [], [] => rfl
  | [], _ :: _ => rfl
  | _ :: _, [] => rfl
  | x :: a, y :: b => by
    show (((x : Int) == (y : Int)) && D.eqv (.lst (a.map natI)) (.lst (b.map natI))) = (x == y && a == b)
    rw [eqv_natL a b, cast_beq]
theorem okq_nats (a : List Nat) : (nats a).okq = true := okq_deep (n := 1) (by omega) (deep_tup (deeps_map fun x _ => deep_int _ _))
theorem okq_natL (a : List Nat) : (D.lst (a.map natI)).okq = true := okq_deep (n := 1) (by omega) (deep_lst (deeps_map fun x _ => deep_int _ _))
theorem okq_ls (as : List (List Nat)) : (D.lst (as.map nats)).okq = true := okq_deep (n := 2) (by omega) (deep_lst (deeps_map fun a _ => deep_tup (deeps_map fun x _ => deep_int _ _)))
theorem dEq_nats (a b : List Nat) (q : D → Prop) : dEq (nats a) (nats b) q = q (.bl (a == b)) := by
  unfold dEq
  rw [eqv_nats, okq_nats, okq_nats]
  exact propext ⟨fun z => z.2, fun z => ⟨⟨rfl, rfl⟩, z⟩⟩
theorem dNe_nats (a b : List Nat) (q : D → Prop) : dNe (nats a) (nats b) q = q (.bl (!(a == b))) := by
  unfold dNe
  rw [eqv_nats, okq_nats, okq_nats]
  exact propext ⟨fun z => z.2, fun z => ⟨⟨rfl, rfl⟩, z⟩⟩
theorem dNe_natL (a b : List Nat) (q : D → Prop) : dNe (.lst (a.map natI)) (.lst (b.map natI)) q = q (.bl (!(a == b))) := by
  unfold dNe
  rw [eqv_natL, okq_natL, okq_natL]
  exact propext ⟨fun z => z.2, fun z => ⟨⟨rfl, rfl⟩, z⟩⟩
--# rgD_nat
theorem rgD_nat (a b : Nat) : rgD (a : Int) (b : Int) = (List.range' a (b - a)).map natI := by
  unfold rgD
  rw [show ((b : Int) - (a : Int)).toNat = b - a from by omega, List.range'_eq_map_range, List.map_map]
  exact List.map_congr_left fun i _ => by
    show D.int ((a : Int) + (i : Nat)) = D.int ((a + i : Nat) : Int)
    rw [show ((a + i : Nat) : Int) = (a : Int) + (i : Nat) from by omega]
--# vw
def vw (R : List (List Int)) (t : Nat) (d : List Nat) (i k : Nat) : Int := ((lotOf t d k).map (W R i)).sum
--# BadD
def NoTup (d : D) : Prop := d.plain = true ∧ ∀ xs, d ≠ .tup xs
def BadD (p t : Nat) (d : D) : Prop := NoTup d ∨ ∃ xs, d = .tup xs ∧ xs.length ≤ 1000 ∧ (xs.length ≠ t ∨ ((∀ x ∈ xs, x.plain = true) ∧ ∃ x ∈ xs, withinD x 0 (p - 1) = false))
--# no_deal
theorem w_no_deal {d : D} (hb : BadD p t d) (h : q (.bl false)) : m_is_deal [tab p t R, d] q qe := by
  rcases hb with ⟨h1, h2⟩ | ⟨xs, rfl, hl, hx⟩
  · cases d <;> first | (cases h1; done) | (exact absurd rfl (h2 _)) | (simp! only [m_is_deal_eq, f_is_deal, D.ty]; exact h)
  · simp! only [m_is_deal_eq, f_is_deal, D.ty, isi_tt, Bool.not_true, cast_beq]
    rcases hx with hx | ⟨hp, x, hx, hw⟩
    · rw [if_pos (by simp [hx])]
      exact h
    · by_cases e : xs.length = t
      · rw [if_neg (by simp [e])]
        have em : xs = xs.map id := (List.map_id xs).symm
        rw [em]
        refine ⟨small (by rw [List.length_map]; omega), lc_map (fun x => .bl (withinD x 0 (p - 1))) (fun x hx k hk => ?_) ?_⟩
        · simp! only [id]
          exact w_is_within (hp x hx) hk
        · rw [dAll_map, show (xs.all fun x => withinD x 0 (p - 1)) = false from by
            rw [Bool.eq_false_iff]
            intro z
            have := List.all_eq_true.mp z x hx
            rw [hw] at this
            cases this]
          exact h
      · rw [if_pos (by simp [e])]
        exact h
--# allD
def nxA (p : Nat) (row : List Nat) : List (List Nat) := (List.range p).map fun x => row ++ [x]
def allD (p : Nat) : Nat → List (List Nat)
  | 0 => [[]]
  | k + 1 => (allD p k).flatMap (nxA p)
theorem allD_len {k : Nat} (hp : p ≤ 3) (hk : k ≤ 5) : (allD p k).length ≤ 300 := by
  have := List.all_eq_true.mp (List.all_eq_true.mp (by decide +kernel : (List.range 4).all (fun p => (List.range 6).all fun k => decide ((allD p k).length ≤ 300)) = true) p (List.mem_range.mpr (by omega))) k (List.mem_range.mpr (by omega))
  exact of_decide_eq_true this
theorem allD_deal : ∀ {k : Nat} {d : List Nat}, d ∈ allD p k ↔ Deal p k d := by
  intro k
  induction k with
  | zero =>
    intro d
    show d ∈ [[]] ↔ _
    rw [List.mem_singleton]
    exact ⟨fun e => e ▸ ⟨rfl, fun _ h => by cases h⟩, fun h => List.eq_nil_of_length_eq_zero h.len⟩
  | succ k ih =>
    intro d
    show d ∈ (allD p k).flatMap (nxA p) ↔ _
    rw [List.mem_flatMap]
    constructor
    · rintro ⟨r, hr, hd⟩
      obtain ⟨x, hx, rfl⟩ := List.mem_map.mp hd
      have h := ih.mp hr
      refine ⟨by rw [List.length_append, h.len]; rfl, fun y hy => ?_⟩
      rcases List.mem_append.mp hy with z | z
      · exact h.lt y z
      · rw [List.mem_singleton.mp z]; exact List.mem_range.mp hx
    · intro h
      have hn : d ≠ [] := fun e => by have := h.len; rw [e] at this; simp at this
      refine ⟨d.dropLast, ih.mpr ⟨by rw [List.length_dropLast, h.len]; rfl, fun y hy => h.lt y (List.dropLast_subset d hy)⟩, List.mem_map.mpr ⟨d.getLast hn, List.mem_range.mpr (h.lt _ (List.getLast_mem hn)), List.dropLast_concat_getLast hn⟩⟩
theorem flat_len {α β : Type} {f : α → List β} {n : Nat} : ∀ {xs : List α}, (∀ x ∈ xs, (f x).length ≤ n) → (xs.flatMap f).length ≤ n * xs.length
  | [], _ => by simp
  | x :: xs, h => by
    have h1 := flat_len (xs := xs) fun y hy => h y (List.mem_cons_of_mem _ hy)
    have h2 := h x (List.mem_cons_self ..)
    rw [List.flatMap_cons, List.length_append, List.length_cons, Nat.mul_succ]
    omega
theorem nxA_len (row : List Nat) : (nxA p row).length ≤ p := by unfold nxA; rw [List.length_map, List.length_range]; exact Nat.le_refl _
theorem snoc_nats (l : List Nat) (x : Nat) : D.tup (l.map natI ++ [.int (x : Int)]) = nats (l ++ [x]) := by
  rw [nats, List.map_append]
  rfl
theorem allA_step {k i : Nat} {row : List Nat} (hy : (allD p k)[i]? = some row) : (((allD p k).take (i + 1)).flatMap (nxA p)) = (((allD p k).take i).flatMap (nxA p)) ++ nxA p row := by
  rw [List.take_succ, hy, List.flatMap_append]
  simp
theorem allA_len {k i : Nat} (hp : p ≤ 3) (hk : k ≤ 5) : (((allD p k).take i).flatMap (nxA p)).length ≤ 3 * 300 := by
  have := flat_len (f := nxA p) (n := p) (xs := (allD p k).take i) fun r _ => nxA_len r
  have h2 : ((allD p k).take i).length ≤ (allD p k).length := List.length_take_le' ..
  have h3 := allD_len (p := p) (k := k) hp hk
  exact Nat.le_trans this (Nat.mul_le_mul hp (by omega))
theorem nxA_D (row : List Nat) : ((List.range p).map fun x => D.tup (row.map natI ++ [.int ((x : Nat) : Int)])) = (nxA p row).map nats := by
  unfold nxA
  rw [List.map_map]
  exact List.map_congr_left fun x _ => snoc_nats row x
--# inV
theorem inV_nats (x : Nat) : ∀ row : List Nat, inV (D.int (x : Int)).v ((row.map natI).map D.v) = row.contains x
  | [] => rfl
  | y :: row => by
    show ((((y : Nat) : Int) == (x : Int)) || inV (D.int (x : Int)).v ((row.map natI).map D.v)) = _
    rw [inV_nats x row, cast_beq, List.contains_cons]
    rw [show (y == x) = (x == y) from by rw [Bool.eq_iff_iff, beq_iff_eq, beq_iff_eq]; exact eq_comm]
theorem flat_nats (row : List Nat) : (row.map natI).all D.flat = true := by
  rw [List.all_map]
  exact List.all_eq_true.mpr fun _ _ => rfl
theorem dIn_nats (neg : Bool) (x : Nat) (row : List Nat) (q : D → Prop) (h : q (.bl (if neg then !(row.contains x) else row.contains x))) : dInX neg (.int (x : Int)) (nats row) q := by
  rw [dIn_tup]
  refine ⟨⟨rfl, flat_nats row⟩, ?_⟩
  rw [inV_nats]
  exact h
--# some
theorem w_some {xs : List D} (h0 : 0 < xs.length) (hl : xs.length ≤ 1000) (h : ∀ d ∈ xs, q d) : m__law_some [.hand, .lst xs] q qe := by
  simp! only [m__law_some_eq, f__law_some]
  refine draw_nat h0 (by omega) fun j hj => ?_
  simp! only [↓reduceIte]
  rw [List.getElem?_eq_getElem hj]
  exact h _ (List.getElem_mem hj)
--# law_is_z
--? def f__law_is [^\n]*\n[^\n]*\n[^\n]*fZip \(eRd 0\) \(eRd 1\)
theorem zip_self : ∀ xs : List D, zipD xs xs = xs.map fun d => .tup [d, d]
  | [] => rfl
  | x :: xs => by
    show D.tup [x, x] :: zipD xs xs = _
    rw [zip_self xs]
    rfl
theorem w_is : ∀ (n : Nat) (d : D) {q : D → Prop}, sm n d = true → q (.bl true) → m__law_is (n + 1) [d, d] q qe := by
  intro n
  induction n with
  | zero =>
    intro d q hs h
    cases d <;> first | (cases hs; done) | skip
    · simp! only [m__law_is_eq, f__law_is, D.ty, dIs, dNe_bl, dEq_bl]
      exact h
    · simp! only [m__law_is_eq, f__law_is, D.ty, dIs, dNe_bl, dEq_bl, beq_self_eq_true]
      exact h
    · simp! only [m__law_is_eq, f__law_is, D.ty, dIs, dNe_bl, dEq_bl, beq_self_eq_true]
      exact h
  | succ n ih =>
    intro d q hs h
    have go : ∀ xs : List D, xs.length ≤ 1000 → xs.all (sm n) = true → lcL (gdTup 2 (gdCons (gdName 2) (gdCons (gdName 3) gdNil))) mYes (eCall (m__law_is (n + 1)) (aCons (eVar 2) (aCons (eVar 3) aNil))) [.sh d, .sh d, .no, .no] (zipD xs xs)
        (fun ys => dAll [.lst ys] q) qe := fun xs hl ha => by
      rw [zip_self]
      refine lc_map (fun x => .bl true) (fun x hx k hk => ?_) ?_
      · simp! only [↓reduceIte]
        exact ih x (List.all_eq_true.mp ha x hx) hk
      · rw [dAll_map, List.all_eq_true.mpr (fun _ _ => rfl)]
        exact h
    cases d <;> first | (cases hs; done) | skip
    · simp! only [m__law_is_eq, f__law_is, D.ty, dIs, dNe_bl, dEq_bl]
      exact h
    · simp! only [m__law_is_eq, f__law_is, D.ty, dIs, dNe_bl, dEq_bl, beq_self_eq_true]
      exact h
    · simp! only [m__law_is_eq, f__law_is, D.ty, dIs, dNe_bl, dEq_bl, beq_self_eq_true]
      exact h
    all_goals
      rename_i xs
      obtain ⟨h1, h2⟩ := Bool.and_eq_true_iff.mp (show (decide (xs.length ≤ 1000) && xs.all (sm n)) = true from hs)
      have h1 := of_decide_eq_true h1
      rw [m__law_is_eq]
      simp! only [f__law_is, D.ty, dIs, dNe_bl, dEq_bl, beq_self_eq_true]
      exact ⟨by rw [zip_self, List.length_map]; exact small (by omega), go xs h1 h2⟩
--# bad_rep
theorem bad_rep {n : Nat} {x : D} (hn : 1 ≤ n) (hn2 : n ≤ 1000) (hx : x.plain = true) (hw : withinD x 0 (p - 1) = false) : BadD p t (.tup (List.replicate n [x]).flatten) := by
  have e : ∀ n : Nat, (List.replicate n [x]).flatten = List.replicate n x := by
    intro n
    induction n with
    | zero => rfl
    | succ n ih => rw [List.replicate_succ, List.flatten_cons, ih]; rfl
  rw [e]
  exact .inr ⟨_, rfl, by rw [List.length_replicate]; exact hn2, .inr ⟨fun y hy => by rw [List.eq_of_mem_replicate hy]; exact hx, x, List.mem_replicate.mpr ⟨by omega, rfl⟩, hw⟩⟩
theorem bad_len {n : Nat} {x : D} (hn2 : n ≤ 1000) (hne : n ≠ t) : BadD p t (.tup (List.replicate n [x]).flatten) := by
  have e : ∀ n : Nat, (List.replicate n [x]).flatten = List.replicate n x := by
    intro n
    induction n with
    | zero => rfl
    | succ n ih => rw [List.replicate_succ, List.flatten_cons, ih]; rfl
  rw [e]
  exact .inr ⟨_, rfl, by rw [List.length_replicate]; exact hn2, .inl (by rw [List.length_replicate]; exact hne)⟩
--# rowsL
theorem rowsL_map {α : Type} (f : α → List D) : ∀ xs : List α, D.rowsL (xs.map fun x => D.lst (f x)) = some (xs.map f)
  | [] => rfl
  | x :: xs => by rw [List.map_cons, D.rowsL, rowsL_map f xs]; rfl
--# sort_lots
theorem all_small {P : Nat → Nat → List Nat → Bool} (hp : p ≤ 3) (ht : t ≤ 5) {d : List Nat} (hd : Deal p t d) (h : ((List.range 4).all fun p => (List.range 6).all fun t => (allD p t).all (P p t)) = true) : P p t d = true :=
  List.all_eq_true.mp (List.all_eq_true.mp (List.all_eq_true.mp h p (List.mem_range.mpr (by omega))) t (List.mem_range.mpr (by omega))) d (allD_deal.mpr hd)
theorem own_one (hp : p ≤ 3) (ht : t ≤ 5) {d : List Nat} (hd : Deal p t d) {j : Nat} (hj : j < t) : ((List.range p).filter fun i => (lotOf t d i).any fun y => y == j) = [d.getD j 0] := by
  have := all_small (P := fun p t d => (List.range t).all fun j => ((List.range p).filter fun i => (lotOf t d i).any fun y => y == j) == [d.getD j 0]) hp ht hd (by decide +kernel)
  exact eq_of_beq (List.all_eq_true.mp this j (List.mem_range.mpr hj))
theorem perm_lots (hp : p ≤ 3) (ht : t ≤ 5) {d : List Nat} (hd : Deal p t d) : ((List.range p).flatMap (lotOf t d)).Perm (List.range t) :=
  List.isPerm_iff.mp (all_small (P := fun p t d => ((List.range p).flatMap (lotOf t d)).isPerm (List.range t)) hp ht hd (by decide +kernel))
theorem range_sorted (t : Nat) : ((List.range t).map fun n : Nat => (n : Int)).Pairwise (· ≤ ·) := by
  rw [List.pairwise_map]
  exact List.Pairwise.imp (fun h => by omega) List.pairwise_lt_range
theorem sorted_range {ns : List Int} {L : List Nat} (hL : L.Perm (List.range t)) (h1 : ns.Perm (L.map fun n : Nat => (n : Int))) (h2 : ns.Pairwise (· ≤ ·)) : ns.map D.int = (List.range t).map natI := by
  rw [sorted_one (h1.trans (hL.map _)) h2 (range_sorted t), List.map_map]
  rfl
--# gcd
theorem w_gcd {a : Int} {b : Nat} (h : q (.int (Nat.gcd a.natAbs b : Nat))) : m_common_divisor [.int a, .int (b : Int)] q qe := by
  try simp! only [m_common_divisor_eq, f_common_divisor, abs_nat, Int.natAbs_natCast]
  have go : ∀ (k m n : Nat), m ≤ k → q (.int (Nat.gcd n m : Nat)) → whN (mVal (e2 dGtV (eRd 1) (eC (.int 0)))) (sMany [0, 1] (nSh (eVar 1) (nSh (e2 dMod (eCB dInt (aCons (eRd 0) aNil)) (eRd 1)) nNil))) (k + 1) [.sh (.int (n : Int)), .sh (.int (m : Int))] ⟨fun ρ => sRet (eVar 0) ρ ⟨fun _ => q .non, fun _ => q, fun _ => False, fun _ => False⟩ qe, fun _ => q, fun _ => False, fun _ => False⟩ qe := by
    intro k
    induction k with
    | zero =>
      intro m n hk h
      have : m = 0 := by omega
      subst this
      refine while_hide fun G hG => ?_
      try simp! only [↓reduceIte]
      rw [Nat.gcd_zero_right] at h
      exact h
    | succ k ih =>
      intro m n hk h
      refine while_hide fun G hG => ?_
      by_cases hm : m = 0
      · subst hm
        try simp! only [↓reduceIte]
        rw [Nat.gcd_zero_right] at h
        exact h
      · have hm' : (0 : Int) < (m : Int) := by omega
        try simp! only [hm', decide_true]
        refine hG _ ?_
        have e : ((n : Int) % (m : Int)) = ((n % m : Nat) : Int) := by omega
        rw [e]
        refine ih (n % m) m ?_ ?_
        · have := Nat.mod_lt n (show 0 < m by omega)
          omega
        · rw [← gcd_step]
          exact h
  exact ⟨b + 1, go b b a.natAbs (Nat.le_refl _) h⟩
--# fraction
theorem w_fraction {a : Int} {b : Nat} (hb : 0 < b) (hb2 : b < 1073741824) (h : q (frD (mkRat a b))) : m_fraction [.int a, .int (b : Int)] q qe := by
  have h0 : ¬ (b : Int) = 0 := by omega
  have h1 : ¬ (b : Int) < 0 := by omega
  try simp! only [m_fraction_eq, f_fraction, dEq_int, dLtV_int, beq_eq_false_iff_ne.mpr h0, h1, decide_false]
  refine w_gcd ?_
  have hg := gcd_pos (a := a) hb
  have hg2 := gcd_le (a := a) hb
  try simp! only [↓reduceIte]
  refine ⟨⟨by omega, by omega⟩, ⟨by omega, by omega⟩, ?_⟩
  refine ⟨by decide, ?_⟩
  rw [mk_tup a hb rfl]
  exact h
--# is_fraction
theorem w_is_fraction {x : Rat} (h : q (.bl true)) : m_is_fraction [frD x] q qe := by
  have hx := Nat.pos_of_ne_zero x.den_nz
  have hg : Nat.gcd x.num.natAbs x.den = 1 := x.reduced
  have hp : (x.den : Int) > 0 := by omega
  have l2 : (([D.int x.num, D.int (x.den : Int)]).length : Int) = 2 := rfl
  rw [m_is_fraction_eq]
  refine seq_hide fun G hG => ?_
  try simp! only [frD, D.ty]
  refine ⟨by decide, ?_⟩
  try simp! only [lcL]
  refine w_is_integer rfl ?_
  try simp! only [lcL]
  refine w_is_integer rfl ?_
  try simp! only [lcL, isIntD, dAll, D.bools, Option.map_some, List.all_cons, List.all_nil, id]
  refine hG _ ?_
  try simp! only [atI_0, atI_1, hp, decide_true]
  refine w_gcd ?_
  rw [hg]
  exact dEq_same (EK.int.ok (by decide) 1) h
--# plus
theorem w_plus {x y : Rat} (hd : x.den * y.den < 1073741824) (h : q (frD (x + y))) : m_plus [frD x, frD y] q qe := by
  have hx := Nat.pos_of_ne_zero x.den_nz
  have hy := Nat.pos_of_ne_zero y.den_nz
  have hx1 : x.den ≤ x.den * y.den := Nat.le_mul_of_pos_right _ hy
  have hy1 : y.den ≤ x.den * y.den := Nat.le_mul_of_pos_left _ hx
  try simp! only [m_plus_eq, f_plus, frD, atI_0, atI_1]
  refine ⟨.inr (by omega), .inr (by omega), .inr (by omega), ?_⟩
  rw [show ((x.den : Int) * (y.den : Int)) = ((x.den * y.den : Nat) : Int) from by push_cast; rfl]
  refine w_fraction (Nat.mul_pos hx hy) hd ?_
  rw [rat_add]
  exact h
--# minus
theorem w_minus {x y : Rat} (hd : x.den * y.den < 1073741824) (h : q (frD (x - y))) : m_minus [frD x, frD y] q qe := by
  have hx := Nat.pos_of_ne_zero x.den_nz
  have hy := Nat.pos_of_ne_zero y.den_nz
  have hx1 : x.den ≤ x.den * y.den := Nat.le_mul_of_pos_right _ hy
  have hy1 : y.den ≤ x.den * y.den := Nat.le_mul_of_pos_left _ hx
  try simp! only [m_minus_eq, f_minus, frD, atI_0, atI_1]
  refine ⟨.inr (by omega), .inr (by omega), .inr (by omega), ?_⟩
  rw [show ((x.den : Int) * (y.den : Int)) = ((x.den * y.den : Nat) : Int) from by push_cast; rfl]
  refine w_fraction (Nat.mul_pos hx hy) hd ?_
  rw [rat_sub]
  exact h
--# less
theorem w_less {x y : Rat} (hx : x.den < 1073741824) (hy : y.den < 1073741824) (h : q (.bl (decide (x < y)))) : m_less [frD x, frD y] q qe := by
  try simp! only [m_less_eq, f_less, frD, atI_0, atI_1]
  refine ⟨.inr (by omega), .inr (by omega), ?_⟩
  try simp! only [dLtV_int, rat_lt]
  exact h
--# total
theorem w_total {xs : List Rat} {N : Nat} (hN : 0 < N) (hd : ∀ x ∈ xs, Dv N x) (hN2 : N * N < 1073741824) (h : q (frD xs.sum)) {c : List D → D} (hc : c = D.lst ∨ c = D.tup) : m_total [c (xs.map frD)] q qe := by
  have go : sFor (fSeq (eVar 0)) (gdName 2) (sAsg (eCall m_plus (aCons (eVar 1) (aCons (eVar 2) aNil))) (gdName 1)) [.sh (c (xs.map frD)), .sh (.tup [.int 0, .int 1]), .no] ⟨fun ρ => sRet (eVar 1) ρ ⟨fun _ => q .non, fun _ => q, fun _ => False, fun _ => False⟩ qe, fun _ => q, fun _ => False, fun _ => False⟩ qe := by
    have e : ∀ k : List D → Prop, (fSeq (eVar 0)) [.sh (c (xs.map frD)), .sh (.tup [.int 0, .int 1]), .no] k qe = k (xs.map frD) := by
      intro k
      rcases hc with rfl | rfl <;> rfl
    show (fSeq (eVar 0)) _ _ qe
    rw [e]
    refine for_inv (fun k ρ => ∃ u, ρ = [.sh (c (xs.map frD)), .sh (frD ((xs.take k).sum)), u]) ⟨_, rfl⟩ (fun k y ρ nx hy hs hk => ?_) (fun ρ hs => ?_)
    · obtain ⟨u, rfl⟩ := hs
      have h1 : Dv N ((xs.take k).sum) := Dv.sum (fun x hx => hd x (List.mem_of_mem_take hx)) hN
      have h2 := hd y (List.mem_of_getElem? hy)
      have h3 := h1.den hN
      have h4 := h2.den hN
      have h5 := Nat.mul_le_mul h3 h4
      try simp! only [↓reduceIte]
      refine w_plus (by omega) ?_
      refine hk _ ⟨.sh (frD y), ?_⟩
      rw [List.take_add_one, hy, List.sum_append]
      simp only [Option.toList_some, List.sum_cons, List.sum_nil, Rat.add_zero]
    · obtain ⟨u, rfl⟩ := hs
      rw [List.take_length]
      try simp! only [↓reduceIte]
      exact h
  try simp! only [m_total_eq, f_total]
  exact go
--# law_cut
--? def f__law_cut : MS := \(sSeq \(sMany \[2, 3\]
theorem w_law_cut {a : Int} {b : Nat} (hb : 0 < b) (hb2 : b < 1073741824) (h : q (frD (mkRat a b))) : m__law_cut [.int a, .int (b : Int)] q qe := by
  have h1 : (b : Int) > 0 := by omega
  have hg := gcd_pos (a := a) hb
  have hg2 := gcd_le (a := a) hb
  have fin : q (.tup [.int (a / ((Nat.gcd a.natAbs b : Nat) : Int)), .int ((b : Int) / ((Nat.gcd a.natAbs b : Nat) : Int))]) := by rw [mk_tup a hb rfl]; exact h
  have go : ∀ (sq : SQ), sq.nx [.sh (.int a), .sh (.int (b : Int)), .sh (.int (Nat.gcd a.natAbs b : Nat)), .sh (.int 0), .no] → ∀ (k m n : Nat), m ≤ k → Nat.gcd n m = Nat.gcd a.natAbs b → whN (mVal (e2 dNe (eRd 3) (eC (.int 0)))) (sMany [2, 3] (nSh (eVar 3) (nSh (e2 dMod (eCB dInt (aCons (eRd 2) aNil)) (eRd 3)) nNil))) (k + 1) [.sh (.int a), .sh (.int (b : Int)), .sh (.int (n : Int)), .sh (.int (m : Int)), .no] sq qe := by
    intro sq hsq k
    induction k with
    | zero =>
      intro m n hk h
      have : m = 0 := by omega
      subst this
      refine while_hide fun G hG => ?_
      rw [Nat.gcd_zero_right] at h
      try simp! only [↓reduceIte]
      rw [h]
      exact hsq
    | succ k ih =>
      intro m n hk h
      refine while_hide fun G hG => ?_
      by_cases hm : m = 0
      · subst hm
        rw [Nat.gcd_zero_right] at h
        try simp! only [↓reduceIte]
        rw [h]
        exact hsq
      · have hm' : (0 : Int) < (m : Int) := by omega
        have hm2 : ((m : Int) == 0) = false := beq_eq_false_iff_ne.mpr (by omega)
        try simp! only [hm', hm2, Bool.not_false]
        refine hG _ ?_
        have e : ((n : Int) % (m : Int)) = ((n % m : Nat) : Int) := by omega
        rw [e]
        refine ih (n % m) m ?_ ?_
        · have := Nat.mod_lt n (show 0 < m by omega)
          omega
        · rw [← gcd_step]
          exact h
  rw [m__law_cut_eq]
  refine seq_hide fun G hG => ?_
  try simp! only [abs_nat, Int.natAbs_natCast]
  refine hG _ (seq_hide fun G hG => ?_)
  refine ⟨b + 1, go _ (hG _ ?_) b b a.natAbs (Nat.le_refl _) rfl⟩
  try simp! only [h1, decide_true]
  exact ⟨⟨by omega, by omega⟩, ⟨by omega, by omega⟩, by decide, fin⟩
--# law_plus
theorem w_law_plus {x y : Rat} (hd : x.den * y.den < 1073741824) (h : q (frD (x + y))) : m__law_plus [frD x, frD y] q qe := by
  have hx := Nat.pos_of_ne_zero x.den_nz
  have hy := Nat.pos_of_ne_zero y.den_nz
  have hx1 : x.den ≤ x.den * y.den := Nat.le_mul_of_pos_right _ hy
  have hy1 : y.den ≤ x.den * y.den := Nat.le_mul_of_pos_left _ hx
  try simp! only [m__law_plus_eq, f__law_plus, frD, atI_0, atI_1]
  refine ⟨.inr (by omega), .inr (by omega), .inr (by omega), ?_⟩
  rw [show ((x.den : Int) * (y.den : Int)) = ((x.den * y.den : Nat) : Int) from by push_cast; rfl]
  refine w_law_cut (Nat.mul_pos hx hy) hd ?_
  rw [rat_add]
  exact h
--# law_minus
theorem w_law_minus {x y : Rat} (hd : x.den * y.den < 1073741824) (h : q (frD (x - y))) : m__law_minus [frD x, frD y] q qe := by
  have hx := Nat.pos_of_ne_zero x.den_nz
  have hy := Nat.pos_of_ne_zero y.den_nz
  have hx1 : x.den ≤ x.den * y.den := Nat.le_mul_of_pos_right _ hy
  have hy1 : y.den ≤ x.den * y.den := Nat.le_mul_of_pos_left _ hx
  try simp! only [m__law_minus_eq, f__law_minus, frD, atI_0, atI_1]
  refine ⟨.inr (by omega), .inr (by omega), .inr (by omega), ?_⟩
  rw [show ((x.den : Int) * (y.den : Int)) = ((x.den * y.den : Nat) : Int) from by push_cast; rfl]
  refine w_law_cut (Nat.mul_pos hx hy) hd ?_
  rw [rat_sub]
  exact h
--# law_total
theorem w_law_total {xs : List Rat} {N : Nat} (hN : 0 < N) (hd : ∀ x ∈ xs, Dv N x) (hN2 : N * N < 1073741824) (h : q (frD xs.sum)) {c : List D → D} (hc : c = D.lst ∨ c = D.tup) : m__law_total [c (xs.map frD)] q qe := by
  have go : sFor (fSeq (eVar 0)) (gdName 2) (sAsg (eCall m__law_plus (aCons (eVar 1) (aCons (eVar 2) aNil))) (gdName 1)) [.sh (c (xs.map frD)), .sh (.tup [.int 0, .int 1]), .no] ⟨fun ρ => sRet (eVar 1) ρ ⟨fun _ => q .non, fun _ => q, fun _ => False, fun _ => False⟩ qe, fun _ => q, fun _ => False, fun _ => False⟩ qe := by
    have e : ∀ k : List D → Prop, (fSeq (eVar 0)) [.sh (c (xs.map frD)), .sh (.tup [.int 0, .int 1]), .no] k qe = k (xs.map frD) := by
      intro k
      rcases hc with rfl | rfl <;> rfl
    show (fSeq (eVar 0)) _ _ qe
    rw [e]
    refine for_inv (fun k ρ => ∃ u, ρ = [.sh (c (xs.map frD)), .sh (frD ((xs.take k).sum)), u]) ⟨_, rfl⟩ (fun k y ρ nx hy hs hk => ?_) (fun ρ hs => ?_)
    · obtain ⟨u, rfl⟩ := hs
      have h1 : Dv N ((xs.take k).sum) := Dv.sum (fun x hx => hd x (List.mem_of_mem_take hx)) hN
      have h2 := hd y (List.mem_of_getElem? hy)
      have h3 := h1.den hN
      have h4 := h2.den hN
      have h5 := Nat.mul_le_mul h3 h4
      try simp! only [↓reduceIte]
      refine w_law_plus (by omega) ?_
      refine hk _ ⟨.sh (frD y), ?_⟩
      rw [List.take_add_one, hy, List.sum_append]
      simp only [Option.toList_some, List.sum_cons, List.sum_nil, Rat.add_zero]
    · obtain ⟨u, rfl⟩ := hs
      rw [List.take_length]
      try simp! only [↓reduceIte]
      exact h
  try simp! only [m__law_total_eq, f__law_total]
  refine ⟨by decide, ?_⟩
  exact go
--# bid_words
def col (R : List (List Int)) (j : Nat) : List Int := R.map fun r => r.getD j 0
def win (xs : List Int) : Nat := xs.idxOf (maxI xs)
def oth (xs : List Int) (i : Nat) : Int := maxI ([0] ++ xs.take i ++ xs.drop (i + 1))
theorem col_len (j : Nat) : (col R j).length = R.length := List.length_map ..
theorem col_D (R : List (List Int)) (j : Nat) : (R.map fun r => D.int (r.getD j 0)) = (col R j).map D.int := by unfold col; rw [List.map_map]; rfl
theorem ints_col (xs : List Int) : D.ints (xs.map D.int) = some xs := by
  have := ints_mapF (fun x : Int => x) xs
  rw [List.map_id''] at this
  · exact this
  · intro x; rfl
theorem max_mem {xs : List Int} (h : xs ≠ []) : maxI xs ∈ xs := by
  cases xs with
  | nil => exact absurd rfl h
  | cons x xs => exact foldl_max_mem xs x
theorem win_lt {xs : List Int} (h : xs ≠ []) : win xs < xs.length := List.idxOf_lt_length_of_mem (max_mem h)
theorem cast_succ (n : Nat) : ((n : Int) + 1) = ((n + 1 : Nat) : Int) := by omega
theorem cut_col (xs : List Int) (n : Nat) : cutD (xs.map D.int) none (some (n : Int)) = (xs.take n).map D.int := by rw [cutD_to, List.map_take]
theorem cut_col2 (xs : List Int) (n : Nat) : cutD (xs.map D.int) (some ((n : Int) + 1)) none = (xs.drop (n + 1)).map D.int := by rw [cast_succ, cutD_from, List.map_drop]
theorem oth_D (xs : List Int) (i : Nat) : D.int 0 :: ((xs.take i).map D.int ++ (xs.drop (i + 1)).map D.int) = ([0] ++ xs.take i ++ xs.drop (i + 1)).map D.int := by simp
theorem oth_run (xs : List Int) (i : Nat) (hl : xs.length ≤ 1000) {k : D → Prop} (h : k (.int (oth xs i))) :
    1 ≤ sizeLine ∧ 1 + (List.take i xs).length ≤ sizeLine ∧ (List.take i xs).length + 1 + (List.drop (i + 1) xs).length ≤ sizeLine ∧
      dMaxV [D.lst (D.int 0 :: (List.map D.int (List.take i xs) ++ List.map D.int (List.drop (i + 1) xs)))] k := by
  have h1 : (List.take i xs).length ≤ xs.length := List.length_take_le' ..
  have h2 : (List.drop (i + 1) xs).length ≤ xs.length := by rw [List.length_drop]; omega
  refine ⟨by decide, small (by omega), small (by omega), ?_⟩
  rw [oth_D, dMaxV_l]
  exact ⟨by simp, h⟩
--# rooms
theorem w_check_rooms (h : q .non) : m_check_rooms [tab p p R] q qe := by
  try simp! only [m_check_rooms_eq, f_check_rooms]
  exact h
--# prm
def nxP (p : Nat) (row : List Nat) : List (List Nat) := ((List.range p).filter fun x => !(row.any fun y => y == x)).map fun x => row ++ [x]
def prm (p : Nat) : Nat → List (List Nat)
  | 0 => [[]]
  | k + 1 => (prm p k).flatMap (nxP p)
theorem prm_len {k : Nat} (hp : p ≤ 4) (hk : k ≤ 4) : (prm p k).length ≤ 30 := by
  have := List.all_eq_true.mp (List.all_eq_true.mp (by decide +kernel : (List.range 5).all (fun p => (List.range 5).all fun k => decide ((prm p k).length ≤ 30)) = true) p (List.mem_range.mpr (by omega))) k (List.mem_range.mpr (by omega))
  exact of_decide_eq_true this
theorem prm_deal : ∀ {k : Nat} {d : List Nat}, d ∈ prm p k → Deal p k d := by
  intro k
  induction k with
  | zero =>
    intro d h
    have : d = [] := List.mem_singleton.mp h
    subst this
    exact ⟨rfl, fun _ h => by cases h⟩
  | succ k ih =>
    intro d h
    obtain ⟨r, hr, hd⟩ := List.mem_flatMap.mp (show d ∈ (prm p k).flatMap (nxP p) from h)
    obtain ⟨x, hx, rfl⟩ := List.mem_map.mp hd
    have h := ih hr
    refine ⟨by rw [List.length_append, h.len]; rfl, fun y hy => ?_⟩
    rcases List.mem_append.mp hy with z | z
    · exact h.lt y z
    · rw [List.mem_singleton.mp z]; exact List.mem_range.mp (List.mem_filter.mp hx).1
theorem nxP_len (row : List Nat) : (nxP p row).length ≤ p := by
  unfold nxP
  rw [List.length_map]
  exact Nat.le_trans (List.length_filter_le ..) (by rw [List.length_range]; exact Nat.le_refl _)
theorem prm_step {k i : Nat} {row : List Nat} (hy : (prm p k)[i]? = some row) : (((prm p k).take (i + 1)).flatMap (nxP p)) = (((prm p k).take i).flatMap (nxP p)) ++ nxP p row := by
  rw [List.take_succ, hy, List.flatMap_append]
  simp
theorem flat_lenP {α β : Type} {f : α → List β} {n : Nat} : ∀ {xs : List α}, (∀ x ∈ xs, (f x).length ≤ n) → (xs.flatMap f).length ≤ n * xs.length
  | [], _ => by simp
  | x :: xs, h => by
    have h1 := flat_lenP (xs := xs) fun y hy => h y (List.mem_cons_of_mem _ hy)
    have h2 := h x (List.mem_cons_self ..)
    rw [List.flatMap_cons, List.length_append, List.length_cons, Nat.mul_succ]
    omega
theorem prmT_len {k i : Nat} (hp : p ≤ 4) (hk : k ≤ 4) : (((prm p k).take i).flatMap (nxP p)).length ≤ 4 * 30 := by
  have := flat_lenP (f := nxP p) (n := p) (xs := (prm p k).take i) fun r _ => nxP_len r
  have h2 : ((prm p k).take i).length ≤ (prm p k).length := List.length_take_le' ..
  have h3 := prm_len (p := p) (k := k) hp hk
  exact Nat.le_trans this (Nat.mul_le_mul hp (by omega))
theorem snoc_natsP (l : List Nat) (x : Nat) : D.tup (l.map natI ++ [.int (x : Int)]) = nats (l ++ [x]) := by
  rw [nats, List.map_append]
  rfl
theorem nxP_D (row : List Nat) : (((List.range p).filter fun x => !(row.any fun y => y == x)).map fun x => D.tup (row.map natI ++ [.int ((x : Nat) : Int)])) = (nxP p row).map nats := by
  unfold nxP
  rw [List.map_map]
  exact List.map_congr_left fun x _ => snoc_natsP row x
--# dealings
theorem w_dealings (T : Tab p p R) (hp : p ≤ 4) (h : q (.lst ((prm p p).map nats))) : m_dealings [tab p p R] q qe := by
  rw [m_dealings_eq]
  refine seq_hide fun G hG => ?_
  try simp! only [↓reduceIte]
  refine w_check_rooms (p := p) (R := R) ?_
  refine hG _ (seq_hide fun G hG => ?_)
  try simp! only [↓reduceIte]
  refine ⟨by decide, by decide, hG _ (seq_hide fun G hG => ?_)⟩
  try simp! only [rgD_0]
  refine ⟨rgB_small (by omega), for_rng (fun k ρ => ∃ u2 u3 u4 u5, ρ = [.sh (tab p p R), .sh (.lst ((prm p k).map nats)), u2, u3, u4, u5]) ⟨_, _, _, _, rfl⟩ (fun k ρ nx hk hs hn => ?_) (fun ρ hs => ?_)⟩
  · obtain ⟨u2, u3, u4, u5, rfl⟩ := hs
    have hl := prm_len (p := p) (k := k) hp (by omega)
    try simp! only [↓reduceIte]
    refine ⟨by decide, for_inv (fun i ρ => ∃ L u4 u5, L = (((prm p k).take i).flatMap (nxP p)).map nats ∧ ρ = [.sh (tab p p R), .sh (.lst ((prm p k).map nats)), .sh (.int k), .ol L, u4, u5]) ⟨_, _, _, rfl, rfl⟩ (fun i row ρ nx2 hy hs2 hn2 => ?_) (fun ρ hs2 => ?_)⟩
    · obtain ⟨L, u4, u5, rfl, rfl⟩ := hs2
      have hd := prm_deal (List.mem_of_getElem? hy)
      have hb := prmT_len (p := p) (k := k) (i := i) hp (by omega)
      have hstep := prm_step hy
      have hn1 := nxP_len (p := p) row
      try simp! only [rgD_0, List.length_range]
      refine ⟨rgB_small (by omega), small (by omega), lc_filter (fun x : Nat => !(row.any fun y => y == x)) (fun x : Nat => D.tup (row.map natI ++ [.int ((x : Nat) : Int)])) (fun x hx kk k' h1 h2 => ?_) ?_⟩
      · try simp! only [↓reduceIte]
        have e := dIn_tnat true x row
        rw [show (D.int (x : Int)) = natI x from rfl, show nats row = D.tup (row.map natI) from rfl, e]
        try simp! only [↓reduceIte]
        cases hc : (row.any fun y => y == x) with
        | true => exact h2 (by rw [hc]; rfl)
        | false => exact ⟨by decide, small (by rw [hd.len]; omega), h1 (by rw [hc]; rfl)⟩
      · rw [nxP_D]
        try simp! only [↓reduceIte]
        refine ⟨small (by omega), hn2 _ ⟨_, _, _, ?_, rfl⟩⟩
        rw [hstep, List.map_append]
    · obtain ⟨L, u4, u5, rfl, rfl⟩ := hs2
      rw [List.take_length]
      try simp! only [↓reduceIte]
      exact hn _ ⟨_, _, _, _, rfl⟩
  · obtain ⟨u2, u3, u4, u5, rfl⟩ := hs
    refine hG _ ?_
    try simp! only [↓reduceIte]
    exact h
--# sum_of
def roomS (R : List (List Int)) (p : Nat) (d : List Nat) : Int := ((List.range p).map fun i => W R i (d.getD i 0)).sum
theorem enum_deal {d : List Nat} (hd : Deal p t d) : enumD 0 (d.map natI) = (List.range t).map fun i => D.tup [.int (i : Nat), .int (d.getD i 0 : Nat)] := by
  have e : d.map natI = (List.range t).map fun i => D.int ((d.getD i 0 : Nat) : Int) := by
    refine List.ext_getElem (by rw [List.length_map, List.length_map, List.length_range, hd.len]) fun j h1 h2 => ?_
    have hj : j < d.length := by rw [List.length_map] at h1; exact h1
    rw [List.getElem_map, List.getElem_map, List.getElem_range, List.getD_eq_getElem?_getD, List.getElem?_eq_getElem hj]
    rfl
  rw [e]
  exact enum_range (fun i : Nat => D.int ((d.getD i 0 : Nat) : Int)) id t
theorem Wat (T : Tab p t R) {i j : Nat} (hi : i < p) (hj : j < t) : ((R.getD i []).map D.int)[j]? = some (.int (W R i j)) := by
  rw [cell_get (by rw [T.cols _ (row_mem T hi)]; exact hj)]
  rfl
theorem dlt {d : List Nat} (hd : Deal p t d) {i : Nat} (hi : i < t) : d.getD i 0 < p := by
  have hl : i < d.length := by rw [hd.len]; exact hi
  rw [List.getD_eq_getElem?_getD, List.getElem?_eq_getElem hl]
  exact hd.lt _ (List.getElem_mem hl)
theorem w_sum_of (T : Tab p p R) {d : List Nat} (hd : Deal p p d) (h : q (.int (roomS R p d))) : m_sum_of [tab p p R, nats d] q qe := by
  have h5 := T.p5
  try simp! only [m_sum_of_eq, f_sum_of]
  rw [show nats d = D.tup (d.map natI) from rfl]
  try simp! only [enum_deal hd]
  refine ⟨small (by rw [List.length_range]; omega), lc_map (fun i => .int (W R i (d.getD i 0))) (fun i hi k hk => ?_) ?_⟩
  · have hi := List.mem_range.mp hi
    try simp! only [row_get T hi, Wat T hi (dlt hd hi)]
    exact hk
  try simp! only [ints_mapF]
  exact h
--# best_dealing
def bst (f : List Nat → Int) (L : List (List Nat)) : Option (List Nat) := L.foldl (fun b row => match b with
  | none => some row
  | some c => if f row > f c then some row else some c) none
def bstD (f : List Nat → Int) : Option (List Nat) → D
  | none => .non
  | some c => .tup [.int (f c), nats c]
theorem bst_snoc (f : List Nat → Int) (L : List (List Nat)) (row : List Nat) : bst f (L ++ [row]) = match bst f L with
  | none => some row
  | some c => if f row > f c then some row else some c := by
  unfold bst
  rw [List.foldl_append]
  rfl
theorem bst_of (f : List Nat → Int) : ∀ {L : List (List Nat)}, L ≠ [] → ∃ c, bst f L = some c ∧ c ∈ L ∧ ∀ r ∈ L, f r ≤ f c := by
  intro L
  suffices h : ∀ (A : List (List Nat)), A.reverse = A.reverse → A ≠ [] → ∃ c, bst f A.reverse = some c ∧ c ∈ A.reverse ∧ ∀ r ∈ A.reverse, f r ≤ f c by
    intro hL
    have := h L.reverse rfl (by simpa using hL)
    rw [List.reverse_reverse] at this
    exact this
  intro A _
  induction A with
  | nil => intro h; exact absurd rfl h
  | cons a A ih =>
    intro _
    rw [List.reverse_cons, bst_snoc]
    by_cases hA : A = []
    · subst hA
      exact ⟨a, rfl, by simp, fun r hr => by simp at hr; rw [hr]; exact Int.le_refl _⟩
    · obtain ⟨c, e, hc, hm⟩ := ih rfl hA
      rw [e]
      by_cases hf : f a > f c
      · refine ⟨a, by rw [show (match some c with
          | none => some a
          | some c => if f a > f c then some a else some c) = (if f a > f c then some a else some c) from rfl, if_pos hf], by simp, fun r hr => ?_⟩
        rcases List.mem_append.mp hr with z | z
        · have := hm r z
          omega
        · rw [List.mem_singleton.mp z]; exact Int.le_refl _
      · refine ⟨c, by rw [show (match some c with
          | none => some a
          | some c => if f a > f c then some a else some c) = (if f a > f c then some a else some c) from rfl, if_neg hf], List.mem_append_left _ hc, fun r hr => ?_⟩
        rcases List.mem_append.mp hr with z | z
        · exact hm r z
        · rw [List.mem_singleton.mp z]; omega
theorem w_best_dealing (T : Tab p p R) (hp : p ≤ 4) (h : q (bstD (roomS R p) (bst (roomS R p) (prm p p)))) : m_best_dealing [tab p p R] q qe := by
  rw [m_best_dealing_eq]
  refine seq_hide fun G hG => ?_
  try simp! only [↓reduceIte]
  refine hG _ (seq_hide fun G hG => ?_)
  try simp! only [↓reduceIte]
  refine w_dealings T hp ?_
  refine for_inv (fun k ρ => ∃ u2 u3, ρ = [.sh (tab p p R), .sh (bstD (roomS R p) (bst (roomS R p) ((prm p p).take k))), u2, u3]) ⟨_, _, rfl⟩ (fun k row ρ nx hy hs hn => ?_) (fun ρ hs => ?_)
  · obtain ⟨u2, u3, rfl⟩ := hs
    have hd := prm_deal (List.mem_of_getElem? hy)
    have et : (prm p p).take (k + 1) = (prm p p).take k ++ [row] := by rw [List.take_succ, hy]; rfl
    rw [et, bst_snoc] at hn
    try simp! only [↓reduceIte]
    refine w_sum_of T hd ?_
    cases e : bst (roomS R p) ((prm p p).take k) with
    | none =>
      rw [e] at hn
      try simp! only [bstD, dIs]
      exact ⟨by decide, hn _ ⟨_, _, rfl⟩⟩
    | some c =>
      rw [e] at hn
      try simp! only [bstD, dIs, atI_0]
      by_cases hf : roomS R p row > roomS R p c
      · rw [if_pos (c := decide (roomS R p c < roomS R p row) = true) (decide_eq_true hf)]
        refine ⟨by decide, hn _ ⟨.sh (nats row), .sh (.int (roomS R p row)), ?_⟩⟩
        rw [show (match some c with
          | none => some row
          | some c => if roomS R p row > roomS R p c then some row else some c) = (if roomS R p row > roomS R p c then some row else some c) from rfl, if_pos hf]
        rfl
      · rw [if_neg (c := decide (roomS R p c < roomS R p row) = true) (by rw [decide_eq_true_eq]; exact hf)]
        refine hn _ ⟨.sh (nats row), .sh (.int (roomS R p row)), ?_⟩
        rw [show (match some c with
          | none => some row
          | some c => if roomS R p row > roomS R p c then some row else some c) = (if roomS R p row > roomS R p c then some row else some c) from rfl, if_neg hf]
        rfl
  · obtain ⟨u2, u3, rfl⟩ := hs
    rw [List.take_length]
    refine hG _ ?_
    try simp! only [↓reduceIte]
    exact h
--# is_dealing
theorem prm_sorted {d : List Nat} (hp : p ≤ 4) (hd : d ∈ prm p p) : (srtI (d.map fun n : Nat => (n : Int))).map D.int = (List.range p).map natI := by
  have hperm : d.isPerm (List.range p) = true := List.all_eq_true.mp (List.all_eq_true.mp (by decide +kernel : (List.range 5).all (fun p => (prm p p).all fun d => d.isPerm (List.range p)) = true) p (List.mem_range.mpr (by omega))) d hd
  have hP := List.isPerm_iff.mp hperm
  have e : srtI (d.map fun n : Nat => (n : Int)) = (List.range p).map fun n : Nat => (n : Int) := by
    refine (srtI_one (hP.symm.map _) ?_).symm
    rw [List.pairwise_map]
    exact List.Pairwise.imp (fun h => by omega) List.pairwise_lt_range
  rw [e, List.map_map]
  rfl
theorem w_is_dealing (T : Tab p p R) (hp : p ≤ 4) {d : List Nat} (hd : d ∈ prm p p) (h : q (.bl true)) : m_is_dealing [tab p p R, nats d] q qe := by
  have h9 := T.t9
  rw [m_is_dealing_eq]
  refine seq_hide fun G hG => ?_
  try simp! only [↓reduceIte]
  refine w_check_rooms (p := p) (R := R) ?_
  refine hG _ ?_
  try simp! only [↓reduceIte]
  refine w_is_deal h9 (prm_deal hd) ?_
  try simp! only [↓reduceIte]
  have e : (srtI (d.map Nat.cast)).map D.int = (List.range p).map natI := prm_sorted hp hd
  rw [e, rgD_0]
  refine ⟨rgOk_0 (by omega), ?_⟩
  exact dEq_same (EK.nat.lst.ok (by decide) _) h
--# lifts
def stp (R : List (List Int)) (d : List Nat) (x : Nat → Int) (i o : Nat) : Int := x (d.getD i 0) + (W R i o - W R i (d.getD i 0))
def acc (R : List (List Int)) (d : List Nat) (x : Nat → Int) : Nat → Nat → Int
  | 0, o => x o
  | i + 1, o => if stp R d x i o > acc R d x i o then stp R d x i o else acc R d x i o
def lv (R : List (List Int)) (p : Nat) (d : List Nat) : Nat → Nat → Int
  | 0 => fun _ => 0
  | k + 1 => acc R d (lv R p d k) p
theorem set_rng {α : Type} (f : Nat → α) {n k : Nat} (v : α) (hk : k < n) : ((List.range n).map f).set k v = (List.range n).map fun o => if o = k then v else f o := by
  refine List.ext_getElem (by rw [List.length_set, List.length_map, List.length_map]) fun j h1 h2 => ?_
  rw [List.getElem_set]
  simp only [List.getElem_map, List.getElem_range]
  by_cases e : k = j
  · rw [if_pos e, if_pos e.symm]
  · rw [if_neg e, if_neg (Ne.symm e)]
def intR (p : Nat) (f : Nat → Int) : List Int := (List.range p).map f
theorem intR_D (p : Nat) (f : Nat → Int) : ((List.range p).map fun o => D.int (f o)) = (intR p f).map D.int := by unfold intR; rw [List.map_map]; rfl
theorem w_lifts (T : Tab p p R) {d : List Nat} (hd : Deal p p d) (h1 : ∀ k, k ≤ p → intR p (lv R p d (k + 1)) = intR p (lv R p d k) → q (.tup ((intR p (lv R p d k)).map D.int))) (h2 : (∀ k, k ≤ p → intR p (lv R p d (k + 1)) ≠ intR p (lv R p d k)) → q .non) : m_lifts [tab p p R, nats d] q qe := by
  have h5 := T.p5
  rw [m_lifts_eq]
  refine seq_hide fun G hG => ?_
  try simp! only [↓reduceIte]
  refine hG _ (seq_hide fun G hG => ?_)
  try simp! only [↓reduceIte]
  have e0 : List.replicate p (D.int 0) = (intR p (lv R p d 0)).map D.int := by
    unfold intR
    have : ∀ n : Nat, List.replicate n (D.int 0) = ((List.range n).map (lv R p d 0)).map D.int := by
      intro n
      induction n with
      | zero => rfl
      | succ n ih =>
        rw [List.replicate_succ', ih, List.range_succ, List.map_append, List.map_append]
        rfl
    exact this p
  rw [e0]
  refine ⟨by decide, ⟨by omega, by omega, small (by omega)⟩, hG _ (seq_hide fun G hG => ?_)⟩
  try simp! only [↓reduceIte]
  rw [show ((p : Int) + 1) = ((p + 1 : Nat) : Int) from by omega, rgD_0]
  refine ⟨rgB_small (by omega), for_rng (fun k ρ => (∀ j, j < k → intR p (lv R p d (j + 1)) ≠ intR p (lv R p d j)) ∧ ∃ u4 u5 u6 u7 u8 u9, ρ = [.sh (tab p p R), .sh (nats d), .sh (.int p), .sh (.lst ((intR p (lv R p d k)).map D.int)), u4, u5, u6, u7, u8, u9]) ⟨fun j hj => by omega, _, _, _, _, _, _, rfl⟩ (fun k ρ nx hk hs hn => ?_) (fun ρ hs => ?_)⟩
  · obtain ⟨hne, u4, u5, u6, u7, u8, u9, rfl⟩ := hs
    refine seq_hide fun G2 hG2 => ?_
    try simp! only [↓reduceIte]
    refine hG2 _ (seq_hide fun G2 hG2 => ?_)
    try simp! only [↓reduceIte]
    rw [show nats d = D.tup (d.map natI) from rfl]
    try simp! only [enum_deal hd]
    refine for_rng (fun i ρ => ∃ u6 u7 u8 u9, ρ = [.sh (tab p p R), .sh (nats d), .sh (.int p), .sh (.lst ((intR p (lv R p d k)).map D.int)), .sh (.int k), .ol ((intR p (acc R d (lv R p d k) i)).map D.int), u6, u7, u8, u9]) ⟨_, _, _, _, rfl⟩ (fun i ρ nx2 hi hs2 hn2 => ?_) (fun ρ hs2 => ?_)
    · obtain ⟨u6, u7, u8, u9, rfl⟩ := hs2
      have di := dlt hd hi
      try simp! only [rgD_0]
      refine ⟨rgB_small (by omega), for_rng (fun o ρ => ∃ u8 u9, ρ = [.sh (tab p p R), .sh (nats d), .sh (.int p), .sh (.lst ((intR p (lv R p d k)).map D.int)), .sh (.int k), .ol ((intR p (fun o' => if o' < o then acc R d (lv R p d k) (i + 1) o' else acc R d (lv R p d k) i o')).map D.int), .sh (.int i), .sh (.int (d.getD i 0 : Nat)), u8, u9]) ⟨_, _, rfl⟩ (fun o ρ nx3 ho hs3 hn3 => ?_) (fun ρ hs3 => ?_)⟩
      · obtain ⟨u8, u9, rfl⟩ := hs3
        have v1 : ((intR p (lv R p d k)).map D.int)[d.getD i 0]? = some (.int (lv R p d k (d.getD i 0))) := by unfold intR; rw [List.map_map]; exact vrow_at di _
        have v2 : ((intR p (fun o' => if o' < o then acc R d (lv R p d k) (i + 1) o' else acc R d (lv R p d k) i o')).map D.int)[o]? = some (.int (acc R d (lv R p d k) i o)) := by
          unfold intR
          rw [List.map_map, vrow_at ho]
          show some (D.int (if o < o then _ else _)) = _
          rw [if_neg (by omega)]
        try simp! only [row_get T hi, Wat T hi di, Wat T hi ho, v1, v2, dMaxV_2]
        rw [ixN_nat _ _ (by unfold intR; simp only [List.length_map, List.length_range]; omega)]
        try simp! only [↓reduceIte]
        have e : ((intR p (fun o' => if o' < o then acc R d (lv R p d k) (i + 1) o' else acc R d (lv R p d k) i o')).map D.int).set o (D.int (acc R d (lv R p d k) (i + 1) o)) = (intR p (fun o' => if o' < o + 1 then acc R d (lv R p d k) (i + 1) o' else acc R d (lv R p d k) i o')).map D.int := by
          unfold intR
          rw [List.map_map, set_rng _ _ ho, List.map_map]
          refine List.map_congr_left fun o' _ => ?_
          simp only [Function.comp]
          by_cases e1 : o' = o
          · rw [if_pos e1, if_pos (by omega), e1]
          · rw [if_neg e1]
            by_cases e2 : o' < o
            · rw [if_pos e2, if_pos (by omega)]
            · rw [if_neg e2, if_neg (by omega)]
        rw [← e] at hn3
        exact hn3 _ ⟨_, _, rfl⟩
      · obtain ⟨u8, u9, rfl⟩ := hs3
        have e : intR p (fun o' => if o' < p then acc R d (lv R p d k) (i + 1) o' else acc R d (lv R p d k) i o') = intR p (acc R d (lv R p d k) (i + 1)) := by
          unfold intR
          exact List.map_congr_left fun o ho => by rw [if_pos (List.mem_range.mp ho)]
        rw [e]
        exact hn2 _ ⟨_, _, _, _, rfl⟩
    · obtain ⟨u6, u7, u8, u9, rfl⟩ := hs2
      refine hG2 _ (seq_hide fun G2 hG2 => ?_)
      rw [show intR p (acc R d (lv R p d k) p) = intR p (lv R p d (k + 1)) from rfl]
      try simp! only [↓reduceIte]
      rw [(EK.int.lst).dEq (intR p (lv R p d (k + 1))) (intR p (lv R p d k)) _ (by decide)]
      try simp! only [↓reduceIte]
      by_cases e : intR p (lv R p d (k + 1)) = intR p (lv R p d k)
      · rw [if_pos (by rw [e]; exact beq_self_eq_true _)]
        exact h1 k (by omega) e
      · rw [if_neg (by rw [beq_iff_eq]; exact e)]
        refine hG2 _ ?_
        try simp! only [↓reduceIte]
        refine hn _ ⟨fun j hj => ?_, _, _, _, _, _, _, rfl⟩
        by_cases ej : j = k
        · rw [ej]; exact e
        · exact hne j (by omega)
  · obtain ⟨hne, u4, u5, u6, u7, u8, u9, rfl⟩ := hs
    refine hG _ ?_
    try simp! only [↓reduceIte]
    exact h2 fun k hk => hne k (by omega)
end K80
namespace K80
open PySem L2 Fd
variable {p t : Nat} {R : List (List Int)} {q : D → Prop} {qe : QE}
--# best
theorem prm_pall : ∀ k, prm p k = pall p k
  | 0 => rfl
  | k + 1 => by
    show (prm p k).flatMap (nxP p) = (pall p k).flatMap (pnx p)
    rw [prm_pall k]
    rfl
def Best (R : List (List Int)) (p : Nat) (d : List Nat) : Prop := ∀ r ∈ prm p p, roomS R p r ≤ roomS R p d
def Rest (R : List (List Int)) (p : Nat) (d : List Nat) (y : Nat → Int) : Prop := ∀ i o, i < p → o < p → y (d.getD i 0) + (W R i o - W R i (d.getD i 0)) ≤ y o
theorem roomS_evC (d : List Nat) : roomS R p d = evC (W R) (cells p d) := by
  unfold roomS evC cells
  rw [List.map_map]
  rfl
theorem best_ways (hp : p ≤ 4) {d : List Nat} (hd : d ∈ prm p p) : Best R p d ↔ ∀ way ∈ wall p, wgain (W R) d way ≤ 0 := by
  have hd' : d ∈ pall p p := by rw [← prm_pall]; exact hd
  rw [← best_iff hp hd' (W R)]
  unfold Best
  rw [prm_pall]
  exact ⟨fun h r hr => by rw [← roomS_evC, ← roomS_evC]; exact h r hr, fun h r hr => by rw [roomS_evC, roomS_evC]; exact h r hr⟩
theorem wall_lt {way : List Nat} (h : way ∈ wall p) : ∀ i ∈ way, i < p := by
  have key : ∀ k (way : List Nat), way ∈ wlev p k → ∀ i ∈ way, i < p := by
    intro k
    induction k with
    | zero =>
      intro way h i hi
      obtain ⟨x, hx, rfl⟩ := List.mem_map.mp h
      rw [List.mem_singleton.mp hi]
      exact List.mem_range.mp hx
    | succ k ih =>
      intro way h i hi
      obtain ⟨r, hr, h2⟩ := List.mem_flatMap.mp (show way ∈ (wlev p k).flatMap (wnx p) from h)
      obtain ⟨x, hx, rfl⟩ := List.mem_map.mp h2
      rcases List.mem_append.mp hi with z | z
      · exact ih r hr i z
      · rw [List.mem_singleton.mp z]
        exact List.mem_range.mp (List.mem_filter.mp hx).1
  obtain ⟨k, _, hk⟩ := List.mem_flatMap.mp (show way ∈ (List.range p).flatMap fun k => wlev p k from h)
  exact key k way hk
theorem rest_best (hp : p ≤ 4) {d : List Nat} (hd : d ∈ prm p p) {y : Nat → Int} (h : Rest R p d y) : Best R p d := by
  refine (best_ways hp hd).mpr fun way hw => ?_
  rw [wgain_f]
  exact rest_gain (y := fun i => y (d.getD i 0)) (fun i j hi hj => h i (d.getD j 0) hi (dlt (prm_deal hd) hj)) (wall_lt hw)
theorem perm_at (hp : p ≤ 4) {d : List Nat} (hd : d ∈ prm p p) {o : Nat} (ho : o < p) : d.idxOf o < p ∧ d.getD (d.idxOf o) 0 = o := by
  have key : ((List.range 5).all fun p => (prm p p).all fun d => (List.range p).all fun o => decide (d.idxOf o < p) && d.getD (d.idxOf o) 0 == o) = true := by decide +kernel
  have h := List.all_eq_true.mp (List.all_eq_true.mp (List.all_eq_true.mp key p (List.mem_range.mpr (by omega))) d hd) o (List.mem_range.mpr ho)
  rw [Bool.and_eq_true] at h
  exact ⟨of_decide_eq_true h.1, beq_iff_eq.mp h.2⟩
--# lifts_best
theorem acc_bfa (x : Nat → Int) {d : List Nat} (j : Nat) : ∀ n, acc R d x n (d.getD j 0) = bfa (fgain (W R) d) (fun i => x (d.getD i 0)) n j
  | 0 => rfl
  | n + 1 => by
    show (if stp R d x n (d.getD j 0) > acc R d x n (d.getD j 0) then stp R d x n (d.getD j 0) else acc R d x n (d.getD j 0)) = (if x (d.getD n 0) + fgain (W R) d n j > bfa _ _ n j then _ else _)
    rw [acc_bfa x j n]
    rfl
theorem bfa_congr {f : Nat → Nat → Int} {x y : Nat → Int} {p j : Nat} (hj : j < p) (h : ∀ i, i < p → x i = y i) : ∀ n, n ≤ p → bfa f x n j = bfa f y n j
  | 0, _ => h j hj
  | n + 1, hn => by
    show (if x n + f n j > bfa f x n j then x n + f n j else bfa f x n j) = (if y n + f n j > bfa f y n j then y n + f n j else bfa f y n j)
    rw [bfa_congr hj h n (by omega), h n (by omega)]
theorem lv_bf {d : List Nat} : ∀ (k j : Nat), j < p → lv R p d k (d.getD j 0) = bf (fgain (W R) d) p k j
  | 0, j, hj => rfl
  | k + 1, j, hj => by
    show acc R d (lv R p d k) p (d.getD j 0) = bfa (fgain (W R) d) (bf (fgain (W R) d) p k) p j
    rw [acc_bfa]
    exact bfa_congr hj (fun i hi => lv_bf k i hi) p (Nat.le_refl _)
theorem acc_leL {x : Nat → Int} {d : List Nat} {o : Nat} {v : Int} : ∀ {n : Nat}, acc R d x n o ≤ v → x o ≤ v ∧ ∀ i, i < n → stp R d x i o ≤ v
  | 0, h => ⟨h, fun i hi => by omega⟩
  | n + 1, h => by
    have h : (if stp R d x n o > acc R d x n o then stp R d x n o else acc R d x n o) ≤ v := h
    have h1 : acc R d x n o ≤ v ∧ stp R d x n o ≤ v := by split at h <;> omega
    obtain ⟨a, b⟩ := acc_leL h1.1
    refine ⟨a, fun i hi => ?_⟩
    by_cases e : i = n
    · rw [e]; exact h1.2
    · exact b i (by omega)
theorem fix_rest {d : List Nat} {k : Nat} (e : intR p (lv R p d (k + 1)) = intR p (lv R p d k)) : Rest R p d (lv R p d k) := by
  intro i o hi ho
  have e1 : lv R p d (k + 1) o = lv R p d k o := by
    have := congrArg (fun L : List Int => L[o]?) e
    unfold intR at this
    simp only [List.getElem?_map, List.getElem?_range ho, Option.map_some, Option.some.injEq] at this
    exact this
  exact (acc_leL (x := lv R p d k) (n := p) (show acc R d (lv R p d k) p o ≤ lv R p d k o from by rw [← e1]; exact Int.le_refl _)).2 i hi
theorem best_fix (hp1 : 1 ≤ p) (hp : p ≤ 4) {d : List Nat} (hd : d ∈ prm p p) (h : Best R p d) : intR p (lv R p d (p - 1 + 1)) = intR p (lv R p d (p - 1)) := by
  unfold intR
  refine List.map_congr_left fun o ho => ?_
  obtain ⟨h1, h2⟩ := perm_at hp hd (List.mem_range.mp ho)
  rw [← h2, lv_bf _ _ h1, lv_bf _ _ h1]
  refine bf_rest (fun i => by unfold fgain; omega) hp1 hp (fun way hw => ?_) h1
  rw [← wgain_f]
  exact (best_ways hp hd).mp h way hw
theorem w_lifts_best (T : Tab p p R) (hp : p ≤ 4) {d : List Nat} (hd : d ∈ prm p p) (h1 : Best R p d → ∀ y, Rest R p d y → q (.tup ((intR p y).map D.int))) (h2 : ¬ Best R p d → q .non) : m_lifts [tab p p R, nats d] q qe := by
  refine w_lifts T (prm_deal hd) (fun k _ e => ?_) (fun hne => ?_)
  · have r := fix_rest e
    exact h1 (rest_best hp hd r) _ r
  · refine h2 fun hb => ?_
    exact hne (p - 1) (by omega) (best_fix T.p1 hp hd hb)
--# prices
theorem sumTI (r : List Int) (q : D → Prop) : dSumW [intT r] q = q (.int r.sum) := by simp only [dSumW, intT, ints_map]
theorem w_check_rent {x : Rat} (h : q .non) : m_check_rent [frD x] q qe := by
  try simp! only [m_check_rent_eq, f_check_rent]
  refine w_is_fraction ?_
  try simp! only [↓reduceIte]
  exact h
def shareR (p : Nat) (y : Nat → Int) (rent : Rat) : Rat := mkRat (rent.num - (intR p y).sum * (rent.den : Int)) (rent.den * p)
theorem w_prices (T : Tab p p R) (hp : p ≤ 4) {d : List Nat} (hd : d ∈ prm p p) {rent : Rat} (hr : rent.den ≤ 1000) (h1 : Best R p d → ∀ y, Rest R p d y → q (.tup ((List.range p).map fun o => frD ((y o : Rat) + shareR p y rent)))) (h2 : ¬ Best R p d → q .non) : m_prices [tab p p R, nats d, frD rent] q qe := by
  have h5 := T.p5
  have p1 := T.p1
  have d0 := Nat.pos_of_ne_zero rent.den_nz
  have dp : rent.den * p ≤ 1000 * 4 := Nat.mul_le_mul hr hp
  rw [m_prices_eq]
  refine seq_hide fun G hG => ?_
  try simp! only [↓reduceIte]
  refine w_check_rooms (p := p) (R := R) ?_
  refine hG _ (seq_hide fun G hG => ?_)
  try simp! only [↓reduceIte]
  refine w_check_rent ?_
  refine hG _ (seq_hide fun G hG => ?_)
  try simp! only [↓reduceIte]
  refine w_is_dealing T hp hd ?_
  try simp! only [↓reduceIte]
  refine hG _ (seq_hide fun G hG => ?_)
  try simp! only [↓reduceIte]
  refine w_lifts_best T hp hd (fun hb y hy => ?_) (fun hb => ?_)
  · refine hG _ (seq_hide fun G hG => ?_)
    try simp! only [dIs]
    refine hG _ (seq_hide fun G hG => ?_)
    try simp! only [frD, atI_0, atI_1]
    rw [show D.tup ((intR p y).map D.int) = intT (intR p y) from rfl, sumTI]
    try simp! only [↓reduceIte]
    refine ⟨.inr (by omega), .inl (by omega), ?_⟩
    rw [show ((rent.den : Int) * (p : Int)) = ((rent.den * p : Nat) : Int) from by push_cast; rfl]
    refine w_fraction (Nat.mul_pos d0 p1) (by omega) ?_
    refine hG _ ?_
    clear hG
    rw [show intT (intR p y) = D.tup ((List.range p).map fun o => D.int (y o)) from by unfold intR intT; rw [List.map_map]; rfl]
    try simp! only [↓reduceIte]
    refine ⟨small (by rw [List.length_range]; omega), lc_map (fun o => frD ((y o : Rat) + shareR p y rent)) (fun o ho k hk => ?_) ?_⟩
    · try simp! only [↓reduceIte]
      rw [frD_int]
      have := mk_dvd (N := rent.den * p) (rent.num - (intR p y).sum * (rent.den : Int)) (Nat.mul_pos d0 p1)
      exact ⟨by decide, w_plus (by show 1 * _ < _; omega) hk⟩
    exact h1 hb y hy
  · refine hG _ ?_
    try simp! only [dIs]
    exact h2 hb
--# calm_rents
theorem w_calm_rents (T : Tab p p R) (hp : p ≤ 4) {rent : Rat} (hr : rent.den ≤ 1000) (h : ∀ d, bst (roomS R p) (prm p p) = some d → d ∈ prm p p → Best R p d → ∀ y, Rest R p d y → q (.tup [nats d, .tup ((List.range p).map fun o => frD ((y o : Rat) + shareR p y rent))])) : m_calm_rents [tab p p R, frD rent] q qe := by
  have hn : prm p p ≠ [] := fun e => by
    have key : ((List.range 5).all fun p => !(prm p p).isEmpty) = true := by decide +kernel
    have := List.all_eq_true.mp key p (List.mem_range.mpr (by omega))
    rw [e] at this
    cases this
  obtain ⟨d, eb, hd, hm⟩ := bst_of (roomS R p) hn
  rw [m_calm_rents_eq]
  refine seq_hide fun G hG => ?_
  try simp! only [↓reduceIte]
  refine w_check_rooms (p := p) (R := R) ?_
  refine hG _ (seq_hide fun G hG => ?_)
  try simp! only [↓reduceIte]
  refine w_check_rent ?_
  refine hG _ (seq_hide fun G hG => ?_)
  try simp! only [↓reduceIte]
  refine w_best_dealing T hp ?_
  rw [eb]
  try simp! only [bstD, atI_1]
  refine hG _ ?_
  clear hG
  try simp! only [↓reduceIte]
  refine w_prices T hp hd hr (fun hb y hy => ?_) (fun hb => absurd hm hb)
  try simp! only [↓reduceIte]
  exact ⟨by decide, h d eb hd hb y hy⟩
--# left_for
theorem w_left_for (T : Tab p p R) (hp : p ≤ 4) {d : List Nat} (hd : Deal p p d) {P : Nat → Rat} {N : Nat} (hN : 0 < N) (hN2 : N < 1073741824) (hP : ∀ j, Dv N (P j)) (h : q (.tup ((List.range p).map fun i => frD (((W R i (d.getD i 0) : Int) : Rat) - P (d.getD i 0))))) : m_left_for [tab p p R, nats d, .tup ((List.range p).map fun j => frD (P j))] q qe := by
  have pv : ∀ j, j < p → ((List.range p).map fun j => frD (P j))[j]? = some (frD (P j)) := fun j hj => vrow_at hj _
  rw [m_left_for_eq]
  refine seq_hide fun G hG => ?_
  try simp! only [↓reduceIte]
  refine w_check_rooms (p := p) (R := R) ?_
  refine hG _ ?_
  clear hG
  try simp! only [↓reduceIte]
  rw [show nats d = D.tup (d.map natI) from rfl]
  try simp! only [enum_deal hd]
  refine ⟨small (by rw [List.length_range]; omega), lc_map (fun i => frD (((W R i (d.getD i 0) : Int) : Rat) - P (d.getD i 0))) (fun i hi k hk => ?_) h⟩
  have hi := List.mem_range.mp hi
  have di := dlt hd hi
  try simp! only [row_get T hi, Wat T hi di, pv _ di, frD_int]
  have := (hP (d.getD i 0)).den hN
  exact ⟨by decide, w_minus (by show 1 * _ < _; omega) hk⟩
--# come_to
theorem w_come_to {xs : List Rat} {rent : Rat} {N : Nat} (hn : xs ≠ []) (hN : 0 < N) (hd : ∀ x ∈ xs, Dv N x) (hN2 : N * N < 1073741824) (e : xs.sum = rent) (h : q (.bl true)) : m_come_to [.tup (xs.map frD), frD rent] q qe := by
  obtain ⟨x, xs', rfl⟩ : ∃ x xs', xs = x :: xs' := by
    cases xs with
    | nil => exact absurd rfl hn
    | cons x xs => exact ⟨x, xs, rfl⟩
  rw [m_come_to_eq]
  refine seq_hide fun G hG => ?_
  try simp! only [↓reduceIte]
  refine w_is_row rfl ?_
  try simp! only [↓reduceIte]
  refine hG _ ?_
  clear hG
  try simp! only [↓reduceIte]
  refine ⟨by decide, dNe_diff (EK.rat.lst.ok (by decide) (x :: xs')) (EK.rat.lst.ok (by decide) []) rfl ?_⟩
  try simp! only [↓reduceIte]
  refine w_total (c := D.lst) (xs := x :: xs') hN hd hN2 ?_ (.inl rfl)
  rw [e]
  exact dEq_same (EK.rat.ok (by decide) _) h
--# are_pays
theorem w_are_pays (T : Tab p t R) {P : Nat → Rat} {N : Nat} (hN : 0 < N) (hd : ∀ j, Dv N (P j)) (hN2 : N * N < 1073741824) (e : ((List.range p).map P).sum = 0) (h : q (.bl true)) : m_are_pays [tab p t R, .tup ((List.range p).map fun j => frD (P j))] q qe := by
  have h5 := T.p5
  rw [m_are_pays_eq]
  refine seq_hide fun G hG => ?_
  try simp! only [List.length_range]
  refine ⟨small (by omega), lc_map (fun _ => .bl true) (fun j hj k hk => ?_) ?_⟩
  · try simp! only [↓reduceIte]
    exact w_is_fraction hk
  rw [dAll_map (fun _ => true), List.all_eq_true.mpr (fun _ _ => rfl)]
  try simp! only [↓reduceIte]
  refine hG _ ?_
  clear hG
  try simp! only [↓reduceIte]
  rw [show ((List.range p).map fun j => frD (P j)) = ((List.range p).map P).map frD from by rw [List.map_map]; rfl]
  refine w_total (c := D.lst) hN (fun x hx => by
    obtain ⟨j, _, rfl⟩ := List.mem_map.mp hx
    exact hd j) hN2 ?_ (.inl rfl)
  rw [e, show (D.tup [D.int 0, D.int 1]) = frD 0 from rfl]
  exact dEq_same (EK.rat.ok (by decide) _) h
--# inv
def inv (p : Nat) (d : List Nat) : List Nat := (List.range p).map fun o => d.idxOf o
theorem inv_at (d : List Nat) {o : Nat} (ho : o < p) : (inv p d).getD o 0 = d.idxOf o := by
  unfold inv
  rw [List.getD_eq_getElem?_getD, List.getElem?_map, List.getElem?_range ho]
  rfl
theorem inv_deal (hp : p ≤ 4) {d : List Nat} (hd : d ∈ prm p p) : Deal p p (inv p d) := ⟨by unfold inv; rw [List.length_map, List.length_range], fun x hx => by
  obtain ⟨o, ho, rfl⟩ := List.mem_map.mp hx
  exact (perm_at hp hd (List.mem_range.mp ho)).1⟩
theorem inv_filt (hp : p ≤ 4) {d : List Nat} (hd : d ∈ prm p p) {i : Nat} (hi : i < p) : ((List.range p).filter fun o => (inv p d).getD o 0 == i) = [d.getD i 0] := by
  have key : ((List.range 5).all fun p => (prm p p).all fun d => (List.range p).all fun i => ((List.range p).filter fun o => (inv p d).getD o 0 == i) == [d.getD i 0]) = true := by decide +kernel
  exact beq_iff_eq.mp (List.all_eq_true.mp (List.all_eq_true.mp (List.all_eq_true.mp key p (List.mem_range.mpr (by omega))) d hd) i (List.mem_range.mpr hi))
--# lot_sum
theorem dSum1 (x : Int) (q : D → Prop) : dSum [.lst [.int x]] q = q (.int x) := by
  have := dSum_map (fun y : Int => y) [x] q
  simpa using this
theorem lot_sum (T : Tab p p R) (hp : p ≤ 4) {d : List Nat} (hd : d ∈ prm p p) {i k : Nat} (hi : i < p) (hk : k < p) {ρ : List En} {g : MG} {tt : MT} {te : ME} {c : List D → Prop}
    (hb : ∀ (o : Nat) (k1 : D → Prop) (k2 : Prop), o < p → ((inv p d).getD o 0 = i → k1 (.int (W R k o))) → ((inv p d).getD o 0 ≠ i → k2) → g (.tup [.int (o : Nat), .int ((inv p d).getD o 0 : Nat)]) ρ fun ρ1 => tt ρ1 (fun b => if b = true then te ρ1 k1 qe else k2) qe) (h : c [D.int (W R k (d.getD i 0))]) :
    lcL g tt te ρ (enumD 0 ((inv p d).map natI)) c qe := by
  rw [enum_deal (inv_deal hp hd)]
  refine lc_filter (fun o => (inv p d).getD o 0 == i) (fun o => .int (W R k o)) (fun o ho k1 k2 h1 h2 => hb o k1 k2 (List.mem_range.mp ho) (fun e => h1 (by rw [e]; exact beq_self_eq_true _)) (fun e => h2 (beq_eq_false_iff_ne.mpr e))) ?_
  rw [inv_filt hp hd hi]
  exact h
--# left_with
theorem w_left_with (T : Tab p p R) (hp : p ≤ 4) {d : List Nat} (hd : d ∈ prm p p) {P : Nat → Rat} {N : Nat} (hN : 0 < N) (hP : ∀ j, Dv N (P j)) (hN2 : N * N < 1073741824) (e : ((List.range p).map P).sum = 0) (h : q (.tup ((List.range p).map fun i => frD (((W R i (d.getD i 0) : Int) : Rat) - P i)))) : m_left_with [tab p p R, nats (inv p d), .tup ((List.range p).map fun j => frD (P j))] q qe := by
  have h9 := T.t9
  have D0 := prm_deal hd
  have DI := inv_deal hp hd
  have pv : ∀ j, j < p → ((List.range p).map fun j => frD (P j))[j]? = some (frD (P j)) := fun j hj => vrow_at hj _
  rw [m_left_with_eq]
  refine seq_hide fun G hG => ?_
  try simp! only [↓reduceIte]
  refine w_is_deal h9 DI ?_
  try simp! only [↓reduceIte]
  refine w_are_pays T hN hP hN2 e ?_
  try simp! only [↓reduceIte]
  refine hG _ (seq_hide fun G hG => ?_)
  try simp! only [↓reduceIte]
  refine ⟨by decide, hG _ (seq_hide fun G hG => ?_)⟩
  try simp! only [rgD_0]
  refine ⟨rgB_small (by omega), for_rng (fun k ρ => ∃ u4 u5 u6 u7, ρ = [.sh (tab p p R), .sh (nats (inv p d)), .sh (.tup ((List.range p).map fun j => frD (P j))), .ol ((List.range k).map fun i => frD (((W R i (d.getD i 0) : Int) : Rat) - P i)), u4, u5, u6, u7]) ⟨_, _, _, _, rfl⟩ (fun i ρ nx hi hs hn => ?_) (fun ρ hs => ?_)⟩
  · obtain ⟨u4, u5, u6, u7, rfl⟩ := hs
    rw [show nats (inv p d) = D.tup ((inv p d).map natI) from rfl]
    try simp! only [↓reduceIte]
    refine ⟨small (by rw [enum_deal DI, List.length_map, List.length_range]; omega), lot_sum T hp hd hi hi (fun o k1 k2 ho a1 a2 => ?_) ?_⟩
    · try simp! only [row_get T hi, Wat T hi ho, cast_beq]
      by_cases c : (inv p d).getD o 0 = i
      · rw [show ((inv p d).getD o 0 == i) = true from beq_iff_eq.mpr c]
        exact a1 c
      · rw [show ((inv p d).getD o 0 == i) = false from beq_eq_false_iff_ne.mpr c]
        exact a2 c
    rw [dSum1, pv _ hi]
    try simp! only [↓reduceIte]
    rw [frD_int]
    have := (hP i).den hN
    have hN3 : N ≤ N * N := Nat.le_mul_of_pos_left _ hN
    refine ⟨by decide, w_minus (by show 1 * _ < _; omega) ⟨smallL (by rw [List.length_range]; omega), ?_⟩⟩
    have es : ((List.range (i + 1)).map fun i => frD (((W R i (d.getD i 0) : Int) : Rat) - P i)) = ((List.range i).map fun i => frD (((W R i (d.getD i 0) : Int) : Rat) - P i)) ++ [frD (((W R i (d.getD i 0) : Int) : Rat) - P i)] := by
      rw [List.range_succ, List.map_append]
      rfl
    simp only [es] at hn
    exact hn _ ⟨_, _, _, _, rfl⟩
  · obtain ⟨u4, u5, u6, u7, rfl⟩ := hs
    refine hG _ ?_
    try simp! only [↓reduceIte]
    exact h
--# money_envy
theorem w_money_envy (T : Tab p p R) (hp : p ≤ 4) {d : List Nat} (hd : d ∈ prm p p) {P : Nat → Rat} {N : Nat} (hN : 0 < N) (hP : ∀ j, Dv N (P j)) (hN2 : N * N < 1073741824) (e : ((List.range p).map P).sum = 0)
    (hc : ∀ i o, i < p → o < p → ¬ (((W R i (d.getD i 0) : Int) : Rat) - P i < ((W R i (d.getD o 0) : Int) : Rat) - P o)) (h : q (.lst [])) : m_money_envy [tab p p R, nats (inv p d), .tup ((List.range p).map fun j => frD (P j))] q qe := by
  have h9 := T.t9
  have D0 := prm_deal hd
  have DI := inv_deal hp hd
  have hN3 : N ≤ N * N := Nat.le_mul_of_pos_left _ hN
  have pv : ∀ j, j < p → ((List.range p).map fun j => frD (P j))[j]? = some (frD (P j)) := fun j hj => vrow_at hj _
  have db : ∀ (w : Int) j, (((w : Int) : Rat) - P j).den < 1073741824 := fun w j => by
    have := ((Dv.int w hN).sub (hP j) hN).den hN
    omega
  rw [m_money_envy_eq]
  refine seq_hide fun G hG => ?_
  try simp! only [↓reduceIte]
  refine w_is_deal h9 DI ?_
  try simp! only [↓reduceIte]
  refine w_are_pays T hN hP hN2 e ?_
  try simp! only [↓reduceIte]
  refine hG _ (seq_hide fun G hG => ?_)
  try simp! only [↓reduceIte]
  refine ⟨by decide, hG _ (seq_hide fun G hG => ?_)⟩
  try simp! only [rgD_0]
  refine ⟨rgB_small (by omega), for_rng (fun k ρ => ∃ u4 u5 u6 u7 u8 u9, ρ = [.sh (tab p p R), .sh (nats (inv p d)), .sh (.tup ((List.range p).map fun j => frD (P j))), .ol [], u4, u5, u6, u7, u8, u9]) ⟨_, _, _, _, _, _, rfl⟩ (fun i ρ nx hi hs hn => ?_) (fun ρ hs => ?_)⟩
  · obtain ⟨u4, u5, u6, u7, u8, u9, rfl⟩ := hs
    refine seq_hide fun G2 hG2 => ?_
    try simp! only [↓reduceIte]
    refine ⟨by decide, hG2 _ (seq_hide fun G2 hG2 => ?_)⟩
    try simp! only [rgD_0]
    refine ⟨rgB_small (by omega), for_rng (fun k ρ => ∃ u6 u7 u8 u9, ρ = [.sh (tab p p R), .sh (nats (inv p d)), .sh (.tup ((List.range p).map fun j => frD (P j))), .ol [], .sh (.int i), .ol ((List.range k).map fun o => frD (((W R i (d.getD o 0) : Int) : Rat) - P o)), u6, u7, u8, u9]) ⟨_, _, _, _, rfl⟩ (fun o ρ nx2 ho hs2 hn2 => ?_) (fun ρ hs2 => ?_)⟩
    · obtain ⟨u6, u7, u8, u9, rfl⟩ := hs2
      rw [show nats (inv p d) = D.tup ((inv p d).map natI) from rfl]
      try simp! only [↓reduceIte]
      refine ⟨small (by rw [enum_deal DI, List.length_map, List.length_range]; omega), lot_sum T hp hd ho hi (fun z k1 k2 hz a1 a2 => ?_) ?_⟩
      · try simp! only [row_get T hi, Wat T hi hz, cast_beq]
        by_cases c : (inv p d).getD z 0 = o
        · rw [show ((inv p d).getD z 0 == o) = true from beq_iff_eq.mpr c]
          exact a1 c
        · rw [show ((inv p d).getD z 0 == o) = false from beq_eq_false_iff_ne.mpr c]
          exact a2 c
      rw [dSum1, pv _ ho]
      try simp! only [↓reduceIte]
      rw [frD_int]
      have := (hP o).den hN
      refine ⟨by decide, w_minus (by show 1 * _ < _; omega) ⟨smallL (by rw [List.length_range]; omega), ?_⟩⟩
      have es : ((List.range (o + 1)).map fun o => frD (((W R i (d.getD o 0) : Int) : Rat) - P o)) = ((List.range o).map fun o => frD (((W R i (d.getD o 0) : Int) : Rat) - P o)) ++ [frD (((W R i (d.getD o 0) : Int) : Rat) - P o)] := by
        rw [List.range_succ, List.map_append]
        rfl
      simp only [es] at hn2
      exact hn2 _ ⟨_, _, _, _, rfl⟩
    · obtain ⟨u6, u7, u8, u9, rfl⟩ := hs2
      refine hG2 _ ?_
      have rv : ∀ o, o < p → ((List.range p).map fun o => frD (((W R i (d.getD o 0) : Int) : Rat) - P o))[o]? = some (frD (((W R i (d.getD o 0) : Int) : Rat) - P o)) := fun o ho => vrow_at ho _
      try simp! only [rgD_0]
      refine ⟨rgB_small (by omega), small (by rw [List.length_range]; omega), lc_filter (fun _ => false) (fun o => .tup [.int (i : Nat), .int (o : Nat)]) (fun o ho k1 k2 h1 h2 => ?_) ?_⟩
      · have ho := List.mem_range.mp ho
        try simp! only [rv _ hi, rv _ ho]
        refine w_less (db _ _) (db _ _) ?_
        rw [decide_eq_false (hc i o hi ho)]
        try simp! only [↓reduceIte]
        exact h2 rfl
      rw [show (List.range p).filter (fun _ => false) = [] from List.filter_eq_nil_iff.mpr (fun _ _ => Bool.false_ne_true)]
      try simp! only [↓reduceIte]
      refine ⟨by decide, ?_⟩
      exact hn _ ⟨_, _, _, _, _, _, rfl⟩
  · obtain ⟨u4, u5, u6, u7, u8, u9, rfl⟩ := hs
    refine hG _ ?_
    try simp! only [↓reduceIte]
    exact h
--# calm_pays
theorem perm_iff (hp : p ≤ 4) {d : List Nat} (hd : d ∈ prm p p) {o j : Nat} (ho : o < p) (hj : j < p) : d.getD j 0 = o ↔ j = d.idxOf o := by
  have key : ((List.range 5).all fun p => (prm p p).all fun d => (List.range p).all fun o => (List.range p).all fun j => (d.getD j 0 == o) == (j == d.idxOf o)) = true := by decide +kernel
  have h := beq_iff_eq.mp (List.all_eq_true.mp (List.all_eq_true.mp (List.all_eq_true.mp (List.all_eq_true.mp key p (List.mem_range.mpr (by omega))) d hd) o (List.mem_range.mpr ho)) j (List.mem_range.mpr hj))
  rw [← beq_iff_eq, ← beq_iff_eq (a := j), h]
def wrow (R : List (List Int)) (p : Nat) (d : List Nat) (i : Nat) : List Int := intR p fun j => W R i (d.getD j 0)
theorem intR_at (f : Nat → Int) {j : Nat} (hj : j < p) : ((intR p f).map D.int)[j]? = some (.int (f j)) := by
  unfold intR
  rw [List.map_map]
  exact vrow_at hj _
theorem intR_set (f : Nat → Int) {j : Nat} (hj : j < p) (v : Int) : ((intR p f).map D.int).set j (D.int v) = (intR p fun i => if i = j then v else f i).map D.int := by
  unfold intR
  rw [List.map_map, set_rng _ _ hj, List.map_map]
  refine List.map_congr_left fun i _ => ?_
  simp only [Function.comp]
  by_cases e : i = j
  · rw [if_pos e, if_pos e]
  · rw [if_neg e, if_neg e]
theorem intR_len (f : Nat → Int) : ((intR p f).map D.int).length = p := by unfold intR; rw [List.length_map, List.length_map, List.length_range]
theorem intR_len2 (f : Nat → Int) : (intR p f).length = p := by unfold intR; rw [List.length_map, List.length_range]
theorem intR_cg {f g : Nat → Int} (h : ∀ i, i < p → f i = g i) : intR p f = intR p g := by
  unfold intR
  exact List.map_congr_left fun i hi => h i (List.mem_range.mp hi)
theorem intR_eq {f g : Nat → Int} (e : intR p f = intR p g) {o : Nat} (ho : o < p) : f o = g o := by
  have := congrArg (fun L : List Int => L[o]?) e
  unfold intR at this
  simp only [List.getElem?_map, List.getElem?_range ho, Option.map_some, Option.some.injEq] at this
  exact this
theorem zeros (p : Nat) : List.replicate p (D.int 0) = (intR p fun _ => 0).map D.int := by
  unfold intR
  rw [List.map_map]
  refine List.ext_getElem (by simp) fun j h1 h2 => ?_
  simp
theorem dSumI (xs : List Int) (q : D → Prop) : dSum [.lst (xs.map D.int)] q = q (.int xs.sum) := by simp only [dSum, ints_map]
theorem w_calm_pays (T : Tab p p R) (hp : p ≤ 4) {d : List Nat} (hd : d ∈ prm p p) (h1 : Best R p d → ∀ ds, q (.tup ds)) (h2 : ¬ Best R p d → q .non) : m_calm_pays [tab p p R, nats (inv p d)] q qe := by
  have h9 := T.t9
  have p1 := T.p1
  have D0 := prm_deal hd
  have DI := inv_deal hp hd
  rw [m_calm_pays_eq]
  refine seq_hide fun G hG => ?_
  try simp! only [↓reduceIte]
  refine w_is_deal h9 DI ?_
  try simp! only [↓reduceIte]
  refine hG _ (seq_hide fun G hG => ?_)
  try simp! only [↓reduceIte]
  refine ⟨by decide, hG _ (seq_hide fun G hG => ?_)⟩
  try simp! only [rgD_0]
  refine ⟨rgB_small (by omega), for_rng (fun k ρ => ∃ u3 u4 u5 u6, ρ = [.sh (tab p p R), .sh (nats (inv p d)), .ol ((List.range k).map fun i => .lst ((wrow R p d i).map D.int)), u3, u4, u5, u6, .no, .no, .no, .no, .no]) ⟨_, _, _, _, rfl⟩ (fun i ρ nx hi hs hn => ?_) (fun ρ hs => ?_)⟩
  · obtain ⟨u3, u4, u5, u6, rfl⟩ := hs
    refine seq_hide fun G2 hG2 => ?_
    try simp! only [↓reduceIte]
    rw [zeros]
    refine ⟨by decide, ⟨by omega, by omega, small (by omega)⟩, hG2 _ (seq_hide fun G2 hG2 => ?_)⟩
    rw [show nats (inv p d) = D.tup ((inv p d).map natI) from rfl]
    try simp! only [enum_deal DI]
    rw [show (fun _ : Nat => (0 : Int)) = fun j => if d.getD j 0 < 0 then W R i (d.getD j 0) else 0 from by funext j; rw [if_neg (by omega)]]
    refine for_rng (fun o ρ => ∃ u5 u6, ρ = [.sh (tab p p R), .sh (nats (inv p d)), .ol ((List.range i).map fun i => .lst ((wrow R p d i).map D.int)), .sh (.int i), .ol ((intR p fun j => if d.getD j 0 < o then W R i (d.getD j 0) else 0).map D.int), u5, u6, .no, .no, .no, .no, .no]) ⟨_, _, rfl⟩ (fun o ρ nx2 ho hs2 hn2 => ?_) (fun ρ hs2 => ?_)
    · obtain ⟨u5, u6, rfl⟩ := hs2
      obtain ⟨q1, q2⟩ := perm_at hp hd ho
      have ia : (inv p d).getD o 0 = d.idxOf o := inv_at d ho
      rw [ia]
      have v1 : atI ((intR p fun j => if d.getD j 0 < o then W R i (d.getD j 0) else 0).map D.int) ((d.idxOf o : Nat) : Int) = some (.int 0) := by
        rw [atI_n, intR_at _ q1, q2, if_neg (by omega)]
      try simp! only [v1, row_get T hi, Wat T hi ho]
      rw [ixN_nat _ _ (by rw [intR_len2]; exact q1)]
      try simp! only [↓reduceIte]
      have e : ((intR p fun j => if d.getD j 0 < o then W R i (d.getD j 0) else 0).map D.int).set (d.idxOf o) (D.int (0 + W R i o)) = (intR p fun j => if d.getD j 0 < o + 1 then W R i (d.getD j 0) else 0).map D.int := by
        rw [intR_set _ q1]
        congr 1
        refine intR_cg fun j hj => ?_
        by_cases c : j = d.idxOf o
        · rw [if_pos c, c, q2, if_pos (by omega), Int.zero_add]
        · have c2 : d.getD j 0 ≠ o := fun z => c ((perm_iff hp hd ho hj).mp z)
          rw [if_neg c]
          by_cases c3 : d.getD j 0 < o
          · rw [if_pos c3, if_pos (by omega)]
          · rw [if_neg c3, if_neg (by omega)]
      rw [← e] at hn2
      exact hn2 _ ⟨_, _, rfl⟩
    · obtain ⟨u5, u6, rfl⟩ := hs2
      refine hG2 _ ?_
      have e : (intR p fun j => if d.getD j 0 < p then W R i (d.getD j 0) else 0) = wrow R p d i := intR_cg fun j hj => by rw [if_pos (dlt D0 hj)]
      rw [e]
      try simp! only [↓reduceIte]
      have es : ((List.range (i + 1)).map fun i => D.lst ((wrow R p d i).map D.int)) = ((List.range i).map fun i => D.lst ((wrow R p d i).map D.int)) ++ [D.lst ((wrow R p d i).map D.int)] := by
        rw [List.range_succ, List.map_append]
        rfl
      simp only [es] at hn
      refine ⟨smallL (by simp only [List.length_map, List.length_range]; omega), hn _ ⟨_, _, _, _, rfl⟩⟩
  · obtain ⟨u3, u4, u5, u6, rfl⟩ := hs
    refine hG _ (seq_hide fun G hG => ?_)
    try simp! only [↓reduceIte]
    rw [zeros]
    refine ⟨by decide, ⟨by omega, by omega, small (by omega)⟩, hG _ (seq_hide fun G hG => ?_)⟩
    try simp! only [↓reduceIte]
    rw [show ((p : Int) + 1) = ((p + 1 : Nat) : Int) from by omega, rgD_0]
    have hf0 : ∀ i, fgain (W R) d i i = 0 := fun i => by unfold fgain; omega
    have fixB : ∀ k, intR p (bf (fgain (W R) d) p (k + 1)) = intR p (bf (fgain (W R) d) p k) → Best R p d := fun k e => by
      refine (best_ways hp hd).mpr fun way hw => ?_
      rw [wgain_f]
      refine rest_gain (y := bf (fgain (W R) d) p k) (fun i j hi hj => ?_) (wall_lt hw)
      have := bfa_st (f := fgain (W R) d) (x := bf (fgain (W R) d) p k) (j := j) hi
      have e2 : bfa (fgain (W R) d) (bf (fgain (W R) d) p k) p j = bf (fgain (W R) d) p k j := intR_eq e hj
      omega
    refine ⟨rgB_small (by omega), for_rng (fun k ρ => (∀ j, j < k → intR p (bf (fgain (W R) d) p (j + 1)) ≠ intR p (bf (fgain (W R) d) p j)) ∧ ∃ u3 u4 u5 u6 u8 u9 u10 u11, ρ = [.sh (tab p p R), .sh (nats (inv p d)), .ol ((List.range p).map fun i => .lst ((wrow R p d i).map D.int)), u3, u4, u5, u6, .sh (.lst ((intR p (bf (fgain (W R) d) p k)).map D.int)), u8, u9, u10, u11]) ⟨fun j hj => by omega, _, _, _, _, _, _, _, _, rfl⟩ (fun k ρ nx hk hs hn => ?_) (fun ρ hs => ?_)⟩
    · obtain ⟨hne, u3, u4, u5, u6, u8, u9, u10, u11, rfl⟩ := hs
      refine seq_hide fun G2 hG2 => ?_
      try simp! only [↓reduceIte]
      refine hG2 _ (seq_hide fun G2 hG2 => ?_)
      try simp! only [rgD_0]
      refine ⟨rgB_small (by omega), for_rng (fun i ρ => ∃ u3 u10, ρ = [.sh (tab p p R), .sh (nats (inv p d)), .ol ((List.range p).map fun i => .lst ((wrow R p d i).map D.int)), u3, u4, u5, u6, .sh (.lst ((intR p (bf (fgain (W R) d) p k)).map D.int)), .sh (.int k), .ol ((intR p (bfa (fgain (W R) d) (bf (fgain (W R) d) p k) i)).map D.int), u10, u11]) ⟨_, _, rfl⟩ (fun i ρ nx2 hi hs2 hn2 => ?_) (fun ρ hs2 => ?_)⟩
      · obtain ⟨u3, u10, rfl⟩ := hs2
        have wv : ((List.range p).map fun i => D.lst ((wrow R p d i).map D.int))[i]? = some (.lst ((wrow R p d i).map D.int)) := vrow_at hi _
        try simp! only [rgD_0]
        refine ⟨rgB_small (by omega), for_rng (fun o ρ => ∃ u10, ρ = [.sh (tab p p R), .sh (nats (inv p d)), .ol ((List.range p).map fun i => .lst ((wrow R p d i).map D.int)), .sh (.int i), u4, u5, u6, .sh (.lst ((intR p (bf (fgain (W R) d) p k)).map D.int)), .sh (.int k), .ol ((intR p (fun o' => if o' < o then bfa (fgain (W R) d) (bf (fgain (W R) d) p k) (i + 1) o' else bfa (fgain (W R) d) (bf (fgain (W R) d) p k) i o')).map D.int), u10, u11]) ⟨_, rfl⟩ (fun o ρ nx3 ho hs3 hn3 => ?_) (fun ρ hs3 => ?_)⟩
        · obtain ⟨u10, rfl⟩ := hs3
          have a1 : ∀ z, z < p → ((wrow R p d i).map D.int)[z]? = some (.int (W R i (d.getD z 0))) := fun z hz => by unfold wrow; exact intR_at _ hz
          have v2 : ((intR p (fun o' => if o' < o then bfa (fgain (W R) d) (bf (fgain (W R) d) p k) (i + 1) o' else bfa (fgain (W R) d) (bf (fgain (W R) d) p k) i o')).map D.int)[o]? = some (.int (bfa (fgain (W R) d) (bf (fgain (W R) d) p k) i o)) := by
            rw [intR_at _ ho, if_neg (by omega)]
          try simp! only [wv, a1 _ hi, a1 _ ho, v2, intR_at _ hi, dMaxV_2]
          rw [ixN_nat _ _ (by rw [intR_len2]; exact ho)]
          try simp! only [↓reduceIte]
          have ev : (if bf (fgain (W R) d) p k i + W R i (d.getD o 0) - W R i (d.getD i 0) > bfa (fgain (W R) d) (bf (fgain (W R) d) p k) i o then bf (fgain (W R) d) p k i + W R i (d.getD o 0) - W R i (d.getD i 0) else bfa (fgain (W R) d) (bf (fgain (W R) d) p k) i o) = bfa (fgain (W R) d) (bf (fgain (W R) d) p k) (i + 1) o := by
            show _ = (if bf (fgain (W R) d) p k i + fgain (W R) d i o > bfa (fgain (W R) d) (bf (fgain (W R) d) p k) i o then bf (fgain (W R) d) p k i + fgain (W R) d i o else bfa (fgain (W R) d) (bf (fgain (W R) d) p k) i o)
            have : bf (fgain (W R) d) p k i + W R i (d.getD o 0) - W R i (d.getD i 0) = bf (fgain (W R) d) p k i + fgain (W R) d i o := by unfold fgain; omega
            rw [this]
          have e : ((intR p (fun o' => if o' < o then bfa (fgain (W R) d) (bf (fgain (W R) d) p k) (i + 1) o' else bfa (fgain (W R) d) (bf (fgain (W R) d) p k) i o')).map D.int).set o (D.int (bfa (fgain (W R) d) (bf (fgain (W R) d) p k) (i + 1) o)) = (intR p (fun o' => if o' < o + 1 then bfa (fgain (W R) d) (bf (fgain (W R) d) p k) (i + 1) o' else bfa (fgain (W R) d) (bf (fgain (W R) d) p k) i o')).map D.int := by
            rw [intR_set _ ho]
            congr 1
            refine intR_cg fun o' _ => ?_
            by_cases e1 : o' = o
            · rw [if_pos e1, if_pos (by omega), e1]
            · rw [if_neg e1]
              by_cases e2 : o' < o
              · rw [if_pos e2, if_pos (by omega)]
              · rw [if_neg e2, if_neg (by omega)]
          rw [← e, ← ev] at hn3
          exact hn3 _ ⟨_, rfl⟩
        · obtain ⟨u10, rfl⟩ := hs3
          have e : intR p (fun o' => if o' < p then bfa (fgain (W R) d) (bf (fgain (W R) d) p k) (i + 1) o' else bfa (fgain (W R) d) (bf (fgain (W R) d) p k) i o') = intR p (bfa (fgain (W R) d) (bf (fgain (W R) d) p k) (i + 1)) := intR_cg fun o ho => by rw [if_pos ho]
          rw [e]
          exact hn2 _ ⟨_, _, rfl⟩
      · obtain ⟨u3, u10, rfl⟩ := hs2
        refine hG2 _ (seq_hide fun G2 hG2 => ?_)
        rw [show intR p (bfa (fgain (W R) d) (bf (fgain (W R) d) p k) p) = intR p (bf (fgain (W R) d) p (k + 1)) from rfl]
        try simp! only [↓reduceIte]
        rw [(EK.int.lst).dEq (intR p (bf (fgain (W R) d) p (k + 1))) (intR p (bf (fgain (W R) d) p k)) _ (by decide)]
        try simp! only [↓reduceIte]
        by_cases e : intR p (bf (fgain (W R) d) p (k + 1)) = intR p (bf (fgain (W R) d) p k)
        · rw [if_pos (by rw [e]; exact beq_self_eq_true _)]
          have hb := fixB k e
          rw [dSumI]
          refine w_fraction p1 (by omega) ?_
          rw [intR_len2]
          refine ⟨small (by omega), lc_map (fun v : Int => frD ((v : Rat) - mkRat (intR p (bf (fgain (W R) d) p k)).sum p)) (fun v hv kk hk2 => ?_) ?_⟩
          · try simp! only [↓reduceIte]
            rw [frD_int]
            have := mk_dvd (N := p) (intR p (bf (fgain (W R) d) p k)).sum p1
            exact ⟨by decide, w_minus (by show 1 * _ < _; omega) hk2⟩
          exact h1 hb _
        · rw [if_neg (by rw [beq_iff_eq]; exact e)]
          refine hG2 _ ?_
          try simp! only [↓reduceIte]
          refine hn _ ⟨fun j hj => ?_, _, _, _, _, _, _, _, _, rfl⟩
          by_cases ej : j = k
          · rw [ej]; exact e
          · exact hne j (by omega)
    · obtain ⟨hne, u3, u4, u5, u6, u8, u9, u10, u11, rfl⟩ := hs
      refine hG _ ?_
      try simp! only [↓reduceIte]
      refine h2 fun hb => hne (p - 1) (by omega) (intR_cg fun j hj => ?_)
      exact bf_rest hf0 p1 hp (fun way hw => by rw [← wgain_f]; exact (best_ways hp hd).mp hb way hw) hj
--# ring
def okW (R : List (List Int)) (d way : List Nat) : Bool := decide (wgain (W R) d way > 0) && decide (1 < way.length)
theorem wlev_facts (hp : p ≤ 4) {k : Nat} (hk : k ≤ 4) : (wlev p k).length ≤ 30 ∧ (∀ w ∈ wlev p k, w ≠ [] ∧ w.length ≤ 5) ∧ (k = p → wlev p k = [] ∨ p = 0) := by
  have key : ((List.range 5).all fun p => (List.range 5).all fun k => decide ((wlev p k).length ≤ 30) && ((wlev p k).all fun w => !w.isEmpty && decide (w.length ≤ 5)) && (!(k == p) || (wlev p k).isEmpty || p == 0)) = true := by decide +kernel
  have h := List.all_eq_true.mp (List.all_eq_true.mp key p (List.mem_range.mpr (by omega))) k (List.mem_range.mpr (by omega))
  rw [Bool.and_eq_true, Bool.and_eq_true] at h
  obtain ⟨⟨a, b⟩, c⟩ := h
  refine ⟨of_decide_eq_true a, fun w hw => ?_, fun e => ?_⟩
  · have := List.all_eq_true.mp b w hw
    rw [Bool.and_eq_true] at this
    refine ⟨fun z => ?_, of_decide_eq_true this.2⟩
    rw [z] at this
    exact absurd this.1 (by decide)
  · rw [e, beq_self_eq_true] at c
    rcases (Bool.or_eq_true _ _).mp c with z | z
    · refine .inl ?_
      rw [e]
      have : (wlev p p).isEmpty = true := by simpa using z
      exact List.isEmpty_iff.mp this
    · exact .inr (beq_iff_eq.mp z)
theorem wlev_ne (hp : p ≤ 4) {k : Nat} (hk : k < p) : (wlev p k == []) = false := by
  have key : ((List.range 5).all fun p => (List.range p).all fun k => !(wlev p k).isEmpty) = true := by decide +kernel
  have h := List.all_eq_true.mp (List.all_eq_true.mp key p (List.mem_range.mpr (by omega))) k (List.mem_range.mpr hk)
  rw [beq_eq_false_iff_ne]
  intro z
  rw [z] at h
  cases h
theorem wnx_len (way : List Nat) : (wnx p way).length ≤ p := by
  unfold wnx
  rw [List.length_map]
  exact Nat.le_trans (List.length_filter_le ..) (by rw [List.length_range]; exact Nat.le_refl _)
theorem none_ok (hp : p ≤ 4) {d : List Nat} (hd : d ∈ prm p p) (h : ∀ j, j < p → ∀ way ∈ wlev p j, okW R d way = false) : Best R p d := by
  refine (best_ways hp hd).mpr fun way hw => ?_
  obtain ⟨k, hk, hwk⟩ := List.mem_flatMap.mp (show way ∈ (List.range p).flatMap fun k => wlev p k from hw)
  have hk := List.mem_range.mp hk
  have h1 := h k hk way hwk
  unfold okW at h1
  by_cases c : 1 < way.length
  · rw [decide_eq_true c, Bool.and_true] at h1
    have := of_decide_eq_false h1
    omega
  · have hne := ((wlev_facts hp (k := k) (by omega)).2.1 way hwk).1
    obtain ⟨x, rfl⟩ : ∃ x, way = [x] := by
      cases way with
      | nil => exact absurd rfl hne
      | cons x way =>
        cases way with
        | nil => exact ⟨x, rfl⟩
        | cons y way => simp at c
    rw [wgain_f]
    show fgain (W R) d x x + 0 ≤ 0
    unfold fgain
    omega
theorem zip_nxt (w : List Nat) : zipD (w.map natI) (cutD (w.map natI) (some 1) none ++ cutD (w.map natI) none (some 1)) = (nxt w).map fun c => D.tup [natI c.1, natI c.2] := by
  have e1 : cutD (w.map natI) (some ((1 : Nat) : Int)) none = (w.map natI).drop 1 := cutD_from _ 1
  have e2 : cutD (w.map natI) none (some ((1 : Nat) : Int)) = (w.map natI).take 1 := cutD_to _ 1
  rw [show (1 : Int) = ((1 : Nat) : Int) from rfl, e1, e2, ← List.map_drop, ← List.map_take, ← List.map_append, zipD_map natI natI]
  rfl
abbrev bodyW : MS := (sSeq (sMany [3, 4] (nOl (fLst aNil) (nOl (fLst aNil) nNil)))
    (sSeq (sFor (fSeq (eVar 2)) (gdName 5) (sSeq (sAsg (eC (.int 0)) (gdName 6))
    (sSeq (sFor (fZip (eVar 5) (e2 dAdd (eSl (eRd 5) (oSome (eC (.int 1))) oNone) (eSl (eRd 5) oNone (oSome (eC (.int 1)))))) (gdTup 2 (gdCons (gdName 7) (gdCons (gdName 8) gdNil))) (sAugI 6 (fun i j => i + j) (e2 dSub (e2 dIx (e2 dIx (eFld ["Table"] "rows" (eRd 0)) (eRd 7)) (e2 dIx (eRd 1) (eRd 8))) (e2 dIx (e2 dIx (eFld ["Table"] "rows" (eRd 0)) (eRd 7)) (e2 dIx (eRd 1) (eRd 7))))))
    (sSeq (sExt 3 (eIf (mAnd (mVal (e2 dGtV (eRd 6) (eC (.int 0)))) (mVal (e2 dGtV (eCB dLen (aCons (eRd 5) aNil)) (eC (.int 1))))) (eNew (fLst (aCons (eVar 5) aNil))) (eNew (fLst aNil))))
    (sExt 4 (eNew (fLc (fRg1 (eFld ["Table"] "persons" (eRd 0))) (gdName 8) (mAnd (mVal (e2 dGtV (eRd 8) (e2 dIx (eRd 5) (eC (.int 0))))) (mVal (e2 (dInX true) (eRd 8) (eRd 5)))) (e2 dAdd (eRd 5) (eTup (aCons (eVar 8) aNil))) [8])))))))
    (sSeq (sIf (mVal (e2 dNe (eRd 3) (eNew (fLst aNil)))) (sRet (eCB dMinV (aCons (eRd 3) aNil))) sNext)
    (sStill 4 (sAsg (eVar 4) (gdName 2))))))
theorem nilsW {ways : List (List Nat)} (q : D → Prop) : dNe (.lst (ways.map nats)) (.lst []) q = q (.bl (!(ways == []))) := by
  rw [show (D.lst [] : D) = .lst (([] : List (List Nat)).map nats) from rfl]
  exact EK.nat.tup.lst.dNe ways [] q
theorem w_ring (T : Tab p p R) (hp : p ≤ 4) {d : List Nat} (hd : d ∈ prm p p) (h1 : Best R p d → q .non) (h2 : ¬ Best R p d → ∀ way : List Nat, q (nats way)) : m_ring [tab p p R, nats d] q qe := by
  have p1 := T.p1
  have D0 := prm_deal hd
  have lift : ∀ way : List Nat, way ∈ wall p → okW R d way = true → ∀ w : List Nat, q (nats w) := fun way hw hg => h2 fun hb => by
    have := (best_ways hp hd).mp hb way hw
    unfold okW at hg
    rw [Bool.and_eq_true] at hg
    have := of_decide_eq_true hg.1
    omega
  have one : ∀ w, w < 100 → True := fun _ _ => trivial
  have go : ∀ (n k : Nat), n + k = p → (∀ j, j < k → ∀ way ∈ wlev p j, okW R d way = false) → ∀ (fin : List En → Prop) (u3 u4 u5 u6 u7 u8 u9 : En), (q .non → ∀ ρ, fin ρ) →
      whN (mVal (e2 dNe (eRd 2) (eNew (fLst aNil)))) bodyW (n + 1) [.sh (tab p p R), .sh (nats d), .sh (.lst ((wlev p k).map nats)), u3, u4, u5, u6, u7, u8, u9] ⟨fin, fun _ => q, fun _ => False, fun _ => False⟩ qe := by
    intro n
    induction n with
    | zero =>
      intro k hk hno fin u3 u4 u5 u6 u7 u8 u9 hfin
      have ek : k = p := by omega
      have en : wlev p k = [] := ((wlev_facts hp (k := k) (by omega)).2.2 ek).resolve_right (by omega)
      refine while_hide fun G hG => ?_
      rw [en]
      try simp! only [↓reduceIte]
      refine ⟨by decide, dNe_same (by decide +kernel) ?_⟩
      try simp! only [↓reduceIte]
      exact hfin (h1 (none_ok hp hd fun j hj => hno j (by omega))) _
    | succ n ih =>
      intro k hk hno fin u3 u4 u5 u6 u7 u8 u9 hfin
      refine while_hide fun G hG => ?_
      have kp : k < p := by omega
      have F := wlev_facts hp (k := k) (by omega)
      try simp! only [nilsW]
      rw [wlev_ne hp kp]
      try simp! only [↓reduceIte]
      refine ⟨by decide, by decide, by decide, ?_⟩
      refine for_inv (mk := nats) (fun i ρ => ∃ v5 v6 v7 v8 v9, ρ = [.sh (tab p p R), .sh (nats d), .sh (.lst ((wlev p k).map nats)), .ol ((((wlev p k).take i).filter (okW R d)).map nats), .ol ((((wlev p k).take i).flatMap (wnx p)).map nats), v5, v6, v7, v8, v9]) ⟨_, _, _, _, _, rfl⟩ (fun i w ρ nx hy hs hn => ?_) (fun ρ hs => ?_)
      · obtain ⟨v5, v6, v7, v8, v9, rfl⟩ := hs
        have hwm := List.mem_of_getElem? hy
        obtain ⟨hne, hwl⟩ := F.2.1 w hwm
        have hlt : ∀ x ∈ w, x < p := wall_lt (List.mem_flatMap.mpr ⟨k, List.mem_range.mpr kp, hwm⟩)
        have t1 : ((wlev p k).take i).length ≤ 30 := Nat.le_trans (List.length_take_le' ..) F.1
        have t2 : (((wlev p k).take i).filter (okW R d)).length ≤ 30 := Nat.le_trans (List.length_filter_le ..) t1
        have t3 : (((wlev p k).take i).flatMap (wnx p)).length ≤ 4 * 30 := Nat.le_trans (flat_lenP fun x _ => wnx_len x) (Nat.mul_le_mul hp t1)
        have t4 := wnx_len (p := p) w
        show sSeq (sAsg (eC (.int 0)) (gdName 6)) _ _ _ _
        refine seq_hide fun G2 hG2 => ?_
        try simp! only [↓reduceIte]
        refine hG2 _ (seq_hide fun G2 hG2 => ?_)
        rw [show nats w = D.tup (w.map natI) from rfl]
        have cl : (cutD (w.map natI) (some 1) none ++ cutD (w.map natI) none (some 1)).length ≤ 10 := by
          have e1 : cutD (w.map natI) (some ((1 : Nat) : Int)) none = (w.map natI).drop 1 := cutD_from _ 1
          have e2 : cutD (w.map natI) none (some ((1 : Nat) : Int)) = (w.map natI).take 1 := cutD_to _ 1
          rw [show (1 : Int) = ((1 : Nat) : Int) from rfl, e1, e2, List.length_append, List.length_drop, List.length_take, List.length_map]
          omega
        try simp! only [zip_nxt]
        rw [List.length_append] at cl
        refine ⟨small (by omega), ?_⟩
        refine for_inv (fun m ρ => ∃ v7 v8, ρ = [.sh (tab p p R), .sh (nats d), .sh (.lst ((wlev p k).map nats)), .ol ((((wlev p k).take i).filter (okW R d)).map nats), .ol ((((wlev p k).take i).flatMap (wnx p)).map nats), .sh (nats w), .sh (.int (evC (fgain (W R) d) ((nxt w).take m))), v7, v8, v9]) ⟨_, _, rfl⟩ (fun m c ρ nx2 hc hs2 hn2 => ?_) (fun ρ hs2 => ?_)
        · obtain ⟨v7, v8, rfl⟩ := hs2
          have hcm := List.mem_of_getElem? hc
          have ha : c.1 < p := hlt _ (List.of_mem_zip hcm).1
          have hb : c.2 < p := by
            rcases List.mem_append.mp (List.of_mem_zip hcm).2 with z | z
            · exact hlt _ (List.mem_of_mem_drop z)
            · exact hlt _ (List.mem_of_mem_take z)
          have dv : ∀ j, j < p → (d.map natI)[j]? = some (.int (d.getD j 0 : Nat)) := fun j hj => by rw [← atI_n]; exact D0.at_ hj
          rw [show nats d = D.tup (d.map natI) from rfl]
          try simp! only [row_get T ha, dv _ ha, dv _ hb, Wat T ha (dlt D0 ha), Wat T ha (dlt D0 hb)]
          have e : evC (fgain (W R) d) ((nxt w).take (m + 1)) = evC (fgain (W R) d) ((nxt w).take m) + (W R c.1 (d.getD c.2 0) - W R c.1 (d.getD c.1 0)) := by
            rw [List.take_add_one, hc, evC_app]
            show _ = _ + fgain (W R) d c.1 c.2
            show _ + (fgain (W R) d c.1 c.2 + 0) = _
            omega
          rw [e] at hn2
          exact hn2 _ ⟨_, _, rfl⟩
        · obtain ⟨v7, v8, rfl⟩ := hs2
          rw [List.take_length, ← wgain_f]
          refine hG2 _ (seq_hide fun G2 hG2 => ?_)
          have et : (wlev p k).take (i + 1) = (wlev p k).take i ++ [w] := by rw [List.take_add_one, hy]; rfl
          have e4 : (((wlev p k).take i).flatMap (wnx p)).map nats ++ (wnx p w).map nats = (((wlev p k).take (i + 1)).flatMap (wnx p)).map nats := by
            rw [et, List.flatMap_append, List.map_append]
            simp
          have h0 : (w.map natI)[0]? = some (natI (w.headD 0)) := by
            cases w with
            | nil => exact absurd rfl hne
            | cons x w => rfl
          have fin4 : ∀ L3, L3 = (((wlev p k).take (i + 1)).filter (okW R d)).map nats → G2 [.sh (tab p p R), .sh (nats d), .sh (.lst ((wlev p k).map nats)), .ol L3, .ol ((((wlev p k).take i).flatMap (wnx p)).map nats), .sh (nats w), .sh (.int (wgain (W R) d w)), v7, v8, v9] := by
            intro L3 e3
            subst e3
            refine hG2 _ ?_
            rw [show nats w = D.tup (w.map natI) from rfl]
            try simp! only [rgD_0]
            refine ⟨rgB_small (by omega), small (by rw [List.length_range]; omega), lc_filter (fun o => decide (w.headD 0 < o) && !(w.any fun y => y == o)) (fun o => .tup (w.map natI ++ [.int ((o : Nat) : Int)])) (fun o ho k1 k2 b1 b2 => ?_) ?_⟩
            · try simp! only [h0]
              have cz : decide (((w.headD 0 : Nat) : Int) < (o : Int)) = decide ((w.headD 0 : Nat) < (o : Nat)) := by rw [Bool.eq_iff_iff, decide_eq_true_iff, decide_eq_true_iff]; omega
              rw [cz]
              cases c1 : decide ((w.headD 0 : Nat) < (o : Nat)) with
              | false => exact b2 (by rw [c1]; rfl)
              | true =>
                try simp! only [↓reduceIte]
                rw [show (D.int (o : Int)) = natI o from rfl, dIn_tnat]
                try simp! only [↓reduceIte]
                cases c2 : (w.any fun y => y == o) with
                | true => exact b2 (by rw [c1, c2]; rfl)
                | false => exact ⟨by decide, small (by omega), b1 (by rw [c1, c2]; rfl)⟩
            rw [show (((List.range p).filter fun o => decide (w.headD 0 < o) && !(w.any fun y => y == o)).map fun o => D.tup (w.map natI ++ [.int ((o : Nat) : Int)])) = (wnx p w).map nats from by
              unfold wnx
              rw [List.map_map]
              exact List.map_congr_left fun o _ => snoc_natsP w o]
            try simp! only [↓reduceIte]
            refine ⟨small (by omega), ?_⟩
            rw [e4]
            exact hn _ ⟨_, _, _, _, _, rfl⟩
          have eok : okW R d w = (decide (wgain (W R) d w > 0) && decide (1 < w.length)) := rfl
          have f1 : okW R d w = true → (((wlev p k).take i).filter (okW R d)).map nats ++ [nats w] = (((wlev p k).take (i + 1)).filter (okW R d)).map nats := fun c => by
            rw [et, List.filter_append, List.map_append, List.filter_cons, if_pos c]
            rfl
          have f0 : okW R d w = false → (((wlev p k).take i).filter (okW R d)).map nats ++ [] = (((wlev p k).take (i + 1)).filter (okW R d)).map nats := fun c => by
            rw [et, List.filter_append, List.map_append, List.filter_cons, if_neg (by rw [c]; exact Bool.false_ne_true)]
            rfl
          have cw : decide (((w.length : Nat) : Int) > 1) = decide (1 < w.length) := by rw [Bool.eq_iff_iff, decide_eq_true_iff, decide_eq_true_iff]; omega
          rw [show nats w = D.tup (w.map natI) from rfl]
          try simp! only [↓reduceIte]
          cases g1 : decide (wgain (W R) d w > 0) with
          | false =>
            try simp! only [↓reduceIte]
            exact ⟨by decide, small (by omega), fin4 _ (f0 (by rw [eok, g1]; rfl))⟩
          | true =>
            try simp! only [↓reduceIte]
            rw [show decide ((1 : Int) < ((w.length : Nat) : Int)) = decide (1 < w.length) from cw]
            cases g2 : decide (1 < w.length) with
            | false => exact ⟨by decide, small (by omega), fin4 _ (f0 (by rw [eok, g1, g2]; rfl))⟩
            | true => exact ⟨by decide, small (by omega), fin4 _ (f1 (by rw [eok, g1, g2]; rfl))⟩
      · obtain ⟨v5, v6, v7, v8, v9, rfl⟩ := hs
        rw [List.take_length]
        try simp! only [nilsW]
        refine ⟨by decide, ?_⟩
        cases ef : (wlev p k).filter (okW R d) with
        | nil =>
          try simp! only [↓reduceIte]
          refine hG _ (ih (k + 1) (by omega) (fun j hj way hw => ?_) _ _ _ _ _ _ _ _ hfin)
          by_cases c : j = k
          · subst c
            cases ok : okW R d way with
            | false => rfl
            | true =>
              have : way ∈ (wlev p j).filter (okW R d) := List.mem_filter.mpr ⟨hw, ok⟩
              rw [ef] at this
              cases this
          · exact hno j (by omega) way hw
        | cons a as =>
          have ha : a ∈ (wlev p k).filter (okW R d) := by rw [ef]; exact List.mem_cons_self ..
          obtain ⟨ha1, ha2⟩ := List.mem_filter.mp ha
          have L := lift a (List.mem_flatMap.mpr ⟨k, List.mem_range.mpr kp, ha1⟩) ha2
          rw [if_pos (by rfl)]
          refine (EO.nat.tup.minL (fun _ _ e => by cases e) a as q).symm ▸ ?_
          exact L _
  rw [m_ring_eq]
  refine seq_hide fun G hG => ?_
  try simp! only [↓reduceIte]
  refine w_check_rooms (p := p) (R := R) ?_
  refine hG _ (seq_hide fun G hG => ?_)
  try simp! only [rgD_0, List.length_range]
  refine ⟨rgB_small (by omega), small (by omega), lc_map (fun i => nats [i]) (fun i hi kk hk => ?_) ?_⟩
  · try simp! only [↓reduceIte]
    exact ⟨by decide, hk⟩
  rw [show ((List.range p).map fun i => nats [i]) = (wlev p 0).map nats from by unfold wlev; rw [List.map_map]; rfl]
  refine hG _ (seq_hide fun G hG => ?_)
  refine ⟨p + 1, go p 0 (by omega) (fun j hj => by omega) _ _ _ _ _ _ _ _ fun hq ρ => ?_⟩
  refine hG _ ?_
  try simp! only [↓reduceIte]
  exact hq
end K80
namespace K80
open PySem L2 Fd
variable {p t : Nat} {R : List (List Int)} {q : D → Prop} {qe : QE}
theorem w_rows {p t n : Nat} (hp : 1 ≤ p ∧ p ≤ 5) (ht : t ≤ 9) (hn : n ≤ 100) (h : ∀ R, Tab p t R → q (.tup (R.map intT))) : m__law_rows [.hand, .int (p : Int), .int (t : Int), .int 0, .int (n : Int)] q qe := by
  try simp! only [m__law_rows_eq, f__law_rows, rgD_0, List.length_range]
  refine ⟨by decide, rgB_small (by omega), for_rng (fun k ρ => ∃ e6 e7 L, (∃ R : List (List Int), L = R.map intT ∧ R.length = k ∧ ∀ r ∈ R, r.length = t ∧ ∀ x ∈ r, 0 ≤ x ∧ x ≤ (n : Int)) ∧ ρ = [.sh .hand, .sh (.int p), .sh (.int t), .sh (.int 0), .sh (.int n), .ol L, e6, e7])
    ⟨_, _, _, ⟨[], rfl, rfl, fun _ h => by cases h⟩, rfl⟩ (fun k ρ nx hk hs hn' => ?_) (fun ρ hs => ?_)⟩
  · obtain ⟨e6, e7, L, ⟨R, rfl, hR, hr⟩, rfl⟩ := hs
    try simp! only [rgD_0, List.length_range]
    refine ⟨rgB_small (by omega), small (by omega), lc_all (P := fun _ d => ∃ x : Int, d = .int x ∧ 0 ≤ x ∧ x ≤ (n : Int)) (fun x hx k' hk' => ?_) fun ds hds => ?_⟩
    · try simp! only [↓reduceIte]
      refine draw_lit (by omega) (by omega) fun j hj => hk' _ ⟨_, rfl, by omega, by omega⟩
    · obtain ⟨ns, rfl, hns⟩ := all2_int hds
      have hl := hns.length
      rw [List.length_range] at hl
      have hb : ∀ x ∈ ns, 0 ≤ x ∧ x ≤ (n : Int) := All2.right (P := fun _ x => 0 ≤ x ∧ x ≤ (n : Int)) (Q := fun x : Int => 0 ≤ x ∧ x ≤ (n : Int)) (fun _ _ h => h) hns
      refine ⟨Nat.lt_of_le_of_lt (show R.length ≤ 5 by omega) (by decide), hn' _ ⟨_, _, _, ⟨R ++ [ns], by rw [List.map_append]; rfl, by rw [List.length_append, hR]; rfl, fun r hr' => ?_⟩, rfl⟩⟩
      rcases List.mem_append.mp hr' with z | z
      · exact hr r z
      · rw [List.mem_singleton.mp z]
        exact ⟨hl.symm, hb⟩
  · obtain ⟨e6, e7, L, ⟨R, rfl, hR, hr⟩, rfl⟩ := hs
    try simp! only [↓reduceIte]
    exact h R ⟨hR, fun r hr' => (hr r hr').1, fun r hr' x hx => ⟨by have := ((hr r hr').2 x hx).1; omega, by have := ((hr r hr').2 x hx).2; omega⟩, hp.1, hp.2, ht⟩
theorem w_law_orders (hp : p ≤ 4) (h : q (.lst ((prm p p).map nats))) : m__law_orders [.int (p : Int)] q qe := by
  rw [m__law_orders_eq]
  refine seq_hide fun G hG => ?_
  try simp! only [↓reduceIte]
  refine ⟨by decide, by decide, hG _ (seq_hide fun G hG => ?_)⟩
  try simp! only [rgD_0]
  refine ⟨rgB_small (by omega), for_rng (fun k ρ => ∃ u2 u3 u4 u5, ρ = [.sh (.int (p : Int)), .sh (.lst ((prm p k).map nats)), u2, u3, u4, u5]) ⟨_, _, _, _, rfl⟩ (fun k ρ nx hk hs hn => ?_) (fun ρ hs => ?_)⟩
  · obtain ⟨u2, u3, u4, u5, rfl⟩ := hs
    have hl := prm_len (p := p) (k := k) hp (by omega)
    try simp! only [↓reduceIte]
    refine ⟨by decide, for_inv (fun i ρ => ∃ L u4 u5, L = (((prm p k).take i).flatMap (nxP p)).map nats ∧ ρ = [.sh (.int (p : Int)), .sh (.lst ((prm p k).map nats)), .sh (.int k), .ol L, u4, u5]) ⟨_, _, _, rfl, rfl⟩ (fun i row ρ nx2 hy hs2 hn2 => ?_) (fun ρ hs2 => ?_)⟩
    · obtain ⟨L, u4, u5, rfl, rfl⟩ := hs2
      have hd := prm_deal (List.mem_of_getElem? hy)
      have hb := prmT_len (p := p) (k := k) (i := i) hp (by omega)
      have hstep := prm_step hy
      have hn1 := nxP_len (p := p) row
      try simp! only [rgD_0, List.length_range]
      refine ⟨rgB_small (by omega), small (by omega), lc_filter (fun x : Nat => !(row.any fun y => y == x)) (fun x : Nat => D.tup (row.map natI ++ [.int ((x : Nat) : Int)])) (fun x hx kk k' h1 h2 => ?_) ?_⟩
      · try simp! only [↓reduceIte]
        have e := dIn_tnat true x row
        rw [show (D.int (x : Int)) = natI x from rfl, show nats row = D.tup (row.map natI) from rfl, e]
        try simp! only [↓reduceIte]
        cases hc : (row.any fun y => y == x) with
        | true => exact h2 (by rw [hc]; rfl)
        | false => exact ⟨by decide, small (by rw [hd.len]; omega), h1 (by rw [hc]; rfl)⟩
      · rw [nxP_D]
        try simp! only [↓reduceIte]
        refine ⟨small (by omega), hn2 _ ⟨_, _, _, ?_, rfl⟩⟩
        rw [hstep, List.map_append]
    · obtain ⟨L, u4, u5, rfl, rfl⟩ := hs2
      rw [List.take_length]
      try simp! only [↓reduceIte]
      exact hn _ ⟨_, _, _, _, rfl⟩
  · obtain ⟨u2, u3, u4, u5, rfl⟩ := hs
    refine hG _ ?_
    try simp! only [↓reduceIte]
    exact h
theorem w_law_less {x y : Rat} (hx : x.den < 1073741824) (hy : y.den < 1073741824) (h : q (.bl (decide (x < y)))) : m__law_less [frD x, frD y] q qe := by
  try simp! only [m__law_less_eq, f__law_less, frD, atI_0, atI_1]
  refine ⟨.inr (by omega), .inr (by omega), ?_⟩
  try simp! only [dLtV_int, rat_lt]
  exact h
theorem w_law_is_calm (T : Tab p p R) (hp : p ≤ 4) {d : List Nat} (hd : d ∈ prm p p) {P : Nat → Rat} {N : Nat} (hN : 0 < N) (hN2 : N < 1073741824) (hP : ∀ j, Dv N (P j))
    (hc : ∀ i o, i < p → o < p → ¬ (((W R i (d.getD i 0) : Int) : Rat) - P (d.getD i 0) < ((W R i o : Int) : Rat) - P o)) (h : q (.bl true)) : m__law_is_calm [.tup (R.map intT), nats d, .tup ((List.range p).map fun j => frD (P j))] q qe := by
  have hr := T.rows
  have D0 := prm_deal hd
  have pv : ∀ j, j < p → ((List.range p).map fun j => frD (P j))[j]? = some (frD (P j)) := fun j hj => vrow_at hj _
  have db : ∀ (w : Int) j, (((w : Int) : Rat) - P j).den < 1073741824 := fun w j => by
    have := ((Dv.int w hN).sub (hP j) hN).den hN
    omega
  have pb : ∀ (w : Int) j, ((w : Int) : Rat).den * (P j).den < 1073741824 := fun w j => by
    have := (hP j).den hN
    show 1 * _ < _
    omega
  rw [m__law_is_calm_eq]
  refine seq_hide fun G hG => ?_
  rw [show nats d = D.tup (d.map natI) from rfl]
  try simp! only [enum_deal D0]
  refine for_rng (fun k ρ => ∃ u3 u4 u5 u6, ρ = [.sh (.tup (R.map intT)), .sh (nats d), .sh (.tup ((List.range p).map fun j => frD (P j))), u3, u4, u5, u6]) ⟨_, _, _, _, rfl⟩ (fun i ρ nx hi hs hn => ?_) (fun ρ hs => ?_)
  · obtain ⟨u3, u4, u5, u6, rfl⟩ := hs
    have di := dlt D0 hi
    try simp! only [row_get T hi, Wat T hi di, pv _ di, frD_int]
    refine ⟨by decide, w_law_minus (pb _ _) ?_⟩
    try simp! only [hr, rgD_0]
    refine ⟨rgB_small (by omega), for_rng (fun k ρ => ∃ u6, ρ = [.sh (.tup (R.map intT)), .sh (nats d), .sh (.tup ((List.range p).map fun j => frD (P j))), .sh (.int i), .sh (.int (d.getD i 0 : Nat)), .sh (frD (((W R i (d.getD i 0) : Int) : Rat) - P (d.getD i 0))), u6]) ⟨_, rfl⟩ (fun o ρ nx2 ho hs2 hn2 => ?_) (fun ρ hs2 => ?_)⟩
    · obtain ⟨u6, rfl⟩ := hs2
      try simp! only [row_get T hi, Wat T hi ho, pv _ ho, frD_int]
      refine ⟨by decide, w_law_minus (pb _ _) (w_law_less (db _ _) (db _ _) ?_)⟩
      rw [decide_eq_false (hc i o hi ho)]
      try simp! only [↓reduceIte]
      exact hn2 _ ⟨_, rfl⟩
    · obtain ⟨u6, rfl⟩ := hs2
      exact hn _ ⟨_, _, _, _, rfl⟩
  · obtain ⟨u3, u4, u5, u6, rfl⟩ := hs
    refine hG _ ?_
    try simp! only [↓reduceIte]
    exact h
/-! plain -/
theorem max_snoc {xs : List Int} (h : xs ≠ []) (y : Int) : maxI (xs ++ [y]) = if y > maxI xs then y else maxI xs := by
  cases xs with
  | nil => exact absurd rfl h
  | cons x xs =>
    show (xs ++ [y]).foldl max x = _
    rw [List.foldl_append]
    show max (xs.foldl max x) y = if y > xs.foldl max x then y else xs.foldl max x
    split <;> omega
theorem maxI_memL {xs : List Int} (h : xs ≠ []) : maxI xs ∈ xs := by
  cases xs with
  | nil => exact absurd rfl h
  | cons x xs => exact foldl_max_mem xs x
theorem bst_idx (f : List Nat → Int) : ∀ (A : List (List Nat)), A ≠ [] → bst f A.reverse = A.reverse[(A.reverse.map f).idxOf (maxI (A.reverse.map f))]? ∧ ∀ c, bst f A.reverse = some c → f c = maxI (A.reverse.map f)
  | [], h => absurd rfl h
  | a :: A, _ => by
    by_cases hA : A = []
    · subst hA
      refine ⟨?_, fun c hc => ?_⟩
      · show some a = [a][[f a].idxOf (f a)]?
        simp
      · have : some a = some c := hc
        rw [← Option.some.inj this]
        rfl
    · obtain ⟨h1, h2⟩ := bst_idx f A hA
      have hr : A.reverse.map f ≠ [] := by simpa using hA
      obtain ⟨c, hc⟩ : ∃ c, bst f A.reverse = some c := by
        obtain ⟨c, hc, _⟩ := bst_of f (L := A.reverse) (by simpa using hA)
        exact ⟨c, hc⟩
      have e2 := h2 c hc
      have em := maxI_memL hr
      rw [List.reverse_cons, bst_snoc, hc, List.map_append, show [a].map f = [f a] from rfl, max_snoc hr]
      show (if f a > f c then some a else some c) = _ ∧ ∀ c', (if f a > f c then some a else some c) = some c' → _
      rw [e2]
      by_cases g : f a > maxI (A.reverse.map f)
      · rw [if_pos g, if_pos g]
        have hn : f a ∉ A.reverse.map f := fun z => by have := maxI_le z; omega
        refine ⟨?_, fun c' hc' => by rw [← Option.some.inj hc']⟩
        rw [List.idxOf_append, if_neg hn, List.getElem?_append_right (by simp)]
        simp
      · rw [if_neg g, if_neg g]
        refine ⟨?_, fun c' hc' => by rw [← Option.some.inj hc']; exact e2⟩
        have hl := List.idxOf_lt_length_of_mem em
        rw [List.length_map] at hl
        rw [List.idxOf_append, if_pos em, List.getElem?_append_left hl, ← h1, hc]
end K80
namespace K80
open PySem L2 Fd
variable {p t : Nat} {R : List (List Int)} {q : D → Prop} {qe : QE} {d : List Nat} {y : Nat → Int}
def priceY (p : Nat) (y : Nat → Int) (rent : Rat) (o : Nat) : Rat := (y o : Rat) + shareR p y rent
theorem rest_calm (hy : Rest R p d y) (rent : Rat) : ∀ i o, i < p → o < p → ¬ (((W R i (d.getD i 0) : Int) : Rat) - priceY p y rent (d.getD i 0) < ((W R i o : Int) : Rat) - priceY p y rent o) := by
  intro i o hi ho h
  have h1 : ((y (d.getD i 0) + (W R i o - W R i (d.getD i 0)) : Int) : Rat) ≤ ((y o : Int) : Rat) := Rat.intCast_le_intCast.mpr (hy i o hi ho)
  unfold priceY at h
  rw [Rat.intCast_add, Rat.intCast_sub] at h1
  grind
theorem price_dvY (hp : 1 ≤ p) (y : Nat → Int) (rent : Rat) (o : Nat) : Dv (rent.den * p) (priceY p y rent o) := by
  have := Nat.pos_of_ne_zero rent.den_nz
  have hm : 0 < rent.den * p := Nat.mul_pos this hp
  exact (Dv.int _ hm).add (Dv.self _) hm
theorem sum_shift (y : Nat → Int) (c : Rat) : ∀ n : Nat, ((List.range n).map fun o => (y o : Rat) + c).sum = ((((List.range n).map y).sum : Int) : Rat) + (n : Rat) * c
  | 0 => by
    show (0 : Rat) = 0 + ((0 : Nat) : Rat) * c
    have : ((0 : Nat) : Rat) = 0 := rfl
    rw [this]
    grind
  | n + 1 => by
    rw [List.range_succ, List.map_append, List.map_append, List.sum_append, List.sum_append, sum_shift y c n]
    simp only [List.map_cons, List.map_nil, List.sum_cons, List.sum_nil, Rat.add_zero, Int.add_zero]
    rw [Rat.intCast_add]
    push_cast
    grind
theorem price_sum (hp : 1 ≤ p) (y : Nat → Int) (rent : Rat) : ((List.range p).map (priceY p y rent)).sum = rent := by
  have h0 : (p : Rat) ≠ 0 := by
    intro e
    have : p = 0 := by exact_mod_cast e
    omega
  have h1 : (rent.den : Rat) ≠ 0 := by
    have := rent.den_nz
    intro e
    exact this (by exact_mod_cast e)
  have h2 : (rent.num : Rat) / (rent.den : Rat) = rent := by rw [← Rat.mkRat_eq_div, Rat.mkRat_self]
  have h3 : ((List.range p).map (priceY p y rent)) = (List.range p).map fun o => (y o : Rat) + shareR p y rent := rfl
  rw [h3, sum_shift]
  unfold shareR intR
  rw [Rat.mkRat_eq_div, Rat.intCast_sub, Rat.intCast_mul, Rat.natCast_mul]
  generalize ((((List.range p).map y).sum : Int) : Rat) = S
  rw [show ((rent.den : Int) : Rat) = (rent.den : Rat) from rfl]
  generalize hA : (rent.num : Rat) = A at *
  generalize hB : (rent.den : Rat) = B at *
  generalize (p : Rat) = C at *
  have e1 : C * ((A - S * B) / (B * C)) = A / B - S := by grind
  rw [e1, h2]
  grind
theorem sum_permR {A B : List Rat} (h : A.Perm B) : A.sum = B.sum := by
  induction h with
  | nil => rfl
  | cons x _ ih => rw [List.sum_cons, List.sum_cons, ih]
  | swap x y l => rw [List.sum_cons, List.sum_cons, List.sum_cons, List.sum_cons]; grind
  | trans _ _ h1 h2 => rw [h1, h2]
theorem prm_perm (hp : p ≤ 4) (hd : d ∈ prm p p) : d.Perm (List.range p) :=
  List.isPerm_iff.mp (List.all_eq_true.mp (List.all_eq_true.mp (by decide +kernel : (List.range 5).all (fun p => (prm p p).all fun d => d.isPerm (List.range p)) = true) p (List.mem_range.mpr (by omega))) d hd)
theorem deal_map {α : Type} (hp : p ≤ 4) (hd : d ∈ prm p p) (P : Nat → α) : (List.range p).map (fun i => P (d.getD i 0)) = d.map P := by
  have hl := (prm_deal hd).len
  refine List.ext_getElem (by rw [List.length_map, List.length_map, List.length_range, hl]) fun j h1 h2 => ?_
  rw [List.length_map] at h2
  rw [List.getElem_map, List.getElem_map, List.getElem_range, List.getD_eq_getElem?_getD, List.getElem?_eq_getElem h2]
  rfl
theorem deal_sum (hp : p ≤ 4) (hd : d ∈ prm p p) (P : Nat → Rat) : ((List.range p).map fun i => P (d.getD i 0)).sum = ((List.range p).map P).sum := by
  rw [deal_map hp hd P]
  exact sum_permR ((prm_perm hp hd).map P)
theorem sm_ls (L : List (List Nat)) (hl : L.length ≤ 100) (h : ∀ r ∈ L, r.length ≤ 9) (i : Int) (c : List Nat) (hc : c.length ≤ 9) : sm 5 (.lst [.lst (L.map nats), .tup [.int i, nats c]]) = true := by
  have sn : ∀ c : List Nat, c.length ≤ 9 → ∀ n, sm (n + 1) (nats c) = true := fun c hc n => by
    show (decide ((c.map natI).length ≤ 1000) && (c.map natI).all (sm n)) = true
    rw [Bool.and_eq_true]
    refine ⟨decide_eq_true (by rw [List.length_map]; omega), ?_⟩
    rw [List.all_map]
    exact List.all_eq_true.mpr fun _ _ => by cases n <;> rfl
  have s1 : sm 4 (.lst (L.map nats)) = true := by
    show (decide ((L.map nats).length ≤ 1000) && (L.map nats).all (sm 3)) = true
    rw [Bool.and_eq_true]
    refine ⟨decide_eq_true (by rw [List.length_map]; omega), ?_⟩
    rw [List.all_map]
    exact List.all_eq_true.mpr fun r hr => sn r (h r hr) 2
  have s2 : sm 4 (.tup [.int i, nats c]) = true := by
    show (decide (2 ≤ 1000) && (true && (sm 3 (nats c) && true))) = true
    rw [sn c hc 2]
    rfl
  show (decide (2 ≤ 1000) && (sm 4 _ && (sm 4 _ && true))) = true
  rw [s1, s2]
  rfl
end K80
namespace K80
open PySem L2 Fd
variable {p t : Nat} {R : List (List Int)} {q : D → Prop} {qe : QE} {d : List Nat} {y : Nat → Int}
def tops (R : List (List Int)) (p : Nat) : List Int := (prm p p).map (roomS R p)
def topI (R : List (List Int)) (p : Nat) : Nat := (tops R p).idxOf (maxI (tops R p))
theorem prm_ne (hp : p ≤ 4) : prm p p ≠ [] := fun e => by
  have key : ((List.range 5).all fun p => !(prm p p).isEmpty) = true := by decide +kernel
  have := List.all_eq_true.mp key p (List.mem_range.mpr (by omega))
  rw [e] at this
  cases this
theorem top_facts (hp : p ≤ 4) : ∃ c, bst (roomS R p) (prm p p) = some c ∧ (prm p p)[topI R p]? = some c ∧ roomS R p c = maxI (tops R p) ∧ topI R p < (prm p p).length := by
  have hn := prm_ne hp
  have h := bst_idx (roomS R p) (prm p p).reverse (by simpa using hn)
  rw [List.reverse_reverse] at h
  obtain ⟨c, hc, _⟩ := bst_of (roomS R p) hn
  have hl := List.idxOf_lt_length_of_mem (maxI_memL (xs := tops R p) (by unfold tops; simpa using hn))
  unfold tops at hl
  rw [List.length_map] at hl
  exact ⟨c, hc, by rw [← hc]; exact h.1.symm, h.2 c hc, hl⟩
theorem best_top (hp : p ≤ 4) (hd : d ∈ prm p p) : (roomS R p d == maxI (tops R p)) = true ↔ Best R p d := by
  obtain ⟨c, hc, _, e, _⟩ := top_facts (R := R) hp
  obtain ⟨c', hc', hm, hb⟩ := bst_of (roomS R p) (prm_ne hp)
  rw [hc] at hc'
  cases hc'
  rw [beq_iff_eq]
  constructor
  · intro h r hr
    rw [h, ← e]
    exact hb r hr
  · intro h
    have h1 := hb d hd
    have h2 := h c hm
    omega
theorem sm_two (f : Nat → Rat) (L : List Nat) (hl : L.length ≤ 9) : sm 5 (.lst [.lst (L.map fun i => frD (f i)), .lst (L.map fun i => frD (f i))]) = true := by
  have s1 : sm 4 (.lst (L.map fun i => frD (f i))) = true := by
    show (decide ((L.map fun i => frD (f i)).length ≤ 1000) && (L.map fun i => frD (f i)).all (sm 3)) = true
    rw [Bool.and_eq_true]
    refine ⟨decide_eq_true (by rw [List.length_map]; omega), ?_⟩
    rw [List.all_map]
    exact List.all_eq_true.mpr fun _ _ => rfl
  show (decide (2 ≤ 1000) && (sm 4 _ && (sm 4 _ && true))) = true
  rw [s1]
  rfl
theorem w_right (h : q (.bl true)) : m__law_is_right [.hand] q qe := by
  rw [m__law_is_right_eq]
  refine seq_hide fun G hG => ?_
  try simp! only [↓reduceIte]
  refine draw_lit (k := 4) (by omega) (by omega) fun a ha => ?_
  try simp! only [↓reduceIte]
  obtain ⟨p, ep, hp1, hp⟩ : ∃ p : Nat, (1 : Int) + (a : Int) = (p : Int) ∧ 1 ≤ p ∧ p ≤ 4 := ⟨a + 1, by omega, by omega, by omega⟩
  rw [ep]
  refine hG _ (seq_hide fun G hG => ?_)
  try simp! only [↓reduceIte]
  refine ⟨by decide, w_some (by simp) (by simp) fun dd hdd => ?_⟩
  obtain ⟨n, rfl, hn⟩ : ∃ n : Nat, dd = .int (n : Int) ∧ n ≤ 100 := by
    simp only [List.mem_cons, List.not_mem_nil, or_false] at hdd
    rcases hdd with rfl | rfl
    · exact ⟨3, rfl, by omega⟩
    · exact ⟨30, rfl, by omega⟩
  refine w_rows ⟨by omega, by omega⟩ (by omega) hn fun R T => ?_
  refine hG _ (seq_hide fun G hG => ?_)
  try simp! only [↓reduceIte]
  refine w_Table T ?_
  rw [tab_fold]
  try simp! only [↓reduceIte]
  refine w_law_orders hp ?_
  obtain ⟨c0, hc0, hci, hcm, hcl⟩ := top_facts (R := R) hp
  obtain ⟨c', hc', hcmem, hcb⟩ := bst_of (roomS R p) (prm_ne hp)
  rw [hc0] at hc'
  cases hc'
  have pl := prm_len (p := p) (k := p) hp hp
  have p0 : 0 < (prm p p).length := List.length_pos_iff.mpr (prm_ne hp)
  refine hG _ (seq_hide fun G hG => ?_)
  try simp! only [↓reduceIte]
  refine ⟨small (by omega), lc_map (fun r => .int (roomS R p r)) (fun r hr k hk => ?_) ?_⟩
  · have Dr := prm_deal hr
    rw [show nats r = D.tup (r.map natI) from rfl]
    try simp! only [enum_deal Dr]
    refine ⟨small (by rw [List.length_range]; omega), lc_map (fun i => .int (W R i (r.getD i 0))) (fun i hi k hk => ?_) ?_⟩
    · have hi := List.mem_range.mp hi
      try simp! only [row_get T hi, Wat T hi (dlt Dr hi)]
      exact hk
    try simp! only [ints_mapF]
    exact hk
  rw [show ((prm p p).map fun r => D.int (roomS R p r)) = (tops R p).map D.int from by unfold tops; rw [List.map_map]; rfl]
  refine hG _ (seq_hide fun G hG => ?_)
  have tn : tops R p ≠ [] := by unfold tops; simpa using prm_ne hp
  have tl : (tops R p).length = (prm p p).length := by unfold tops; rw [List.length_map]
  have tm := maxI_memL tn
  try simp! only [eIndexV]
  have ci : ((prm p p).map nats)[List.idxOf (maxI (tops R p)) (tops R p)]? = some (nats c0) := by
    rw [List.getElem?_map]
    show Option.map _ ((prm p p)[topI R p]?) = _
    rw [hci]
    rfl
  rw [ci]
  refine ⟨tn, tn, tm, ?_⟩
  try simp! only [↓reduceIte]
  refine ⟨by decide, hG _ (seq_hide fun G hG => ?_)⟩
  try simp! only [↓reduceIte]
  refine w_dealings T hp ?_
  try simp! only [↓reduceIte]
  refine w_best_dealing T hp ?_
  rw [hc0]
  try simp! only [bstD]
  rw [hcm]
  have Dc := prm_deal hcmem
  refine ⟨by decide, by decide, w_is 5 _ (sm_ls _ (by omega) (fun r hr => by rw [(prm_deal hr).len]; omega) _ _ (by rw [Dc.len]; omega)) ?_⟩
  try simp! only [↓reduceIte]
  refine hG _ (seq_hide fun G hG => ?_)
  try simp! only [↓reduceIte]
  refine draw_nat p0 (by omega) fun at_ hat => ?_
  refine hG _ (seq_hide fun G hG => ?_)
  try simp! only [eIndexV]
  refine ⟨tn, tm, by decide, ?_⟩
  rw [show ([D.int (at_ : Int), D.int ((List.idxOf (maxI (tops R p)) (tops R p) : Nat) : Int)]) = [at_, topI R p].map natI from rfl]
  refine for_inv (fun k ρ => ∃ u7 u8 u9 u10 u11 u12 u13 u14 u15 u16 u17 u18 u19, ρ = [.sh .hand, .sh (.int (p : Int)), .sh (.tup (R.map intT)), .sh (tab p p R), .sh (.lst ((prm p p).map nats)), .sh (.lst ((tops R p).map D.int)), .sh (.tup [.int (maxI (tops R p)), nats c0]), u7, u8, u9, u10, u11, u12, u13, u14, u15, u16, u17, u18, u19]) ⟨_, _, _, _, _, _, _, _, _, _, _, _, _, rfl⟩ (fun k x ρ nx hx hs hn => ?_) (fun ρ hs => ?_)
  · obtain ⟨u7, u8, u9, u10, u11, u12, u13, u14, u15, u16, u17, u18, u19, rfl⟩ := hs
    have hxl : x < (prm p p).length := by
      rcases List.mem_cons.mp (List.mem_of_getElem? hx) with rfl | z
      · exact hat
      · rw [List.mem_singleton.mp z]; exact hcl
    obtain ⟨d, hdx⟩ : ∃ d, (prm p p)[x]? = some d := ⟨_, List.getElem?_eq_getElem hxl⟩
    have hd := List.mem_of_getElem? hdx
    have D0 := prm_deal hd
    have v4 : ((prm p p).map nats)[x]? = some (nats d) := by rw [List.getElem?_map, hdx]; rfl
    have v5 : ((tops R p).map D.int)[x]? = some (.int (roomS R p d)) := by unfold tops; rw [List.map_map, List.getElem?_map, hdx]; rfl
    show sSeq (sMany [9, 10] _) _ _ _ _
    refine seq_hide fun G2 hG2 => ?_
    try simp! only [v4]
    refine draw_lit (k := 200) (by omega) (by omega) fun b hb => ?_
    try simp! only [↓reduceIte]
    refine draw_lit (k := 4) (by omega) (by omega) fun c hc => ?_
    try simp! only [↓reduceIte]
    rw [show (1 : Int) + (c : Int) = ((c + 1 : Nat) : Int) from by omega]
    refine w_law_cut (by omega) (by omega) ?_
    have rd : (mkRat (b : Int) (c + 1)).den ≤ 1000 := Nat.le_trans (mk_dvd _ (by omega)) (by omega)
    generalize mkRat (b : Int) (c + 1) = rent at rd
    have dz := Nat.pos_of_ne_zero rent.den_nz
    have Nb : rent.den * p ≤ 1000 * 4 := Nat.mul_le_mul rd hp
    have N0 : 0 < rent.den * p := Nat.mul_pos dz hp1
    have NN := Nat.mul_le_mul Nb Nb
    refine hG2 _ (seq_hide fun G2 hG2 => ?_)
    try simp! only [rgD_0, List.length_range]
    refine ⟨rgB_small (by omega), small (by omega), lc_map (fun o => natI (d.idxOf o)) (fun o ho k hk => ?_) ?_⟩
    · have ho := List.mem_range.mp ho
      rw [show nats d = D.tup (d.map natI) from rfl]
      try simp! only [eIndexV]
      exact ⟨List.idxOf_lt_length_iff.mp (by rw [D0.len]; exact (perm_at hp hd ho).1), hk⟩
    rw [show D.tup ((List.range p).map fun o => natI (d.idxOf o)) = nats (inv p d) from by unfold inv nats; rw [List.map_map]; rfl]
    refine hG2 _ (seq_hide fun G2 hG2 => ?_)
    try simp! only [v5]
    by_cases hB : Best R p d
    · have ht : (roomS R p d == maxI (tops R p)) = true := (best_top hp hd).mpr hB
      refine w_prices T hp hd rd (fun _ y hy => ?_) (fun z => absurd hB z)
      refine ⟨tn, ?_⟩
      rw [ht]
      refine hG2 _ (seq_hide fun G2 hG2 => ?_)
      try simp! only [v5]
      refine w_sum_of T D0 (w_is 5 _ rfl ?_)
      try simp! only [dIs, D.isNon, dEq_bl, dNe_bl]
      refine hG2 _ (seq_hide fun G2 hG2 => ?_)
      try simp! only [↓reduceIte]
      refine w_ring T hp hd (fun _ => ?_) (fun z => absurd hB z)
      try simp! only [dIs, D.isNon, dEq_bl, dNe_bl]
      refine w_calm_pays T hp hd (fun _ ds => ?_) (fun z => absurd hB z)
      try simp! only [dIs, D.isNon, dEq_bl, dNe_bl]
      refine hG2 _ ?_
      clear hG2
      try simp! only [↓reduceIte]
      refine w_law_is_calm (P := priceY p y rent) (N := rent.den * p) T hp hd N0 (by omega) (price_dvY hp1 y rent) (rest_calm hy rent) ?_
      try simp! only [↓reduceIte]
      have eL : ((List.range p).map fun o => frD ((y o : Rat) + shareR p y rent)) = ((List.range p).map (priceY p y rent)).map frD := by rw [List.map_map]; rfl
      have hdv : ∀ x ∈ (List.range p).map (priceY p y rent), Dv (rent.den * p) x := fun x hx => by
        obtain ⟨o, _, rfl⟩ := List.mem_map.mp hx
        exact price_dvY hp1 y rent o
      rw [eL]
      refine w_law_total (N := rent.den * p) (c := D.tup) N0 hdv (by omega) ?_ (.inr rfl)
      rw [price_sum hp1]
      refine dNe_same (EK.rat.ok (by decide) _) ?_
      try simp! only [↓reduceIte]
      refine w_come_to (N := rent.den * p) (fun z => by
        have := congrArg List.length z
        rw [List.length_map, List.length_range] at this
        simp at this
        omega) N0 hdv (by omega) (price_sum hp1 y rent) ?_
      try simp! only [dIsNot]
      refine ⟨by decide, ?_⟩
      rw [show (D.tup [D.int 0, D.int 1]) = frD 0 from rfl]
      refine w_prices T hp hd (rent := 0) (by decide) (fun _ y' hy' => ?_) (fun z => absurd hB z)
      have d0 : (0 : Rat).den * p = p := Nat.one_mul p
      have P' := price_dvY hp1 y' 0
      rw [d0] at P'
      have pv : ∀ j, j < p → ((List.range p).map fun j => frD (priceY p y' 0 j))[j]? = some (frD (priceY p y' 0 j)) := fun j hj => vrow_at hj _
      have eY : ((List.range p).map fun o => frD ((y' o : Rat) + shareR p y' 0)) = (List.range p).map fun j => frD (priceY p y' 0 j) := rfl
      rw [eY]
      have sum0 : ((List.range p).map fun i => priceY p y' 0 (d.getD i 0)).sum = 0 := by rw [deal_sum hp hd (priceY p y' 0), price_sum hp1]
      have pp : p * p ≤ 16 := Nat.mul_le_mul hp hp
      refine ⟨small (by rw [D0.len]; omega), lc_map (fun r => frD (priceY p y' 0 r)) (fun r hr k hk => ?_) ?_⟩
      · try simp! only [pv _ (D0.lt r hr)]
        exact hk
      rw [← deal_map hp hd fun r => frD (priceY p y' 0 r)]
      refine w_are_pays (P := fun i => priceY p y' 0 (d.getD i 0)) T hp1 (fun j => P' _) (by omega) sum0 ?_
      try simp! only [dIsNot]
      refine w_money_envy (P := fun i => priceY p y' 0 (d.getD i 0)) T hp hd hp1 (fun j => P' _) (by omega) sum0 (fun i o hi ho => rest_calm hy' 0 i (d.getD o 0) hi (dlt D0 ho)) ?_
      try simp! only [↓reduceIte]
      refine ⟨by decide, dNe_same (by decide +kernel) ?_⟩
      try simp! only [↓reduceIte]
      rw [show nats d = D.tup (d.map natI) from rfl]
      try simp! only [enum_deal D0]
      refine ⟨small (by rw [List.length_range]; omega), lc_map (fun i => frD (((W R i (d.getD i 0) : Int) : Rat) - priceY p y' 0 (d.getD i 0))) (fun i hi k hk => ?_) ?_⟩
      · have hi := List.mem_range.mp hi
        have di := dlt D0 hi
        try simp! only [row_get T hi, Wat T hi di, pv _ di, frD_int]
        have := (P' (d.getD i 0)).den hp1
        exact ⟨by decide, w_law_minus (by show 1 * _ < _; omega) hk⟩
      refine w_left_with (P := fun i => priceY p y' 0 (d.getD i 0)) T hp hd hp1 (fun j => P' _) (by omega) sum0 ?_
      try simp! only [↓reduceIte]
      refine w_left_for (P := priceY p y' 0) T hp D0 hp1 (by omega) P' ?_
      try simp! only [↓reduceIte]
      refine ⟨by decide, by decide, w_is 5 _ (sm_two _ _ (by rw [List.length_range]; omega)) ?_⟩
      try simp! only [↓reduceIte]
      exact hn _ ⟨_, _, _, _, _, _, _, _, _, _, _, _, _, rfl⟩
    · have ht : (roomS R p d == maxI (tops R p)) = false := by
        cases e : (roomS R p d == maxI (tops R p)) with
        | false => rfl
        | true => exact absurd ((best_top hp hd).mp e) hB
      refine w_prices T hp hd rd (fun z => absurd z hB) (fun _ => ?_)
      refine ⟨tn, ?_⟩
      rw [ht]
      refine hG2 _ (seq_hide fun G2 hG2 => ?_)
      try simp! only [v5]
      refine w_sum_of T D0 (w_is 5 _ rfl ?_)
      try simp! only [dIs, D.isNon, dEq_bl, dNe_bl]
      refine hG2 _ (seq_hide fun G2 hG2 => ?_)
      try simp! only [↓reduceIte]
      refine w_ring T hp hd (fun z => absurd z hB) (fun _ way => ?_)
      rw [show nats way = D.tup (way.map natI) from rfl]
      try simp! only [dIs, D.isNon, dEq_bl, dNe_bl]
      refine w_calm_pays T hp hd (fun z => absurd z hB) (fun _ => ?_)
      try simp! only [dIs, D.isNon, dEq_bl, dNe_bl]
      refine hG2 _ ?_
      clear hG2
      try simp! only [↓reduceIte]
      exact hn _ ⟨_, _, _, _, _, _, _, _, _, _, _, _, _, rfl⟩
  · obtain ⟨u7, u8, u9, u10, u11, u12, u13, u14, u15, u16, u17, u18, u19, rfl⟩ := hs
    refine hG _ (seq_hide fun G hG => ?_)
    try simp! only [↓reduceIte]
    refine draw_lit (k := 500) (by omega) (by omega) fun b hb => ?_
    try simp! only [↓reduceIte]
    refine draw_lit (k := 6) (by omega) (by omega) fun c hc => ?_
    try simp! only [↓reduceIte]
    rw [show (1 : Int) + (c : Int) = ((c + 1 : Nat) : Int) from by omega]
    refine w_law_cut (by omega) (by omega) ?_
    have rd : (mkRat (b : Int) (c + 1)).den ≤ 1000 := Nat.le_trans (mk_dvd _ (by omega)) (by omega)
    generalize mkRat (b : Int) (c + 1) = rent at rd
    refine hG _ (seq_hide fun G hG => ?_)
    try simp! only [↓reduceIte]
    refine w_calm_rents T hp rd fun d hb hd hB y hy => ?_
    rw [hc0] at hb
    cases hb
    try simp! only [↓reduceIte]
    refine hG _ ?_
    clear hG
    try simp! only [↓reduceIte]
    have dz := Nat.pos_of_ne_zero rent.den_nz
    have Nb : rent.den * p ≤ 1000 * 4 := Nat.mul_le_mul rd hp
    have N0 : 0 < rent.den * p := Nat.mul_pos dz hp1
    have NN := Nat.mul_le_mul Nb Nb
    refine w_best_dealing T hp ?_
    rw [hc0]
    try simp! only [bstD, atI_1]
    refine dEq_same (EK.nat.tup.ok (by decide) c0) ?_
    try simp! only [↓reduceIte]
    refine w_law_is_calm (P := priceY p y rent) (N := rent.den * p) T hp hd N0 (by omega) (price_dvY hp1 y rent) (rest_calm hy rent) ?_
    try simp! only [↓reduceIte]
    rw [show ((List.range p).map fun o => frD ((y o : Rat) + shareR p y rent)) = ((List.range p).map (priceY p y rent)).map frD from by rw [List.map_map]; rfl]
    refine w_law_total (N := rent.den * p) (c := D.tup) N0 (fun x hx => by
      obtain ⟨o, _, rfl⟩ := List.mem_map.mp hx
      exact price_dvY hp1 y rent o) (by omega) ?_ (.inr rfl)
    rw [price_sum hp1]
    exact dEq_same (EK.rat.ok (by decide) _) h
end K80
namespace K80
open PySem L2 Fd
variable {p t : Nat} {R : List (List Int)} {q : D → Prop} {qe : QE}
def R0 : List (List Int) := [[6, 2], [5, 4]]
theorem T0 : Tab 2 2 R0 := ⟨rfl, by decide, by decide, by decide, by decide, by decide⟩
theorem m01 : [0, 1] ∈ prm 2 2 := by decide +kernel
theorem m10 : [1, 0] ∈ prm 2 2 := by decide +kernel
theorem b01 : Best R0 2 [0, 1] := by unfold Best; decide +kernel
theorem b10 : ¬ Best R0 2 [1, 0] := by unfold Best; decide +kernel
theorem law_works : f_law ((List.replicate (1 + lawMore) .no).set lawSlot (.sh .hand)) ⟨fun _ => False, fun _ d => d = .bl true, fun _ => False, fun _ => False⟩ (fun _ => False) := by
  unfold f_law
  refine seq_hide fun G hG => ?_
  try simp! only [l_1, lawMore, lawSlot]
  repeat (with_reducible refine And.intro ?_ ?_; focus decreasing_trivial)
  refine w_Table (R := R0) T0 ?_
  rw [show (D.obj _ _) = tab 2 2 R0 from rfl]
  refine hG _ (seq_hide fun G hG => ?_)
  try simp! only [l_2]
  repeat (with_reducible refine And.intro ?_ ?_; focus decreasing_trivial)
  refine w_best_dealing T0 (by omega) ?_
  rw [show bstD (roomS R0 2) (bst (roomS R0 2) (prm 2 2)) = .tup [.int 10, nats [0, 1]] from rfl]
  try simp! only [↓reduceIte]
  repeat (with_reducible refine And.intro ?_ ?_; focus decreasing_trivial)
  refine w_sum_of (d := [1, 0]) T0 (prm_deal m10) ?_
  rw [show roomS R0 2 [1, 0] = 7 from by decide +kernel]
  try simp! only [↓reduceIte]
  repeat (with_reducible refine And.intro ?_ ?_; focus decreasing_trivial)
  refine w_prices (d := [1, 0]) (rent := ((3 : Int) : Rat)) T0 (by omega) m10 (by decide) (fun z => absurd z b10) (fun _ => ?_)
  refine ⟨by decide, w_ring (d := [0, 1]) T0 (by omega) m01 (fun _ => ?_) (fun z => absurd b01 z)⟩
  refine ⟨by decide, ?_⟩
  refine hG _ (seq_hide fun G hG => ?_)
  try simp! only [l_3]
  repeat (with_reducible refine And.intro ?_ ?_; focus decreasing_trivial)
  refine w_is 5 (.lst [.tup [.int 10, .tup [.int 0, .int 1]], .int 7, .non, .non]) rfl ?_
  try simp! only [↓reduceIte]
  repeat (with_reducible refine And.intro ?_ ?_; focus decreasing_trivial)
  rw [show (D.tup [D.int 1, D.int 0]) = nats (inv 2 [1, 0]) from rfl]
  refine w_calm_pays (d := [1, 0]) T0 (by omega) m10 (fun z => absurd z b10) (fun _ => ?_)
  try simp! only [dIsNot, D.isNon]
  repeat (with_reducible refine And.intro ?_ ?_; focus decreasing_trivial)
  refine hG _ ?_
  clear hG G
  try simp! only [rgD_3]
  repeat (with_reducible refine And.intro ?_ ?_; focus decreasing_trivial)
  refine lc_map (xs := List.range 3) (fun _ => .bl true) (fun j hj k hk => ?_) ?_
  · try simp! only [↓reduceIte]
    refine w_right ?_
    exact hk
  rw [dAll_map (fun _ => true), List.all_eq_true.mpr (fun _ _ => rfl)]
end K80
set_option maxHeartbeats 0
namespace K80
open PySem PySem.Spec L2 Fd
def d0 : He.DefD := ⟨("is_integer", none), "is_integer", "is_integer", defArgs (top 8), defBody (top 8), defScope (top 8), [], []⟩
def d1 : He.DefD := ⟨("is_within", none), "is_within", "is_within", defArgs (top 9), defBody (top 9), defScope (top 9), [], []⟩
def d2 : He.DefD := ⟨("is_row", none), "is_row", "is_row", defArgs (top 10), defBody (top 10), defScope (top 10), [], []⟩
def d3 : He.DefD := ⟨("common_divisor", none), "common_divisor", "common_divisor", defArgs (top 11), defBody (top 11), defScope (top 11), [], []⟩
def d4 : He.DefD := ⟨("fraction", none), "fraction", "fraction", defArgs (top 12), defBody (top 12), defScope (top 12), [], []⟩
def d5 : He.DefD := ⟨("is_fraction", none), "is_fraction", "is_fraction", defArgs (top 13), defBody (top 13), defScope (top 13), [], []⟩
def d6 : He.DefD := ⟨("plus", none), "plus", "plus", defArgs (top 14), defBody (top 14), defScope (top 14), [], []⟩
def d7 : He.DefD := ⟨("minus", none), "minus", "minus", defArgs (top 15), defBody (top 15), defScope (top 15), [], []⟩
def d8 : He.DefD := ⟨("less", none), "less", "less", defArgs (top 16), defBody (top 16), defScope (top 16), [], []⟩
def d9 : He.DefD := ⟨("total", none), "total", "total", defArgs (top 17), defBody (top 17), defScope (top 17), [], []⟩
def d10 : He.DefD := ⟨("Table", some "__init__"), "__init__", "Table.__init__", defArgs (inClass (top 22) 0), defBody (inClass (top 22) 0), defScope (inClass (top 22) 0), [], []⟩
def d11 : He.DefD := ⟨("is_deal", none), "is_deal", "is_deal", defArgs (top 23), defBody (top 23), defScope (top 23), [], []⟩
def d12 : He.DefD := ⟨("check_rooms", none), "check_rooms", "check_rooms", defArgs (top 25), defBody (top 25), defScope (top 25), [], []⟩
def d13 : He.DefD := ⟨("check_rent", none), "check_rent", "check_rent", defArgs (top 26), defBody (top 26), defScope (top 26), [], []⟩
def d14 : He.DefD := ⟨("dealings", none), "dealings", "dealings", defArgs (top 27), defBody (top 27), defScope (top 27), [], []⟩
def d15 : He.DefD := ⟨("is_dealing", none), "is_dealing", "is_dealing", defArgs (top 28), defBody (top 28), defScope (top 28), [], []⟩
def d16 : He.DefD := ⟨("sum_of", none), "sum_of", "sum_of", defArgs (top 29), defBody (top 29), defScope (top 29), [], []⟩
def d17 : He.DefD := ⟨("best_dealing", none), "best_dealing", "best_dealing", defArgs (top 30), defBody (top 30), defScope (top 30), [], []⟩
def d18 : He.DefD := ⟨("lifts", none), "lifts", "lifts", defArgs (top 31), defBody (top 31), defScope (top 31), [], []⟩
def d19 : He.DefD := ⟨("prices", none), "prices", "prices", defArgs (top 32), defBody (top 32), defScope (top 32), [], []⟩
def d20 : He.DefD := ⟨("calm_rents", none), "calm_rents", "calm_rents", defArgs (top 33), defBody (top 33), defScope (top 33), [], []⟩
def d21 : He.DefD := ⟨("left_for", none), "left_for", "left_for", defArgs (top 34), defBody (top 34), defScope (top 34), [], []⟩
def d22 : He.DefD := ⟨("ring", none), "ring", "ring", defArgs (top 35), defBody (top 35), defScope (top 35), [], []⟩
def d23 : He.DefD := ⟨("come_to", none), "come_to", "come_to", defArgs (top 36), defBody (top 36), defScope (top 36), [], []⟩
def d24 : He.DefD := ⟨("are_pays", none), "are_pays", "are_pays", defArgs (top 38), defBody (top 38), defScope (top 38), [], []⟩
def d25 : He.DefD := ⟨("left_with", none), "left_with", "left_with", defArgs (top 39), defBody (top 39), defScope (top 39), [], []⟩
def d26 : He.DefD := ⟨("money_envy", none), "money_envy", "money_envy", defArgs (top 40), defBody (top 40), defScope (top 40), [], []⟩
def d27 : He.DefD := ⟨("calm_pays", none), "calm_pays", "calm_pays", defArgs (top 41), defBody (top 41), defScope (top 41), [], []⟩
def d28 : He.DefD := ⟨("_law_hand", none), "_law_hand", "_law_hand", defArgs (top 43), defBody (top 43), defScope (top 43), [], []⟩
def d29 : He.DefD := ⟨("_law_draw", none), "_law_draw", "_law_draw", defArgs (top 44), defBody (top 44), defScope (top 44), [], []⟩
def d30 : He.DefD := ⟨("_law_some", none), "_law_some", "_law_some", defArgs (top 45), defBody (top 45), defScope (top 45), [], []⟩
def d31 : He.DefD := ⟨("_law_is", none), "_law_is", "_law_is", defArgs (top 46), defBody (top 46), defScope (top 46), [], []⟩
def d32 : He.DefD := ⟨("_law_cut", none), "_law_cut", "_law_cut", defArgs (top 47), defBody (top 47), defScope (top 47), [], []⟩
def d33 : He.DefD := ⟨("_law_plus", none), "_law_plus", "_law_plus", defArgs (top 48), defBody (top 48), defScope (top 48), [], []⟩
def d34 : He.DefD := ⟨("_law_minus", none), "_law_minus", "_law_minus", defArgs (top 49), defBody (top 49), defScope (top 49), [], []⟩
def d35 : He.DefD := ⟨("_law_less", none), "_law_less", "_law_less", defArgs (top 50), defBody (top 50), defScope (top 50), [], []⟩
def d36 : He.DefD := ⟨("_law_total", none), "_law_total", "_law_total", defArgs (top 51), defBody (top 51), defScope (top 51), [], []⟩
def d37 : He.DefD := ⟨("_law_rows", none), "_law_rows", "_law_rows", defArgs (top 52), defBody (top 52), defScope (top 52), [], []⟩
def d38 : He.DefD := ⟨("_law_orders", none), "_law_orders", "_law_orders", defArgs (top 53), defBody (top 53), defScope (top 53), [], []⟩
def d39 : He.DefD := ⟨("_law_is_calm", none), "_law_is_calm", "_law_is_calm", defArgs (top 54), defBody (top 54), defScope (top 54), [], []⟩
def d40 : He.DefD := ⟨("_law_is_right", none), "_law_is_right", "_law_is_right", defArgs (top 55), defBody (top 55), defScope (top 55), [], []⟩
def d41 : He.DefD := ⟨("law", none), "law", "law", defArgs (top 56), defBody (top 56), defScope (top 56), [], []⟩
def fn : List He.DefD := [d0, d1, d2, d3, d4, d5, d6, d7, d8, d9, d10, d11, d12, d13, d14, d15, d16, d17, d18, d19] ++ [d20, d21, d22, d23, d24, d25, d26, d27, d28, d29, d30, d31, d32, d33, d34, d35, d36, d37, d38, d39] ++ [d40, d41]
def fa : List He.Fa := [.glo "is_integer", .glo "is_within", .glo "is_row", .glo "common_divisor", .glo "fraction", .glo "is_fraction", .glo "plus", .glo "minus", .glo "less", .glo "total", .glo "Table", .mkr "Table", .glo "is_deal", .glo "check_rooms", .glo "check_rent", .glo "dealings", .glo "is_dealing", .glo "sum_of", .glo "best_dealing", .glo "lifts"] ++ [.glo "prices", .glo "calm_rents", .glo "left_for", .glo "ring", .glo "come_to", .glo "are_pays", .glo "left_with", .glo "money_envy", .glo "calm_pays", .glo "_law_hand", .glo "_law_draw", .glo "_law_some", .glo "_law_is", .glo "_law_cut", .glo "_law_plus", .glo "_law_minus", .glo "_law_less", .glo "_law_total", .glo "_law_rows", .glo "_law_orders"] ++ [.glo "_law_is_calm", .glo "_law_is_right", .glo "law", .int "MOST_PERSONS" (5), .int "MOST_THINGS" (9), .int "MOST_WORTH" (100), .free "abs", .free "all", .free "bool", .free "enumerate", .free "int", .free "isinstance", .free "len", .free "list", .free "max", .free "min", .free "range", .free "sorted", .free "str", .free "sum"] ++ [.free "tuple", .free "zip", .free "super", .cls "Table", .noat "Table" "persons", .noat "Table" "rows", .noat "Table" "things"]
def ex_DealError : ExD := ⟨"DealError", defArgs (inClass (top 1) 0), defBody (inClass (top 1) 0), defScope (inClass (top 1) 0)⟩
def ex_NoFraction : ExD := ⟨"NoFraction", defArgs (inClass (top 2) 0), defBody (inClass (top 2) 0), defScope (inClass (top 2) 0)⟩
def ex_BadTable : ExD := ⟨"BadTable", defArgs (inClass (top 3) 0), defBody (inClass (top 3) 0), defScope (inClass (top 3) 0)⟩
def ex_NoRooms : ExD := ⟨"NoRooms", defArgs (inClass (top 4) 0), defBody (inClass (top 4) 0), defScope (inClass (top 4) 0)⟩
def ex_NoBids : ExD := ⟨"NoBids", defArgs (inClass (top 5) 0), defBody (inClass (top 5) 0), defScope (inClass (top 5) 0)⟩
def xs : List ExD := [ex_DealError, ex_NoFraction, ex_BadTable, ex_NoRooms, ex_NoBids]
def ups : List (Str × Str) := [("NoFraction", "DealError"), ("BadTable", "DealError"), ("NoRooms", "DealError"), ("NoBids", "DealError")]
def bs : List Look1 := [lkNo "BadTable" "word", lkNo "BadTable" "place", lkNo "NoBids" "word", lkNo "NoFraction" "word", lkNo "NoRooms" "word", lkGl "ZERO", lkTup "ZERO" [(0), (1)], lkTab (LDQ.map (·.1))]
def loose0 : List Str := [("__name__" : Str), ("DealError" : Str), ("NoFraction" : Str), ("BadTable" : Str), ("NoRooms" : Str), ("NoBids" : Str), ("ZERO" : Str), ("is_integer" : Str), ("is_within" : Str), ("is_row" : Str), ("common_divisor" : Str), ("fraction" : Str), ("is_fraction" : Str), ("plus" : Str), ("minus" : Str), ("less" : Str), ("total" : Str), ("MOST_PERSONS" : Str), ("MOST_THINGS" : Str), ("MOST_WORTH" : Str)]
def loose1 : List Str := [("Table" : Str), ("is_deal" : Str), ("check_rooms" : Str), ("check_rent" : Str), ("dealings" : Str), ("is_dealing" : Str), ("sum_of" : Str), ("best_dealing" : Str), ("lifts" : Str), ("prices" : Str), ("calm_rents" : Str), ("left_for" : Str), ("ring" : Str), ("come_to" : Str), ("are_pays" : Str), ("left_with" : Str), ("money_envy" : Str), ("calm_pays" : Str), ("_law_hand" : Str), ("_law_draw" : Str)]
def loose2 : List Str := [("_law_some" : Str), ("_law_is" : Str), ("_law_cut" : Str), ("_law_plus" : Str), ("_law_minus" : Str), ("_law_less" : Str), ("_law_total" : Str), ("_law_rows" : Str), ("_law_orders" : Str), ("_law_is_calm" : Str), ("_law_is_right" : Str)]
def loose : List Str := loose0 ++ loose1 ++ loose2
abbrev R : PySem.W.OpenRow := PySem.W.OpenLaw.row PySem.Challenge.rw_fairdeals_k80_whole_rents_and_pays
abbrev hk : PySem.W.Hook := hookB (PySem.Challenge.rw_fairdeals_k80_whole_rents_and_pays).prog 5 fa fn xs ups bs
def ob (s : PySem.W.SharedT) : AlS := obsB (PySem.Challenge.rw_fairdeals_k80_whole_rents_and_pays).prog 5 fa fn xs ups bs (HandSHeadRun.getT s)
theorem ob_eq (s : PySem.W.SharedT) : ob s = hk.obs s.abs := obsB_eq (HandSHeadRun.getT_eq s)
theorem run (w : World) : HandSHeadRun.RunEq R (PySem.W.view R.prog [56]) hk ob 6000 loose w := by
  intro os
  kernel_rfl
theorem txt_of {K : PySem.W.Frag} {h : Heap} {mg : Str → Option Value} (X : K.In h) (G : h.Ns mainGlobals mg) (c : SaysB (PySem.Challenge.rw_fairdeals_k80_whole_rents_and_pays).prog fa fn xs ups bs K) : Txt K mg := by
  refine ⟨c.s.d.def_ 0 (d := d0) rfl,
    He.glo_ok X G (c.s.d.fact 0 rfl),
    c.s.d.def_ 1 (d := d1) rfl,
    He.glo_ok X G (c.s.d.fact 1 rfl),
    c.s.d.def_ 2 (d := d2) rfl,
    He.glo_ok X G (c.s.d.fact 2 rfl),
    c.s.d.def_ 3 (d := d3) rfl,
    He.glo_ok X G (c.s.d.fact 3 rfl),
    c.s.d.def_ 4 (d := d4) rfl,
    He.glo_ok X G (c.s.d.fact 4 rfl),
    c.s.d.def_ 5 (d := d5) rfl,
    He.glo_ok X G (c.s.d.fact 5 rfl),
    c.s.d.def_ 6 (d := d6) rfl,
    He.glo_ok X G (c.s.d.fact 6 rfl),
    c.s.d.def_ 7 (d := d7) rfl,
    He.glo_ok X G (c.s.d.fact 7 rfl),
    c.s.d.def_ 8 (d := d8) rfl,
    He.glo_ok X G (c.s.d.fact 8 rfl),
    c.s.d.def_ 9 (d := d9) rfl,
    He.glo_ok X G (c.s.d.fact 9 rfl),
    c.s.d.def_ 10 (d := d10) rfl,
    He.glo_ok X G (c.s.d.fact 10 rfl),
    He.mkr_ok (c.s.d.fact 11 rfl),
    c.s.d.def_ 11 (d := d11) rfl,
    He.glo_ok X G (c.s.d.fact 12 rfl),
    c.s.d.def_ 12 (d := d12) rfl,
    He.glo_ok X G (c.s.d.fact 13 rfl),
    c.s.d.def_ 13 (d := d13) rfl,
    He.glo_ok X G (c.s.d.fact 14 rfl),
    c.s.d.def_ 14 (d := d14) rfl,
    He.glo_ok X G (c.s.d.fact 15 rfl),
    c.s.d.def_ 15 (d := d15) rfl,
    He.glo_ok X G (c.s.d.fact 16 rfl),
    c.s.d.def_ 16 (d := d16) rfl,
    He.glo_ok X G (c.s.d.fact 17 rfl),
    c.s.d.def_ 17 (d := d17) rfl,
    He.glo_ok X G (c.s.d.fact 18 rfl),
    c.s.d.def_ 18 (d := d18) rfl,
    He.glo_ok X G (c.s.d.fact 19 rfl),
    c.s.d.def_ 19 (d := d19) rfl,
    He.glo_ok X G (c.s.d.fact 20 rfl),
    c.s.d.def_ 20 (d := d20) rfl,
    He.glo_ok X G (c.s.d.fact 21 rfl),
    c.s.d.def_ 21 (d := d21) rfl,
    He.glo_ok X G (c.s.d.fact 22 rfl),
    c.s.d.def_ 22 (d := d22) rfl,
    He.glo_ok X G (c.s.d.fact 23 rfl),
    c.s.d.def_ 23 (d := d23) rfl,
    He.glo_ok X G (c.s.d.fact 24 rfl),
    c.s.d.def_ 24 (d := d24) rfl,
    He.glo_ok X G (c.s.d.fact 25 rfl),
    c.s.d.def_ 25 (d := d25) rfl,
    He.glo_ok X G (c.s.d.fact 26 rfl),
    c.s.d.def_ 26 (d := d26) rfl,
    He.glo_ok X G (c.s.d.fact 27 rfl),
    c.s.d.def_ 27 (d := d27) rfl,
    He.glo_ok X G (c.s.d.fact 28 rfl),
    c.s.d.def_ 28 (d := d28) rfl,
    He.glo_ok X G (c.s.d.fact 29 rfl),
    c.s.d.def_ 29 (d := d29) rfl,
    He.glo_ok X G (c.s.d.fact 30 rfl),
    c.s.d.def_ 30 (d := d30) rfl,
    He.glo_ok X G (c.s.d.fact 31 rfl),
    c.s.d.def_ 31 (d := d31) rfl,
    He.glo_ok X G (c.s.d.fact 32 rfl),
    c.s.d.def_ 32 (d := d32) rfl,
    He.glo_ok X G (c.s.d.fact 33 rfl),
    c.s.d.def_ 33 (d := d33) rfl,
    He.glo_ok X G (c.s.d.fact 34 rfl),
    c.s.d.def_ 34 (d := d34) rfl,
    He.glo_ok X G (c.s.d.fact 35 rfl),
    c.s.d.def_ 35 (d := d35) rfl,
    He.glo_ok X G (c.s.d.fact 36 rfl),
    c.s.d.def_ 36 (d := d36) rfl,
    He.glo_ok X G (c.s.d.fact 37 rfl),
    c.s.d.def_ 37 (d := d37) rfl,
    He.glo_ok X G (c.s.d.fact 38 rfl),
    c.s.d.def_ 38 (d := d38) rfl,
    He.glo_ok X G (c.s.d.fact 39 rfl),
    c.s.d.def_ 39 (d := d39) rfl,
    He.glo_ok X G (c.s.d.fact 40 rfl),
    c.s.d.def_ 40 (d := d40) rfl,
    He.glo_ok X G (c.s.d.fact 41 rfl),
    c.s.d.def_ 41 (d := d41) rfl,
    He.glo_ok X G (c.s.d.fact 42 rfl),
    He.int_ok X G (c.s.d.fact 43 rfl),
    He.int_ok X G (c.s.d.fact 44 rfl),
    He.int_ok X G (c.s.d.fact 45 rfl),
    He.free_ok X G (c.s.d.fact 46 rfl),
    He.free_ok X G (c.s.d.fact 47 rfl),
    He.free_ok X G (c.s.d.fact 48 rfl),
    He.free_ok X G (c.s.d.fact 49 rfl),
    He.free_ok X G (c.s.d.fact 50 rfl),
    He.free_ok X G (c.s.d.fact 51 rfl),
    He.free_ok X G (c.s.d.fact 52 rfl),
    He.free_ok X G (c.s.d.fact 53 rfl),
    He.free_ok X G (c.s.d.fact 54 rfl),
    He.free_ok X G (c.s.d.fact 55 rfl),
    He.free_ok X G (c.s.d.fact 56 rfl),
    He.free_ok X G (c.s.d.fact 57 rfl),
    He.free_ok X G (c.s.d.fact 58 rfl),
    He.free_ok X G (c.s.d.fact 59 rfl),
    He.free_ok X G (c.s.d.fact 60 rfl),
    He.free_ok X G (c.s.d.fact 61 rfl),
    He.free_ok X G (c.s.d.fact 62 rfl),
    (fun w base => exm_own1 (d := ex_BadTable) (b := ex_DealError) c.s X G (List.mem_of_getElem? (i := 2) rfl) (List.mem_of_getElem? (i := 0) rfl) (List.mem_of_getElem? (i := 1) rfl) (by rfl) (NdefX.nscope_by (by decide +kernel)) (He.free_ok X G (c.s.d.fact 62 rfl)) (by decide +kernel) (by rfl) ⟨_, rfl, rfl⟩ (no_ok (c.b _ (List.mem_of_getElem? (i := 1) rfl))) (fun env => ⟨_, rfl⟩) (by decide) (by decide) (fun _ _ _ _ _ _ _ us hl => match us, hl with | [_, _], _ => rfl) (base_init c.s X G (List.mem_of_getElem? (i := 2) rfl) (List.mem_of_getElem? (i := 0) rfl) (List.mem_of_getElem? (i := 1) rfl) (by rfl) (NdefX.nscope_by (by decide +kernel)) (He.free_ok X G (c.s.d.fact 62 rfl)) (by decide +kernel) (by rfl) ⟨_, rfl, rfl⟩ (no_ok (c.b _ (List.mem_of_getElem? (i := 0) rfl))) (fun env => ⟨_, rfl⟩) (fun _ _ _ _ _ _ _ us hl => match us, hl with | [_, _], _ => rfl))),
    (fun w base => exm_own0 (d := ex_NoBids) (b := ex_DealError) c.s X G (List.mem_of_getElem? (i := 4) rfl) (List.mem_of_getElem? (i := 0) rfl) (List.mem_of_getElem? (i := 3) rfl) (by rfl) (NdefX.nscope_by (by decide +kernel)) (He.free_ok X G (c.s.d.fact 62 rfl)) (by decide +kernel) (by rfl) ⟨_, rfl, rfl⟩ (fun env => ⟨_, rfl⟩) (fun _ _ _ _ _ _ _ us hl => match us, hl with | [_], _ => rfl) (base_init c.s X G (List.mem_of_getElem? (i := 4) rfl) (List.mem_of_getElem? (i := 0) rfl) (List.mem_of_getElem? (i := 3) rfl) (by rfl) (NdefX.nscope_by (by decide +kernel)) (He.free_ok X G (c.s.d.fact 62 rfl)) (by decide +kernel) (by rfl) ⟨_, rfl, rfl⟩ (no_ok (c.b _ (List.mem_of_getElem? (i := 2) rfl))) (fun env => ⟨_, rfl⟩) (fun _ _ _ _ _ _ _ us hl => match us, hl with | [_, _], _ => rfl))),
    (fun w base => exm_own0 (d := ex_NoFraction) (b := ex_DealError) c.s X G (List.mem_of_getElem? (i := 1) rfl) (List.mem_of_getElem? (i := 0) rfl) (List.mem_of_getElem? (i := 0) rfl) (by rfl) (NdefX.nscope_by (by decide +kernel)) (He.free_ok X G (c.s.d.fact 62 rfl)) (by decide +kernel) (by rfl) ⟨_, rfl, rfl⟩ (fun env => ⟨_, rfl⟩) (fun _ _ _ _ _ _ _ us hl => match us, hl with | [_], _ => rfl) (base_init c.s X G (List.mem_of_getElem? (i := 1) rfl) (List.mem_of_getElem? (i := 0) rfl) (List.mem_of_getElem? (i := 0) rfl) (by rfl) (NdefX.nscope_by (by decide +kernel)) (He.free_ok X G (c.s.d.fact 62 rfl)) (by decide +kernel) (by rfl) ⟨_, rfl, rfl⟩ (no_ok (c.b _ (List.mem_of_getElem? (i := 3) rfl))) (fun env => ⟨_, rfl⟩) (fun _ _ _ _ _ _ _ us hl => match us, hl with | [_, _], _ => rfl))),
    (fun w base => exm_own0 (d := ex_NoRooms) (b := ex_DealError) c.s X G (List.mem_of_getElem? (i := 3) rfl) (List.mem_of_getElem? (i := 0) rfl) (List.mem_of_getElem? (i := 2) rfl) (by rfl) (NdefX.nscope_by (by decide +kernel)) (He.free_ok X G (c.s.d.fact 62 rfl)) (by decide +kernel) (by rfl) ⟨_, rfl, rfl⟩ (fun env => ⟨_, rfl⟩) (fun _ _ _ _ _ _ _ us hl => match us, hl with | [_], _ => rfl) (base_init c.s X G (List.mem_of_getElem? (i := 3) rfl) (List.mem_of_getElem? (i := 0) rfl) (List.mem_of_getElem? (i := 2) rfl) (by rfl) (NdefX.nscope_by (by decide +kernel)) (He.free_ok X G (c.s.d.fact 62 rfl)) (by decide +kernel) (by rfl) ⟨_, rfl, rfl⟩ (no_ok (c.b _ (List.mem_of_getElem? (i := 4) rfl))) (fun env => ⟨_, rfl⟩) (fun _ _ _ _ _ _ _ us hl => match us, hl with | [_, _], _ => rfl))),
    gl_ok (c.b _ (List.mem_of_getElem? (i := 5) rfl)) X G,
    tup_ok (c.b _ (List.mem_of_getElem? (i := 6) rfl)),
    (fun c' hc => by
      simp only [List.mem_cons, List.not_mem_nil, or_false] at hc
      subst hc
      exact ⟨He.cls_ok (c.s.d.fact 63 rfl), He.noat_ok (c.s.d.fact 64 rfl)⟩),
    (fun c' hc => by
      simp only [List.mem_cons, List.not_mem_nil, or_false] at hc
      subst hc
      exact ⟨He.cls_ok (c.s.d.fact 63 rfl), He.noat_ok (c.s.d.fact 64 rfl)⟩),
    (fun c' hc => by
      simp only [List.mem_cons, List.not_mem_nil, or_false] at hc
      subst hc
      exact ⟨He.cls_ok (c.s.d.fact 63 rfl), He.noat_ok (c.s.d.fact 65 rfl)⟩),
    (fun c' hc => by
      simp only [List.mem_cons, List.not_mem_nil, or_false] at hc
      subst hc
      exact ⟨He.cls_ok (c.s.d.fact 63 rfl), He.noat_ok (c.s.d.fact 65 rfl)⟩),
    (fun c' hc => by
      simp only [List.mem_cons, List.not_mem_nil, or_false] at hc
      subst hc
      exact ⟨He.cls_ok (c.s.d.fact 63 rfl), He.noat_ok (c.s.d.fact 66 rfl)⟩),
    (fun c' hc => by
      simp only [List.mem_cons, List.not_mem_nil, or_false] at hc
      subst hc
      exact ⟨He.cls_ok (c.s.d.fact 63 rfl), He.noat_ok (c.s.d.fact 66 rfl)⟩)⟩
abbrev csL (K : PySem.W.Frag) : List (Addr × Addr) := LDQ.map fun x => tbP K x.1
end K80
open PySem PySem.W PySem.Calls PyProof.Rows
theorem PySem.Challenge.cw_fairdeals_k80_whole_rents_and_pays_holds : PySem.Challenge.rw_fairdeals_k80_whole_rents_and_pays.Holds := by
  w_on; o_law
  refine HandSHeadRun.head_any (r := OpenLaw.row PySem.Challenge.rw_fairdeals_k80_whole_rents_and_pays) (q := view (OpenLaw.row PySem.Challenge.rw_fairdeals_k80_whole_rents_and_pays).prog [56]) (H := K80.hk) (ob := K80.ob) (M := 6000) (loose := K80.loose) (d := HandSHeadRun.topDef (OpenLaw.row PySem.Challenge.rw_fairdeals_k80_whole_rents_and_pays).prog 56) (kwd := []) K80.ob_eq
    (by kernel_rfl) (fun s => by kernel_rfl) K80.run (by kernel_rfl) (by kernel_rfl) (by kernel_rfl) (by rfl) (by first | assumption | decide +kernel) (by decide +kernel) ⟨rfl, rfl, rfl, rfl, rfl, by decide +kernel⟩ ?hw ?hc
  case hw => w_witness2
  case hc =>
    refine Fd.walk_tab (l := PySem.Challenge.rw_fairdeals_k80_whole_rents_and_pays) (n := 63) (k := 11) (x := "script") (CX := fun _ => L2.CX0) (K80.LDQ.map (·.1)) rfl (by decide) (by kernel_rfl) ⟨rfl, by decide, by decide⟩ (by kernel_rfl) ?F (fun _ _ _ _ _ z => z)
    intro w mg fa h Y G hmg0 tf
    obtain ⟨K, KX, c⟩ := Y
    have T := K80.txt_of KX G c
    have hmg : mg ("law" : PySem.Str) = some (.ref fa) := by
      have e : (HandSHeadRun.topDef (OpenLaw.row PySem.Challenge.rw_fairdeals_k80_whole_rents_and_pays).prog 56).name = ("law" : PySem.Str) := by kernel_rfl
      rw [← e]
      exact hmg0
    have e := hmg.symm.trans T.g_law
    cases e
    have lt := c.b _ (List.mem_of_getElem? (i := 7) rfl)
    have al := fun (x : PySem.Str) (hx : x ∈ K80.LDQ.map (·.1)) => Fd.tab_look KX G (He.ba (List.all_eq_true.mp lt x hx)).1 (tf x hx)
    obtain ⟨fd, F⟩ := T.f_law
    have b := L2.FunD.bindsA (ps := ["script"]) F fun _ _ _ _ _ _ us hl => match us, hl with | [_], _ => rfl
    refine ⟨K, KX, fd, K80.LDQ.map fun x => Fd.tbP K x.1, Fd.spLaw K (Fd.tabL K K80.LDQ), fun p hp => ?_, fun p hp => ?_, fun p hp => ?_, fun s v => b s [v] rfl, fun H a ns hl _ hT hS => ⟨a, ns, rfl, hl, hS, fun q hq => ?_, fun _ => rfl⟩, fun base _ _ hTB => ?_⟩
    · obtain ⟨x, hx, rfl⟩ := List.mem_map.mp hp
      exact (al x.1 (List.mem_map.mpr ⟨x, hx, rfl⟩)).2.1
    · obtain ⟨x, hx, rfl⟩ := List.mem_map.mp hp
      exact Fd.nt_tab KX c.nt (al x.1 (List.mem_map.mpr ⟨x, hx, rfl⟩)).2.1
    · obtain ⟨x, hx, rfl⟩ := List.mem_map.mp hp
      exact (al x.1 (List.mem_map.mpr ⟨x, hx, rfl⟩)).1
    · obtain ⟨x, hx, rfl⟩ := List.mem_map.mp hq
      exact LamX.TabS.nil (hT _ (List.mem_map.mpr ⟨x, hx, rfl⟩))
    obtain ⟨fd2, F2, ok⟩ := K80.c_law (w := w) (base := base) T ⟨hTB _ (List.mem_map.mpr ⟨_, List.mem_of_getElem? (i := 0) rfl, rfl⟩), fun fd F => Fd.code_of KX T.g_law (al _ (List.mem_map.mpr ⟨_, List.mem_of_getElem? (i := 0) rfl, rfl⟩)).2.2 fd F, lt⟩ K80.hand_works K80.law_works
    obtain ⟨_, _, _, _, _, _, _, _, _, _, _, k1, _⟩ := F.ex
    obtain ⟨_, _, _, _, _, _, _, _, _, _, _, k2, _⟩ := F2.ex
    rw [k1] at k2
    cases k2
    exact ok
