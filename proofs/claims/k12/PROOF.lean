import PyProof.Rows.All
import Wide.All
import OpenK.AllK
import Wide.FinOn
import HandS.ForMost
import HandS.IsInst
import HandS.TupAny
import HandS.TupMul
import HandS.TupLe
import HandS.Flow
import HandS.Style
import HandS.Zip
import HandS.SetFor
import HandS.HeadHook1
import HandS.Conv
import HandS.Codes
import KE.GoesMore
import KE.GoesZip
import HandS.Zip0
import HandS.Words
import HandS.WordsExc
import HandS.Defaults
import HandS.HeadEnd
import PySem.Challenge.RW_fairdeals_k12_whole_shares_by_pairs_and
import KE.KStateDown
import Lean
import HandS.Ends
import HandS.More
import HandS.Head0
import HandS.Head1
import HandS.Head2
import HandS.HeadHook2
set_option Elab.async false
set_option linter.all false
set_option maxRecDepth 100000
set_option autoImplicit false
/-! Fd: a functional reading of a def. Values are trees (D); what a def does is a function over trees (M); each rule here says that a reading of the hand layer follows from the functional one. -/
namespace Fd
open PySem PySem.Spec PyProof.Rows L2

/-- a value as a tree -/
inductive D where
  | non | bl (b : Bool) | int (i : Int) | str (s : Str) | tup (xs : List D) | lst (xs : List D) | dct (kvs : List (Key × D)) | obj (c : Str) (fs : List (Str × D)) | hand | scr (ns : List Int)

abbrev Hd := Option Addr
/-! v stands for the tree d in the heap H -/
mutual
inductive Rep (K : PySem.W.Frag) (a : Hd) (H : Hp) : D → V → Prop
  | non : Rep K a H .non .non
  | bl (b : Bool) : Rep K a H (.bl b) (.bl b)
  | int (i : Int) : Rep K a H (.int i) (.int i)
  | str (s : Str) : Rep K a H (.str s) (.str s)
  | tup {p : Addr} {vs : List V} {ds : List D} : SqT K H p vs → RepL K a H ds vs → Rep K a H (.tup ds) (.ref p)
  | lst {p : Addr} {vs : List V} {ds : List D} : H p = some (.lst vs) → RepL K a H ds vs → Rep K a H (.lst ds) (.ref p)
  | dct {p : Addr} {kvs : List (Key × V)} {ds : List (Key × D)} : H p = some (.dK kvs) → RepK K a H ds kvs → Rep K a H (.dct ds) (.ref p)
  | obj {p dx : Addr} {c : Str} {fs : List (Str × V)} {ds : List (Str × D)} : H p = some (.ins (He.ga K c) dx fs) → H dx = some (.own p) → RepF K a H ds fs → Rep K a H (.obj c ds) (.ref p)
  | hand {p : Addr} : a = some p → Rep K a H .hand (.ref p)
  | scr {p : Addr} {ns : List Int} : SqL K H p (ns.map V.int) → Rep K a H (.scr ns) (.ref p)
inductive RepL (K : PySem.W.Frag) (a : Hd) (H : Hp) : List D → List V → Prop
  | nil : RepL K a H [] []
  | cons {d : D} {v : V} {ds : List D} {vs : List V} : Rep K a H d v → RepL K a H ds vs → RepL K a H (d :: ds) (v :: vs)
inductive RepK (K : PySem.W.Frag) (a : Hd) (H : Hp) : List (Key × D) → List (Key × V) → Prop
  | nil : RepK K a H [] []
  | cons {k : Key} {d : D} {v : V} {ds : List (Key × D)} {vs : List (Key × V)} : Rep K a H d v → RepK K a H ds vs → RepK K a H ((k, d) :: ds) ((k, v) :: vs)
inductive RepF (K : PySem.W.Frag) (a : Hd) (H : Hp) : List (Str × D) → List (Str × V) → Prop
  | nil : RepF K a H [] []
  | cons {k : Str} {d : D} {v : V} {ds : List (Str × D)} {vs : List (Str × V)} : Rep K a H d v → RepF K a H ds vs → RepF K a H ((k, d) :: ds) ((k, v) :: vs)
end

theorem same_sqT {K : PySem.W.Frag} {H H' : Hp} {p : Addr} {vs : List V} (s : Same H H') (h : SqT K H p vs) : SqT K H' p vs := by
  rcases h with (h | ⟨o, h⟩) | h
  · exact .inl (.inl (s _ _ h))
  · exact .inl (.inr ⟨o, s _ _ h⟩)
  · exact .inr h
section
variable {K : PySem.W.Frag} {a : Hd} {H H' : Hp}
mutual
theorem Rep.mono (s : Same H H') : ∀ {d : D} {v : V}, Rep K a H d v → Rep K a H' d v
  | _, _, .non => .non
  | _, _, .bl b => .bl b
  | _, _, .int i => .int i
  | _, _, .str z => .str z
  | _, _, .tup h r => .tup (same_sqT s h) (RepL.mono s r)
  | _, _, .lst h r => .lst (s _ _ h) (RepL.mono s r)
  | _, _, .dct h r => .dct (s _ _ h) (RepK.mono s r)
  | _, _, .obj h h2 r => .obj (s _ _ h) (s _ _ h2) (RepF.mono s r)
  | _, _, .hand h => .hand h
  | _, _, .scr h => .scr (s.seq h)
theorem RepL.mono (s : Same H H') : ∀ {d : List D} {v : List V}, RepL K a H d v → RepL K a H' d v
  | _, _, .nil => .nil
  | _, _, .cons h r => .cons (Rep.mono s h) (RepL.mono s r)
theorem RepK.mono (s : Same H H') : ∀ {d : List (Key × D)} {v : List (Key × V)}, RepK K a H d v → RepK K a H' d v
  | _, _, .nil => .nil
  | _, _, .cons h r => .cons (Rep.mono s h) (RepK.mono s r)
theorem RepF.mono (s : Same H H') : ∀ {d : List (Str × D)} {v : List (Str × V)}, RepF K a H d v → RepF K a H' d v
  | _, _, .nil => .nil
  | _, _, .cons h r => .cons (Rep.mono s h) (RepF.mono s r)
end
theorem RepL.length : ∀ {ds : List D} {vs : List V}, RepL K a H ds vs → ds.length = vs.length
  | _, _, .nil => rfl
  | _, _, .cons _ r => congrArg (· + 1) (RepL.length r)
theorem RepL.append : ∀ {ds es : List D} {vs ws : List V}, RepL K a H ds vs → RepL K a H es ws → RepL K a H (ds ++ es) (vs ++ ws)
  | _, _, _, _, .nil, q => q
  | _, _, _, _, .cons h r, q => .cons h (RepL.append r q)
theorem RepL.get : ∀ {ds : List D} {vs : List V} {i : Nat} {v : V}, RepL K a H ds vs → vs[i]? = some v → ∃ d, ds[i]? = some d ∧ Rep K a H d v
  | _, _, _, _, .nil, e => by simp at e
  | _, _, 0, _, .cons h _, e => by
    have e2 := Option.some.inj e
    subst e2
    exact ⟨_, rfl, h⟩
  | _, _, i + 1, v, .cons _ r, e => by
    obtain ⟨d, e1, h⟩ := RepL.get (i := i) (v := v) r (by simpa using e)
    exact ⟨d, by simpa using e1, h⟩
theorem RepL.getD : ∀ {ds : List D} {vs : List V} {i : Nat} {d : D}, RepL K a H ds vs → ds[i]? = some d → ∃ v, vs[i]? = some v ∧ Rep K a H d v
  | _, _, _, _, .nil, e => by simp at e
  | _, _, 0, _, .cons h _, e => by
    have e2 := Option.some.inj e
    subst e2
    exact ⟨_, rfl, h⟩
  | _, _, i + 1, v, .cons _ r, e => by
    obtain ⟨d, e1, h⟩ := RepL.getD (i := i) (d := v) r (by simpa using e)
    exact ⟨d, by simpa using e1, h⟩
theorem RepL.take : ∀ {ds : List D} {vs : List V} (n : Nat), RepL K a H ds vs → RepL K a H (ds.take n) (vs.take n)
  | _, _, 0, _ => .nil
  | _, _, _ + 1, .nil => .nil
  | _, _, n + 1, .cons h r => .cons h (RepL.take n r)
theorem RepL.drop : ∀ {ds : List D} {vs : List V} (n : Nat), RepL K a H ds vs → RepL K a H (ds.drop n) (vs.drop n)
  | _, _, 0, r => r
  | _, _, _ + 1, .nil => .nil
  | _, _, n + 1, .cons _ r => RepL.drop n r
theorem RepL.set {d : D} {v : V} (q : Rep K a H d v) : ∀ {ds : List D} {vs : List V} (i : Nat), RepL K a H ds vs → RepL K a H (ds.set i d) (vs.set i v)
  | _, _, _, .nil => .nil
  | _, _, 0, .cons _ r => .cons q r
  | _, _, i + 1, .cons h r => .cons h (RepL.set q i r)
theorem RepL.eraseIdx : ∀ {ds : List D} {vs : List V} (i : Nat), RepL K a H ds vs → RepL K a H (ds.eraseIdx i) (vs.eraseIdx i)
  | _, _, _, .nil => .nil
  | _, _, 0, .cons _ r => r
  | _, _, i + 1, .cons h r => .cons h (RepL.eraseIdx i r)
theorem RepL.dropLast {ds : List D} {vs : List V} (r : RepL K a H ds vs) : RepL K a H ds.dropLast vs.dropLast := by
  rw [List.dropLast_eq_take, List.dropLast_eq_take, r.length]
  exact r.take _
theorem RepL.replicate {d : D} {v : V} (q : Rep K a H d v) : ∀ n : Nat, RepL K a H (List.replicate n d) (List.replicate n v)
  | 0 => .nil
  | n + 1 => .cons q (RepL.replicate q n)
theorem RepL.rep {ds : List D} {vs : List V} (q : RepL K a H ds vs) : ∀ n : Nat, RepL K a H (List.replicate n ds).flatten (List.replicate n vs).flatten
  | 0 => .nil
  | n + 1 => by
    rw [List.replicate_succ, List.replicate_succ, List.flatten_cons, List.flatten_cons]
    exact q.append (RepL.rep q n)
theorem RepL.ints : ∀ {ns : List Int} {vs : List V}, RepL K a H (ns.map D.int) vs → vs = ns.map V.int
  | [], _, .nil => rfl
  | n :: ns, _, .cons (.int _) r => by rw [RepL.ints r]; rfl
theorem RepL.bools : ∀ {ns : List Bool} {vs : List V}, RepL K a H (ns.map D.bl) vs → vs = ns.map V.bl
  | [], _, .nil => rfl
  | n :: ns, _, .cons (.bl _) r => by rw [RepL.bools r]; rfl
theorem RepL.ofInts : ∀ (ns : List Int), RepL K a H (ns.map D.int) (ns.map V.int)
  | [] => .nil
  | n :: ns => .cons (.int n) (RepL.ofInts ns)
theorem RepF.look {f : Str} : ∀ {ds : List (Str × D)} {vs : List (Str × V)} {d : D}, RepF K a H ds vs → ds.lookup f = some d → ∃ v, vs.lookup f = some v ∧ Rep K a H d v
  | _, _, _, .nil, e => by simp at e
  | _, _, d, .cons (k := k) (d := d0) (v := v0) (ds := ds) (vs := vs) h r, e => by
    by_cases q : (f == k) = true
    · have e1 : ((k, d0) :: ds).lookup f = some d0 := by simp only [List.lookup, q]
      rw [e1] at e
      have e2 := Option.some.inj e
      subst e2
      exact ⟨v0, by simp only [List.lookup, q], h⟩
    · have q2 : (f == k) = false := by simpa using q
      have e1 : ((k, d0) :: ds).lookup f = ds.lookup f := by simp only [List.lookup, q2]
      rw [e1] at e
      obtain ⟨v, e3, h3⟩ := RepF.look r e
      exact ⟨v, by simp only [List.lookup, q2]; exact e3, h3⟩
end

/-! ### the state -/
/-- the heap is as it was, but for the hand -/
def SB (a : Hd) (H H' : Hp) : Prop := ∀ b o, a ≠ some b → H b = some o → H' b = some o
theorem SB.refl {a : Hd} {H : Hp} : SB a H H := fun _ _ _ h => h
theorem SB.trans {a : Hd} {H H1 H2 : Hp} (x : SB a H H1) (y : SB a H1 H2) : SB a H H2 := fun b o n h => y b o n (x b o n h)
theorem SB.of {a : Hd} {H H' : Hp} (s : Same H H') : SB a H H' := fun b o _ h => s b o h
theorem SB.free {a : Hd} {H H' : Hp} (s : SB a H H') {p : Addr} (n : a ≠ some p) (h : H' p = none) : H p = none := by
  cases q : H p with
  | none => rfl
  | some o =>
    rw [s p o n q] at h
    cases h

/-- the heap has grown: what stands still is kept, what is new in it is new -/
structure Gr (a : Hd) (Hs H Hs' H' : Hp) : Prop where
  s : Same Hs Hs'
  b : SB a H H'
  n : ∀ p o, Hs' p = some o → Hs p = some o ∨ (H p = none ∧ a ≠ some p)
theorem Gr.refl {a : Hd} {Hs H : Hp} : Gr a Hs H Hs H := ⟨Same.refl _, SB.refl, fun _ _ h => .inl h⟩
theorem Gr.trans {a : Hd} {Hs H Hs1 H1 Hs2 H2 : Hp} (x : Gr a Hs H Hs1 H1) (y : Gr a Hs1 H1 Hs2 H2) : Gr a Hs H Hs2 H2 := ⟨x.s.trans y.s, x.b.trans y.b, fun p o h => by
  rcases y.n p o h with h | ⟨h, n⟩
  · exact x.n p o h
  · exact .inr ⟨x.b.free n h, n⟩⟩

/-- the hand of draws: a list of five -/
def HandOk (a : Hd) (Hs H : Hp) : Prop := ∀ x, a = some x → Hs x = none ∧ ∃ (c : Addr) (i b s n : Int) (cells : List Int),
  H x = some (.lst [.ref c, .int i, .int b, .int s, .int n]) ∧ Hs c = some (.lst (cells.map V.int)) ∧ 0 ≤ i ∧ cells.length ≤ 63

/-- what a slot holds: nothing known; a tree that stands still; a list, a dict of one's own (its items stand still) -/
inductive En where
  | no | sh (d : D) | ol (ds : List D) | od (kvs : List (Key × D)) | odl (p : Addr) (ob : Obj) (vs : List (Key × V)) (kvs : List (Key × D)) | oo (c : Str) (p dx : Addr) (fs : List (Str × D)) | oh (p : Addr) (ds : List D)

/-- an exception as the functional reading sees it: its class, its fields -/
abbrev EX := Str × List (Str × D)
structure Ctx where
  K : PySem.W.Frag
  a : Hd
  H0 : Hp
  Hs0 : Hp
  W : EX → Prop

def EnOk (C : Ctx) (Hs H : Hp) : En → Option (Option V) → Prop
  | .no, _ => True
  | .sh d, s => ∃ v, s = some (some v) ∧ Rep C.K C.a Hs d v
  | .ol ds, s => ∃ p vs, s = some (some (.ref p)) ∧ H p = some (.lst vs) ∧ RepL C.K C.a Hs ds vs ∧ C.H0 p = none ∧ Hs p = none ∧ C.a ≠ some p
  | .od kvs, s => ∃ p vs, s = some (some (.ref p)) ∧ H p = some (.dK vs) ∧ RepK C.K C.a Hs kvs vs ∧ C.H0 p = none ∧ Hs p = none ∧ C.a ≠ some p
  | .oh p ds, s => ∃ vs, s = some (some (.ref p)) ∧ H p = some (.lst vs) ∧ RepL C.K C.a Hs ds vs ∧ C.H0 p = none ∧ Hs p = none ∧ C.a ≠ some p
  | .oo c p dx fs, s => ∃ vs, s = some (some (.ref p)) ∧ H p = some (.ins (He.ga C.K c) dx vs) ∧ H dx = some (.own p) ∧ RepF C.K C.a Hs fs vs ∧ C.H0 p = none ∧ Hs p = none ∧ C.a ≠ some p ∧ Hs dx = none ∧ C.a ≠ some dx
  | .odl p ob vs kvs, s => s = some (some (.ref p)) ∧ H p = some (.frz ob (.dK vs)) ∧ RepK C.K C.a Hs kvs vs ∧ C.H0 p = none ∧ Hs p = none ∧ C.a ≠ some p
def En.own : En → Bool
  | .ol _ => true
  | .od _ => true
  | .odl _ _ _ _ => true
  | .oo _ _ _ _ => true
  | .oh _ _ => true
  | _ => false

structure RS (C : Ctx) (Hs : Hp) (ρ : List En) (σ : L2.St) (H : Hp) : Prop where
  len : ρ.length = σ.length
  fr : SB C.a C.H0 H
  sh : Same Hs H
  sh0 : Same C.Hs0 Hs
  new : ∀ b o, Hs b = some o → C.Hs0 b = some o ∨ C.H0 b = none
  hd : HandOk C.a Hs H
  hd0 : ∀ x, C.a = some x → C.H0 x ≠ none
  en : ∀ (i : Nat) (e : En), ρ[i]? = some e → EnOk C Hs H e (σ[i]?)
  sep : ∀ (i j : Nat) (p : Addr) (e e' : En), i ≠ j → ρ[i]? = some e → ρ[j]? = some e' → e.own = true → e'.own = true → σ[i]? = some (some (.ref p)) → σ[j]? = some (some (.ref p)) → False

section
variable {C : Ctx} {Hs Hs' H H' : Hp} {ρ : List En} {σ : L2.St}
theorem RS.hs_a (r : RS C Hs ρ σ H) {x : Addr} (h : C.a = some x) : Hs x = none := (r.hd x h).1
theorem RS.a_in (r : RS C Hs ρ σ H) {x : Addr} (h : C.a = some x) : H x ≠ none := by
  obtain ⟨_, c, i, b, s, n, cells, h1, _⟩ := r.hd x h
  rw [h1]
  exact fun z => by cases z
theorem RS.fresh_a (r : RS C Hs ρ σ H) {p : Addr} (hp : H p = none) : C.a ≠ some p := fun h => r.a_in h hp
theorem RS.fresh_s (r : RS C Hs ρ σ H) {p : Addr} (hp : H p = none) : Hs p = none := r.sh.free hp
theorem RS.fresh_0 (r : RS C Hs ρ σ H) {p : Addr} (hp : H p = none) : C.H0 p = none := r.fr.free (r.fresh_a hp) hp

theorem EnOk.mono {e : En} {s : Option (Option V)} (h : EnOk C Hs H e s) (s1 : Same Hs Hs') (sb : SB C.a H H') (n : ∀ p, C.a ≠ some p → H p ≠ none → Hs p = none → Hs' p = none) : EnOk C Hs' H' e s := by
  cases e with
  | no => trivial
  | sh d =>
    obtain ⟨v, e, q⟩ := h
    exact ⟨v, e, q.mono s1⟩
  | ol ds =>
    obtain ⟨p, vs, e, h1, h2, h3, h4, h5⟩ := h
    exact ⟨p, vs, e, sb _ _ h5 h1, h2.mono s1, h3, n p h5 (by rw [h1]; exact fun z => by cases z) h4, h5⟩
  | od kvs =>
    obtain ⟨p, vs, e, h1, h2, h3, h4, h5⟩ := h
    exact ⟨p, vs, e, sb _ _ h5 h1, h2.mono s1, h3, n p h5 (by rw [h1]; exact fun z => by cases z) h4, h5⟩
  | odl p ob vs kvs =>
    obtain ⟨e, h1, h2, h3, h4, h5⟩ := h
    exact ⟨e, sb _ _ h5 h1, h2.mono s1, h3, n p h5 (by rw [h1]; exact fun z => by cases z) h4, h5⟩
  | oh p ds =>
    obtain ⟨vs, e, h1, h2, h3, h4, h5⟩ := h
    exact ⟨vs, e, sb _ _ h5 h1, h2.mono s1, h3, n p h5 (by rw [h1]; exact fun z => by cases z) h4, h5⟩
  | oo c p dx fs =>
    obtain ⟨vs, e, h1, hd, h2, h3, h4, h5, h6, h7⟩ := h
    exact ⟨vs, e, sb _ _ h5 h1, sb _ _ h7 hd, h2.mono s1, h3, n p h5 (by rw [h1]; exact fun z => by cases z) h4, h5, n dx h7 (by rw [hd]; exact fun z => by cases z) h6, h7⟩

/-- the heap grows by what stands still, and by more that nobody looks at; the hand may turn -/
theorem RS.grow (r : RS C Hs ρ σ H) (g : Gr C.a Hs H Hs' H') (s2 : Same Hs' H') (hd : HandOk C.a Hs' H') : RS C Hs' ρ σ H' where
  len := r.len
  fr := r.fr.trans g.b
  sh := s2
  sh0 := r.sh0.trans g.s
  new := fun b o h => by
    rcases g.n b o h with h1 | h1
    · exact r.new b o h1
    · exact .inr (r.fresh_0 h1.1)
  hd := hd
  hd0 := r.hd0
  en := fun i e h => (r.en i e h).mono g.s g.b fun p _ h3 h4 => by
    cases q : Hs' p with
    | none => rfl
    | some o =>
      rcases g.n p o q with z | z
      · rw [h4] at z
        cases z
      · exact absurd z.1 h3
  sep := r.sep

theorem HandOk.grow {a : Hd} (h : HandOk a Hs H) (s1 : Same Hs Hs') (sb : Same H H') (n : ∀ x, a = some x → Hs' x = none) : HandOk a Hs' H' := fun x e => by
  obtain ⟨_, c, i, b, s, k, cells, h1, h2, h3⟩ := h x e
  exact ⟨n x e, c, i, b, s, k, cells, sb _ _ h1, s1 _ _ h2, h3⟩

theorem same_upd {p : Addr} {o : HO} (h : H p = none) : Same H (upd H p o) := fun b x e => by
  rw [upd_ne (ne_of_none e h)]
  exact e
theorem same_upd2 {p : Addr} {o : HO} (s : Same Hs H) (h : H p = none) : Same (upd Hs p o) (upd H p o) := fun b x e => by
  by_cases z : b = p
  · subst z
    rw [upd_same] at e ⊢
    exact e
  · rw [upd_ne z] at e ⊢
    exact s _ _ e
theorem RS.back {ρ1 : List En} {σ1 : L2.St} (r : RS C Hs ρ σ H) (g : Gr C.a Hs H Hs' H') (r1 : RS C Hs' ρ1 σ1 H') : RS C Hs' ρ σ H' := r.grow g r1.sh r1.hd
theorem RS.gr_new (r : RS C Hs ρ σ H) {p : Addr} {o : HO} (hp : H p = none) : Gr C.a Hs H (upd Hs p o) (upd H p o) :=
  ⟨same_upd (r.fresh_s hp), SB.of (same_upd hp), fun b x e => by
      by_cases z : b = p
      · subst z
        exact .inr ⟨hp, r.fresh_a hp⟩
      · rw [upd_ne z] at e
        exact .inl e⟩
/-- a new object that stands still -/
theorem RS.alloc (r : RS C Hs ρ σ H) {p : Addr} {o : HO} (hp : H p = none) : RS C (upd Hs p o) ρ σ (upd H p o) :=
  r.grow (r.gr_new hp) (same_upd2 r.sh hp)
    (r.hd.grow (same_upd (r.fresh_s hp)) (same_upd hp) fun x e => by
      have z : x ≠ p := fun q => by
        subst q
        exact r.fresh_a hp e
      rw [upd_ne z]
      exact r.hs_a e)
/-- a new object that nobody knows yet -/
theorem RS.gr_side (r : RS C Hs ρ σ H) {p : Addr} {o : HO} (hp : H p = none) : Gr C.a Hs H Hs (upd H p o) := ⟨Same.refl _, SB.of (same_upd hp), fun b x e => .inl e⟩
theorem RS.side (r : RS C Hs ρ σ H) {p : Addr} {o : HO} (hp : H p = none) : RS C Hs ρ σ (upd H p o) :=
  r.grow (r.gr_side hp) (r.sh.trans (same_upd hp)) (r.hd.grow (Same.refl _) (same_upd hp) fun x e => r.hs_a e)
end

/-! ### what may be read where it is borrowed -/
/-- a tree that stands still, or the own list (dict) itself -/
inductive RepB (K : PySem.W.Frag) (a : Hd) (Hs H : Hp) : D → V → Prop
  | sh {d : D} {v : V} : Rep K a Hs d v → RepB K a Hs H d v
  | ol {p : Addr} {vs : List V} {ds : List D} : H p = some (.lst vs) → RepL K a Hs ds vs → a ≠ some p → RepB K a Hs H (.lst ds) (.ref p)
  | od {p : Addr} {vs : List (Key × V)} {ds : List (Key × D)} : H p = some (.dK vs) → RepK K a Hs ds vs → a ≠ some p → RepB K a Hs H (.dct ds) (.ref p)
theorem RepB.mono {K : PySem.W.Frag} {a : Hd} {Hs Hs' H H' : Hp} {d : D} {v : V} (h : RepB K a Hs H d v) (s : Same Hs Hs') (sb : SB a H H') : RepB K a Hs' H' d v := by
  cases h with
  | sh h => exact .sh (h.mono s)
  | ol h1 h2 h3 => exact .ol (sb _ _ h3 h1) (h2.mono s) h3
  | od h1 h2 h3 => exact .od (sb _ _ h3 h1) (h2.mono s) h3
/-- a borrowed list, read -/
theorem RepB.lst {K : PySem.W.Frag} {a : Hd} {Hs H : Hp} {ds : List D} {v : V} (s : Same Hs H) (h : RepB K a Hs H (.lst ds) v) : ∃ p vs, v = .ref p ∧ H p = some (.lst vs) ∧ RepL K a Hs ds vs := by
  cases h with
  | sh h =>
    cases h with
    | lst h r => exact ⟨_, _, rfl, s _ _ h, r⟩
  | ol h1 h2 h3 => exact ⟨_, _, rfl, h1, h2⟩
theorem RepB.tup {K : PySem.W.Frag} {a : Hd} {Hs H : Hp} {ds : List D} {v : V} (s : Same Hs H) (h : RepB K a Hs H (.tup ds) v) : ∃ p vs, v = .ref p ∧ SqT K H p vs ∧ RepL K a Hs ds vs := by
  cases h with
  | sh h =>
    cases h with
    | tup h r => exact ⟨_, _, rfl, same_sqT s h, r⟩
theorem RepB.tupR {K : PySem.W.Frag} {a : Hd} {Hs H : Hp} {ds : List D} {v : V} (h : RepB K a Hs H (.tup ds) v) : Rep K a Hs (.tup ds) v := by
  cases h with
  | sh h => exact h
theorem RepB.dct {K : PySem.W.Frag} {a : Hd} {Hs H : Hp} {ds : List (Key × D)} {v : V} (s : Same Hs H) (h : RepB K a Hs H (.dct ds) v) : ∃ p vs, v = .ref p ∧ H p = some (.dK vs) ∧ RepK K a Hs ds vs := by
  cases h with
  | sh h =>
    cases h with
    | dct h r => exact ⟨_, _, rfl, s _ _ h, r⟩
  | od h1 h2 h3 => exact ⟨_, _, rfl, h1, h2⟩

/-! ### the functional readings, and what they say -/
abbrev QE := EX → Prop
abbrev ME := List En → (D → Prop) → QE → Prop
abbrev MT := List En → (Bool → Prop) → QE → Prop
abbrev MA := List En → (List D → Prop) → QE → Prop
structure SQ where
  nx : List En → Prop
  rt : List En → D → Prop
  bk : List En → Prop
  ct : List En → Prop
abbrev MS := List En → SQ → QE → Prop
abbrev M := List D → (D → Prop) → QE → Prop

/-- t follows from f -/
structure DT (C : Ctx) (t : TE) (f : ME) : Prop where
  run : ∀ Hs ρ σ H q qe Q, (∀ x, qe x → C.W x) → RS C Hs ρ σ H → f ρ q qe →
    (∀ d v Hs' H', q d → Gr C.a Hs H Hs' H' → RS C Hs' ρ σ H' → Rep C.K C.a Hs' d v → Q v H') → t σ H Q
/-- .. where the value is only read -/
structure DB (C : Ctx) (t : TE) (f : ME) : Prop where
  run : ∀ Hs ρ σ H q qe Q, (∀ x, qe x → C.W x) → RS C Hs ρ σ H → f ρ q qe →
    (∀ d v Hs' H', q d → Gr C.a Hs H Hs' H' → RS C Hs' ρ σ H' → RepB C.K C.a Hs' H' d v → Q v H') → t σ H Q
/-- .. where the value is a new list -/
structure DF (C : Ctx) (t : TE) (f : MA) : Prop where
  run : ∀ Hs ρ σ H q qe Q, (∀ x, qe x → C.W x) → RS C Hs ρ σ H → f ρ q qe →
    (∀ ds p vs Hs' H', q ds → Gr C.a Hs H Hs' H' → RS C Hs' ρ σ H' → H' p = none → RepL C.K C.a Hs' ds vs → Q (.ref p) (upd H' p (.lst vs))) → t σ H Q
structure DTt (C : Ctx) (t : TT) (f : MT) : Prop where
  run : ∀ Hs ρ σ H q qe Q, (∀ x, qe x → C.W x) → RS C Hs ρ σ H → f ρ q qe →
    (∀ b Hs' H', q b → Gr C.a Hs H Hs' H' → RS C Hs' ρ σ H' → Q b H') → t σ H Q
structure DA (C : Ctx) (t : TA) (f : MA) : Prop where
  run : ∀ Hs ρ σ H q qe Q, (∀ x, qe x → C.W x) → RS C Hs ρ σ H → f ρ q qe →
    (∀ ds vs Hs' H', q ds → Gr C.a Hs H Hs' H' → RS C Hs' ρ σ H' → RepL C.K C.a Hs' ds vs → Q vs H') → t σ H Q
inductive RepBL (K : PySem.W.Frag) (a : Hd) (Hs H : Hp) : List D → List V → Prop
  | nil : RepBL K a Hs H [] []
  | cons {d : D} {v : V} {ds : List D} {vs : List V} : RepB K a Hs H d v → RepBL K a Hs H ds vs → RepBL K a Hs H (d :: ds) (v :: vs)
theorem RepBL.mono {K : PySem.W.Frag} {a : Hd} {Hs Hs' H H' : Hp} (s : Same Hs Hs') (sb : SB a H H') : ∀ {d : List D} {v : List V}, RepBL K a Hs H d v → RepBL K a Hs' H' d v
  | _, _, .nil => .nil
  | _, _, .cons h r => .cons (h.mono s sb) (RepBL.mono s sb r)
structure DBA (C : Ctx) (t : TA) (f : MA) : Prop where
  run : ∀ Hs ρ σ H q qe Q, (∀ x, qe x → C.W x) → RS C Hs ρ σ H → f ρ q qe →
    (∀ ds vs Hs' H', q ds → Gr C.a Hs H Hs' H' → RS C Hs' ρ σ H' → RepBL C.K C.a Hs' H' ds vs → Q vs H') → t σ H Q
structure SL (C : Ctx) (Hs : Hp) (sq : SQ) (E : Ends) : Prop where
  nx : ∀ ρ' σ' Hs' H', sq.nx ρ' → Same Hs Hs' → RS C Hs' ρ' σ' H' → E.nx σ' H'
  rt : ∀ d v ρ' σ' Hs' H', sq.rt ρ' d → Same Hs Hs' → RS C Hs' ρ' σ' H' → Rep C.K C.a Hs' d v → E.rt v H'
  bk : ∀ ρ' σ' Hs' H', sq.bk ρ' → Same Hs Hs' → RS C Hs' ρ' σ' H' → E.bk σ' H'
  ct : ∀ ρ' σ' Hs' H', sq.ct ρ' → Same Hs Hs' → RS C Hs' ρ' σ' H' → E.ct σ' H'
theorem SL.mono {C : Ctx} {Hs Hs1 : Hp} {sq : SQ} {E : Ends} (s : Same Hs Hs1) (h : SL C Hs sq E) : SL C Hs1 sq E :=
  ⟨fun ρ' σ' Hs' H' a b => h.nx ρ' σ' Hs' H' a (s.trans b), fun d v ρ' σ' Hs' H' a b => h.rt d v ρ' σ' Hs' H' a (s.trans b), fun ρ' σ' Hs' H' a b => h.bk ρ' σ' Hs' H' a (s.trans b), fun ρ' σ' Hs' H' a b => h.ct ρ' σ' Hs' H' a (s.trans b)⟩
structure DS (C : Ctx) (t : TS) (f : MS) : Prop where
  run : ∀ Hs ρ σ H sq qe (E : Ends), (∀ x, qe x → C.W x) → RS C Hs ρ σ H → f ρ sq qe → SL C Hs sq E → t E σ H

theorem DT.b {C : Ctx} {t : TE} {f : ME} (h : DT C t f) : DB C t f :=
  ⟨fun Hs ρ σ H q qe Q l r w k => h.run Hs ρ σ H q qe Q l r w fun d v Hs' H' e g r' p => k d v Hs' H' e g r' (.sh p)⟩
/-- a new list as a value -/
def eNew (f : MA) : ME := fun ρ q qe => f ρ (fun ds => q (.lst ds)) qe
theorem DF.t {C : Ctx} {t : TE} {f : MA} (h : DF C t f) : DT C t (eNew f) :=
  ⟨fun Hs ρ σ H q qe Q l r w k => h.run Hs ρ σ H (fun ds => q (.lst ds)) qe Q l r w fun ds p vs Hs' H' e g r' hp rl =>
    k (.lst ds) (.ref p) (upd Hs' p (.lst vs)) (upd H' p (.lst vs)) e (g.trans (r'.gr_new hp)) (r'.alloc hp)
      (.lst upd_same (rl.mono (same_upd (r'.fresh_s hp))))⟩
end Fd
namespace Fd
open PySem PySem.Spec L2

/-! ### names, constants -/
def eVar (i : Nat) : ME := fun ρ q _ => match ρ[i]? with
  | some (.sh d) => q d
  | _ => False
def eRd (i : Nat) : ME := fun ρ q _ => match ρ[i]? with
  | some (.sh d) => q d
  | some (.ol ds) => q (.lst ds)
  | some (.od kvs) => q (.dct kvs)
  | some (.oh _ ds) => q (.lst ds)
  | _ => False
def eC (d : D) : ME := fun _ q _ => q d
section
variable {C : Ctx}
theorem dt_var (i : Nat) : DT C (tVar i) (eVar i) := by
  refine ⟨fun Hs ρ σ H q qe Q l r w k => ?_⟩
  unfold eVar at w
  cases e : ρ[i]? with
  | none => rw [e] at w; exact w.elim
  | some en =>
    rw [e] at w
    cases en with
    | sh d =>
      obtain ⟨v, ev, rp⟩ := r.en i _ e
      exact ⟨v, ev, k d v Hs H w Gr.refl r rp⟩
    | _ => exact w.elim
theorem db_rd (i : Nat) : DB C (tVar i) (eRd i) := by
  refine ⟨fun Hs ρ σ H q qe Q l r w k => ?_⟩
  unfold eRd at w
  cases e : ρ[i]? with
  | none => rw [e] at w; exact w.elim
  | some en =>
    rw [e] at w
    cases en with
    | no => exact w.elim
    | sh d =>
      obtain ⟨v, ev, rp⟩ := r.en i _ e
      exact ⟨v, ev, k d v Hs H w Gr.refl r (.sh rp)⟩
    | ol ds =>
      obtain ⟨p, vs, ev, h1, h2, h3, h4, h5⟩ := r.en i _ e
      exact ⟨_, ev, k _ _ Hs H w Gr.refl r (.ol h1 h2 h5)⟩
    | od ds =>
      obtain ⟨p, vs, ev, h1, h2, h3, h4, h5⟩ := r.en i _ e
      exact ⟨_, ev, k _ _ Hs H w Gr.refl r (.od h1 h2 h5)⟩
    | odl p ob vs ds => exact w.elim
    | oo c p dx fs => exact w.elim
    | oh p ds =>
      obtain ⟨vs, ev, h1, h2, h3, h4, h5⟩ := r.en i _ e
      exact ⟨_, ev, k _ _ Hs H w Gr.refl r (.ol h1 h2 h5)⟩
theorem dt_int (i : Int) : DT C (tC (.int i)) (eC (.int i)) := ⟨fun Hs ρ σ H q qe Q l r w k => k _ _ Hs H w Gr.refl r (.int i)⟩
theorem dt_bl (b : Bool) : DT C (tC (.bl b)) (eC (.bl b)) := ⟨fun Hs ρ σ H q qe Q l r w k => k _ _ Hs H w Gr.refl r (.bl b)⟩
theorem dt_str (b : Str) : DT C (tC (.str b)) (eC (.str b)) := ⟨fun Hs ρ σ H q qe Q l r w k => k _ _ Hs H w Gr.refl r (.str b)⟩
theorem dt_non : DT C (tC .non) (eC .non) := ⟨fun Hs ρ σ H q qe Q l r w k => k _ _ Hs H w Gr.refl r .non⟩

/-! ### operators by values -/
abbrev O2 := D → D → (D → Prop) → Prop
structure D2 (C : Ctx) (t : R2) (op : O2) : Prop where
  run : ∀ Hs ρ σ H x y vx vy q Q, RS C Hs ρ σ H → RepB C.K C.a Hs H x vx → RepB C.K C.a Hs H y vy → op x y q →
    (∀ d v Hs' H', q d → Gr C.a Hs H Hs' H' → RS C Hs' ρ σ H' → Rep C.K C.a Hs' d v → Q v H') → t vx vy H Q
def e2 (op : O2) (fa fb : ME) : ME := fun ρ q qe => fa ρ (fun x => fb ρ (fun y => op x y q) qe) qe
theorem dt_op {t : R2} {op : O2} {ta tb : TE} {fa fb : ME} (h : D2 C t op) (ha : DB C ta fa) (hb : DB C tb fb) : DT C (tOp t ta tb) (e2 op fa fb) := by
  refine ⟨fun Hs ρ σ H q qe Q l r w k => ?_⟩
  refine ha.run Hs ρ σ H _ qe _ l r w fun x vx Hs1 H1 w1 g1 r1 p1 => ?_
  refine hb.run Hs1 ρ σ H1 _ qe _ l r1 w1 fun y vy Hs2 H2 w2 g2 r2 p2 => ?_
  exact h.run Hs2 ρ σ H2 x y vx vy q Q r2 (p1.mono g2.s g2.b) p2 w2 fun d v Hs3 H3 e g3 r3 p3 => k d v Hs3 H3 e (g1.trans (g2.trans g3)) r3 p3

/-- plus: of two ints, texts, lists, tuples -/
def dAdd : O2 := fun x y q => match x, y with
  | .int i, .int j => q (.int (i + j))
  | .str i, .str j => i.length + j.length ≤ sizeLine ∧ q (.str (i ++ j))
  | .lst xs, .lst ys => xs.length + ys.length ≤ sizeLine ∧ q (.lst (xs ++ ys))
  | .tup xs, .tup ys => xs.length + ys.length ≤ sizeLine ∧ q (.tup (xs ++ ys))
  | _, _ => False
def rAddX (K : PySem.W.Frag) : R2 := fun x y H Q => (rI0 (fun i j => .int (i + j)) x y H Q ∨ (∃ i j, x = .str i ∧ y = .str j ∧ i.length + j.length ≤ sizeLine ∧ Q (.str (i ++ j)) H)) ∨ (rCat x y H Q ∨ rCatA K x y H Q)
theorem op_addX {X : Cx} : OpR X (binaryOp .Add) (rAddX X.K) := OpR.or (OpR.or op_add op_add_str) (OpR.or op_cat op_catA)
theorem upd_rs {Hs H : Hp} {ρ : List En} {σ : L2.St} {p : Addr} {o : HO} (r : RS C Hs ρ σ H) (hp : H p = none) : Same Hs (upd Hs p o) ∧ Gr C.a Hs H (upd Hs p o) (upd H p o) ∧ RS C (upd Hs p o) ρ σ (upd H p o) :=
  ⟨same_upd (r.fresh_s hp), r.gr_new hp, r.alloc hp⟩
theorem d2_add : D2 C (rAddX C.K) dAdd := by
  refine ⟨fun Hs ρ σ H x y vx vy q Q r px py w k => ?_⟩
  unfold dAdd at w
  split at w
  · cases px with
    | sh px => cases px; cases py with
      | sh py => cases py; exact .inl (.inl ⟨_, _, rfl, rfl, k _ _ Hs H w Gr.refl r (.int _)⟩)
  · cases px with
    | sh px => cases px; cases py with
      | sh py => cases py; exact .inl (.inr ⟨_, _, rfl, rfl, w.1, k _ _ Hs H w.2 Gr.refl r (.str _)⟩)
  · obtain ⟨p, vs, rfl, h1, h2⟩ := px.lst r.sh
    obtain ⟨p', vs', rfl, h1', h2'⟩ := py.lst r.sh
    refine .inr (.inl ⟨p, p', vs, vs', rfl, rfl, h1, h1', by rw [← h2.length, ← h2'.length]; exact w.1, fun a ha => ?_⟩)
    obtain ⟨s, g, r'⟩ := upd_rs (o := .lst (vs ++ vs')) r ha
    exact k _ _ _ _ w.2 g r' (.lst upd_same ((h2.append h2').mono s))
  · obtain ⟨p, vs, rfl, h1, h2⟩ := px.tup r.sh
    obtain ⟨p', vs', rfl, h1', h2'⟩ := py.tup r.sh
    have tx := px.tupR
    have ty := py.tupR
    refine .inr (.inr ⟨p, p', vs, vs', rfl, rfl, h1, h1', by rw [← h2.length, ← h2'.length]; exact w.1, fun e => ?_, fun _ e => ?_, fun _ _ a ha => ?_⟩)
    · subst e
      cases h2
      exact k _ _ Hs H w.2 Gr.refl r ty
    · subst e
      cases h2'
      refine k _ _ Hs H w.2 Gr.refl r ?_
      rw [List.append_nil]
      exact tx
    · obtain ⟨s, g, r'⟩ := upd_rs (o := .tup (vs ++ vs')) r ha
      exact k _ _ _ _ w.2 g r' (.tup (SqT.of upd_same) ((h2.append h2').mono s))
  · exact w.elim

/-- an operator of two ints -/
def dII (c : Int → Int → Prop) (g : Int → Int → D) : O2 := fun x y q => match x, y with
  | .int i, .int j => c i j ∧ q (g i j)
  | _, _ => False
theorem d2_ii {c : Int → Int → Prop} {g : Int → Int → V} {gd : Int → Int → D} (h : ∀ (K : PySem.W.Frag) (a : Hd) (H : Hp) (i j : Int), Rep K a H (gd i j) (g i j)) : D2 C (rI c g) (dII c gd) := by
  refine ⟨fun Hs ρ σ H x y vx vy q Q r px py w k => ?_⟩
  unfold dII at w
  split at w
  · cases px with
    | sh px => cases px; cases py with
      | sh py => cases py; exact ⟨_, _, rfl, rfl, w.1, k _ _ Hs H w.2 Gr.refl r (h _ _ _ _ _)⟩
  · exact w.elim
def dI0 (g : Int → Int → D) : O2 := fun x y q => match x, y with
  | .int i, .int j => q (g i j)
  | _, _ => False
theorem d2_i0 {g : Int → Int → V} {gd : Int → Int → D} (h : ∀ (K : PySem.W.Frag) (a : Hd) (H : Hp) (i j : Int), Rep K a H (gd i j) (g i j)) : D2 C (rI0 g) (dI0 gd) := by
  refine ⟨fun Hs ρ σ H x y vx vy q Q r px py w k => ?_⟩
  unfold dI0 at w
  split at w
  · cases px with
    | sh px => cases px; cases py with
      | sh py => cases py; exact ⟨_, _, rfl, rfl, k _ _ Hs H w Gr.refl r (h _ _ _ _ _)⟩
  · exact w.elim
def dSub : O2 := dI0 fun i j => .int (i - j)
theorem d2_sub : D2 C (rI0 fun i j => .int (i - j)) dSub := d2_i0 fun _ _ _ _ _ => .int _
def dFdiv : O2 := dII CDiv fun i j => .int (i / j)
theorem d2_fdiv : D2 C (rI CDiv fun i j => .int (i / j)) dFdiv := d2_ii fun _ _ _ _ _ => .int _
def dMod : O2 := dII (fun _ j => 0 < j) fun i j => .int (i % j)
theorem d2_mod : D2 C (rI (fun _ j => 0 < j) fun i j => .int (i % j)) dMod := d2_ii fun _ _ _ _ _ => .int _
def dPow : O2 := dII CPow fun i j => .int (i ^ j.toNat)
theorem d2_pow : D2 C (rI CPow fun i j => .int (i ^ j.toNat)) dPow := d2_ii fun _ _ _ _ _ => .int _
def dLtI : O2 := dI0 fun i j => .bl (decide (i < j))
theorem d2_ltI : D2 C (rI0 fun i j => .bl (decide (i < j))) dLtI := d2_i0 fun _ _ _ _ _ => .bl _
def dLe : O2 := dI0 fun i j => .bl (decide (i ≤ j))
theorem d2_le : D2 C (rI0 fun i j => .bl (decide (i ≤ j))) dLe := d2_i0 fun _ _ _ _ _ => .bl _
def dGt : O2 := dI0 fun i j => .bl (decide (j < i))
theorem d2_gt : D2 C (rI0 fun i j => .bl (decide (j < i))) dGt := d2_i0 fun _ _ _ _ _ => .bl _
def dGe : O2 := dI0 fun i j => .bl (decide (j ≤ i))
theorem d2_ge : D2 C (rI0 fun i j => .bl (decide (j ≤ i))) dGe := d2_i0 fun _ _ _ _ _ => .bl _

/-- times: of two ints; of a list and an int -/
def dMul : O2 := fun x y q => match x, y with
  | .int i, .int j => CMul i j ∧ q (.int (i * j))
  | .lst xs, .int k => (-(2 ^ 63) ≤ k ∧ k < 2 ^ 63 ∧ xs.length * k.toNat ≤ sizeLine) ∧ q (.lst (List.replicate k.toNat xs).flatten)
  | _, _ => False
def rMulX : R2 := fun x y H Q => rI CMul (fun i j => .int (i * j)) x y H Q ∨ rRep x y H Q
theorem op_mulXX {X : Cx} : OpR X (binaryOp .Mult) rMulX := OpR.or op_mul op_rep
theorem d2_mul : D2 C rMulX dMul := by
  refine ⟨fun Hs ρ σ H x y vx vy q Q r px py w k => ?_⟩
  unfold dMul at w
  split at w
  · cases px with
    | sh px => cases px; cases py with
      | sh py => cases py; exact .inl ⟨_, _, rfl, rfl, w.1, k _ _ Hs H w.2 Gr.refl r (.int _)⟩
  · obtain ⟨p, vs, rfl, h1, h2⟩ := px.lst r.sh
    cases py with
    | sh py =>
      cases py
      refine .inr ⟨p, _, vs, rfl, rfl, h1, w.1.1, w.1.2.1, by rw [← h2.length]; exact w.1.2.2, fun a ha => ?_⟩
      obtain ⟨s, g, r'⟩ := upd_rs (o := .lst (List.replicate _ vs).flatten) r ha
      exact k _ _ _ _ w.2 g r' (.lst upd_same ((h2.rep _).mono s))
  · exact w.elim

/-! ### equality -/
mutual
def D.py : D → PyData
  | .non => .none
  | .bl b => .bool b
  | .int i => .int i
  | .str s => .str s
  | .tup xs => .tuple (D.pys xs)
  | .lst xs => .list (D.pys xs)
  | .dct _ => .none
  | .obj _ _ => .none
  | .hand => .none
  | .scr _ => .none
def D.pys : List D → List PyData
  | [] => []
  | x :: xs => D.py x :: D.pys xs
end
mutual
/-- data: no object, no dict within -/
def D.dat : D → Bool
  | .dct _ => false
  | .obj _ _ => false
  | .hand => false
  | .scr _ => false
  | .tup xs => D.dats xs
  | .lst xs => D.dats xs
  | _ => true
def D.dats : List D → Bool
  | [] => true
  | x :: xs => D.dat x && D.dats xs
end
mutual
theorem dp_of {K : PySem.W.Frag} {a : Hd} {H : Hp} : ∀ {d : D} {v : V}, Rep K a H d v → D.dat d = true → Dp K H v d.py
  | _, _, .non, _ => by rw [D.py]; exact .non
  | _, _, .bl b, _ => by rw [D.py]; exact .bl b
  | _, _, .int i, _ => by rw [D.py]; exact .int i
  | _, _, .str z, _ => by rw [D.py]; exact .str z
  | .tup ds, _, .tup h r, e => by
    rw [D.py]
    exact .tup h (dpl_of r (by rw [D.dat] at e; exact e))
  | .lst ds, _, .lst h r, e => by
    rw [D.py]
    exact .lst (SqL.of h) (dpl_of r (by rw [D.dat] at e; exact e))
  | _, _, .dct h r, e => by simp [D.dat] at e
  | _, _, .obj h h2 r, e => by simp [D.dat] at e
  | _, _, .hand h, e => by simp [D.dat] at e
  | _, _, .scr h, e => by simp [D.dat] at e
theorem dpl_of {K : PySem.W.Frag} {a : Hd} {H : Hp} : ∀ {d : List D} {v : List V}, RepL K a H d v → D.dats d = true → DpAll K H v (D.pys d)
  | _, _, .nil, _ => by rw [D.pys]; exact .nil
  | d :: ds, _, .cons h r, e => by
    rw [D.dats, Bool.and_eq_true] at e
    rw [D.pys]
    exact .cons (dp_of h e.1) (dpl_of r e.2)
end
theorem repB_dp {K : PySem.W.Frag} {a : Hd} {Hs H : Hp} {d : D} {v : V} (s : Same Hs H) (h : RepB K a Hs H d v) (e : D.dat d = true) : Dp K H v d.py := by
  cases h with
  | sh h => exact dp_of (h.mono s) e
  | ol h1 h2 h3 =>
    rw [D.py]
    exact .lst (SqL.of h1) (dpl_of (h2.mono s) (by rw [D.dat] at e; exact e))
  | od h1 h2 h3 => simp [D.dat] at e
/-- data of a written form, not too deep -/
def D.okq (d : D) : Bool := D.dat d && SeqAt.shaped d.py
def D.eqv (d e : D) : Bool := PyData.eqv d.py e.py
def dEq : O2 := fun x y q => (x.okq = true ∧ y.okq = true) ∧ q (.bl (D.eqv x y))
def dNe : O2 := fun x y q => (x.okq = true ∧ y.okq = true) ∧ q (.bl (!D.eqv x y))
theorem d2_eq : D2 C (rEqD C.K) dEq := by
  refine ⟨fun Hs ρ σ H x y vx vy q Q r px py w k => ?_⟩
  obtain ⟨⟨w1, w2⟩, w3⟩ := w
  unfold D.okq at w1 w2
  rw [Bool.and_eq_true] at w1 w2
  exact ⟨_, _, repB_dp r.sh px w1.1, repB_dp r.sh py w2.1, w1.2, w2.2, k _ _ Hs H w3 Gr.refl r (.bl _)⟩
theorem d2_ne : D2 C (rNeD C.K) dNe := by
  refine ⟨fun Hs ρ σ H x y vx vy q Q r px py w k => ?_⟩
  obtain ⟨⟨w1, w2⟩, w3⟩ := w
  unfold D.okq at w1 w2
  rw [Bool.and_eq_true] at w1 w2
  exact ⟨_, _, repB_dp r.sh px w1.1, repB_dp r.sh py w2.1, w1.2, w2.2, k _ _ Hs H w3 Gr.refl r (.bl _)⟩

/-! ### is None, is True -/
def D.isNon : D → Bool
  | .non => true
  | _ => false
theorem isNon_of {K : PySem.W.Frag} {a : Hd} {Hs H : Hp} {d : D} {v : V} (h : RepB K a Hs H d v) : decide (v = .non) = d.isNon := by
  cases h with
  | sh h => cases h <;> simp [D.isNon]
  | ol _ _ _ => simp [D.isNon]
  | od _ _ _ => simp [D.isNon]
/-- x is None; x is a flag, of flags -/
def rIsX : R2 := fun x y H Q => (y = .non ∧ Q (.bl (decide (x = .non))) H) ∨ (∃ a b, x = .bl a ∧ y = .bl b ∧ Q (.bl (decide (a = b))) H)
def rIsNotX : R2 := fun x y H Q => (y = .non ∧ Q (.bl (!decide (x = .non))) H) ∨ (∃ a b, x = .bl a ∧ y = .bl b ∧ Q (.bl (!decide (a = b))) H)
theorem op_isX {X : Cx} : OpR X (compareOp .Is) rIsX := OpR.or op_isN op_is_bl
theorem op_isNotX {X : Cx} : OpR X (compareOp .IsNot) rIsNotX := OpR.or op_notN op_isnot_bl
def dIs : O2 := fun x y q => match y with
  | .non => q (.bl x.isNon)
  | .bl b => (match x with
    | .bl a => q (.bl (decide (a = b)))
    | _ => False)
  | _ => False
def dIsNot : O2 := fun x y q => match y with
  | .non => q (.bl (!x.isNon))
  | .bl b => (match x with
    | .bl a => q (.bl (!decide (a = b)))
    | _ => False)
  | _ => False
theorem d2_is : D2 C rIsX dIs := by
  refine ⟨fun Hs ρ σ H x y vx vy q Q r px py w k => ?_⟩
  unfold dIs at w
  split at w
  · cases py with
    | sh py =>
      cases py
      exact .inl ⟨rfl, by rw [isNon_of px]; exact k _ _ Hs H w Gr.refl r (.bl _)⟩
  · split at w
    · cases px with
      | sh px => cases px; cases py with
        | sh py => cases py; exact .inr ⟨_, _, rfl, rfl, k _ _ Hs H w Gr.refl r (.bl _)⟩
    · exact w.elim
  · exact w.elim
theorem d2_isNot : D2 C rIsNotX dIsNot := by
  refine ⟨fun Hs ρ σ H x y vx vy q Q r px py w k => ?_⟩
  unfold dIsNot at w
  split at w
  · cases py with
    | sh py =>
      cases py
      exact .inl ⟨rfl, by rw [isNon_of px]; exact k _ _ Hs H w Gr.refl r (.bl _)⟩
  · split at w
    · cases px with
      | sh px => cases px; cases py with
        | sh py => cases py; exact .inr ⟨_, _, rfl, rfl, k _ _ Hs H w Gr.refl r (.bl _)⟩
    · exact w.elim
  · exact w.elim

/-! ### in: of flat things -/
def D.flat : D → Bool
  | .non => true
  | .bl _ => true
  | .int _ => true
  | .str _ => true
  | _ => false
def D.v : D → V
  | .bl b => .bl b
  | .int i => .int i
  | .str s => .str s
  | _ => .non
theorem flat_v {K : PySem.W.Frag} {a : Hd} {H : Hp} {d : D} {v : V} (h : Rep K a H d v) (e : d.flat = true) : v = d.v := by
  cases h <;> first | rfl | simp [D.flat] at e
theorem flat_vs {K : PySem.W.Frag} {a : Hd} {H : Hp} : ∀ {d : List D} {v : List V}, RepL K a H d v → d.all D.flat = true → v = d.map D.v
  | _, _, .nil, _ => rfl
  | d :: ds, _, .cons h r, e => by
    rw [List.all_cons, Bool.and_eq_true] at e
    rw [flat_v h e.1, flat_vs r e.2]
    rfl
end
end Fd
namespace Fd
open PySem PySem.Spec L2
section
variable {C : Ctx}

/-! ### truth, tests -/
def dTru (d : D) (q : Bool → Prop) : Prop := match d with
  | .non => q false
  | .bl b => q b
  | .int i => q (i != 0)
  | .str s => s.length ≤ sizeLine ∧ q ((s.length : Int) != 0)
  | .tup xs => q (!xs.isEmpty)
  | .lst xs => q (!xs.isEmpty)
  | .dct xs => q (!xs.isEmpty)
  | _ => False
theorem isEmptyL {K : PySem.W.Frag} {a : Hd} {H : Hp} {ds : List D} {vs : List V} (r : RepL K a H ds vs) : (!vs.isEmpty) = !ds.isEmpty := by cases r <;> rfl
theorem isEmptyK {K : PySem.W.Frag} {a : Hd} {H : Hp} {ds : List (Key × D)} {vs : List (Key × V)} (r : RepK K a H ds vs) : (!vs.isEmpty) = !ds.isEmpty := by cases r <;> rfl
theorem tru_of {K : PySem.W.Frag} {a : Hd} {Hs H : Hp} {d : D} {v : V} {q : Bool → Prop} (s : Same Hs H) (h : RepB K a Hs H d v) (w : dTru d q) : ∃ k, TruV K v H k ∧ q k := by
  cases d with
  | non => cases h with | sh h => cases h; exact ⟨false, rfl, w⟩
  | bl b => cases h with | sh h => cases h; exact ⟨b, rfl, w⟩
  | int i => cases h with | sh h => cases h; exact ⟨_, rfl, w⟩
  | str i => cases h with | sh h => cases h; exact ⟨_, ⟨w.1, rfl⟩, w.2⟩
  | tup xs =>
    obtain ⟨p, vs, rfl, h1, h2⟩ := h.tup s
    exact ⟨_, .inr (.inl ⟨vs, h1, (isEmptyL h2).symm⟩), w⟩
  | lst xs =>
    obtain ⟨p, vs, rfl, h1, h2⟩ := h.lst s
    exact ⟨_, .inl ⟨vs, SqL.of h1, (isEmptyL h2).symm⟩, w⟩
  | dct xs =>
    obtain ⟨p, vs, rfl, h1, h2⟩ := h.dct s
    exact ⟨_, .inr (.inr ⟨vs, h1, (isEmptyK h2).symm⟩), w⟩
  | _ => exact w.elim
def mTru (f : ME) : MT := fun ρ q qe => f ρ (fun d => dTru d q) qe
theorem dtt_tru {t : TE} {f : ME} (h : DB C t f) : DTt C (fun σ H Q => t σ H fun x H' => ∃ k, TruV C.K x H' k ∧ Q k H') (mTru f) := by
  refine ⟨fun Hs ρ σ H q qe Q l r w k => ?_⟩
  refine h.run Hs ρ σ H _ qe _ l r w fun d v Hs1 H1 w1 g1 r1 p1 => ?_
  obtain ⟨b, h1, h2⟩ := tru_of r1.sh p1 w1
  exact ⟨b, h1, k b Hs1 H1 h2 g1 r1⟩
/-- a comparison, as a test -/
def mVal (f : ME) : MT := fun ρ q qe => f ρ (fun d => match d with
  | .bl b => q b
  | _ => False) qe
theorem dtt_val {t : TE} {f : ME} (h : DT C t f) : DTt C (tTest t) (mVal f) := by
  refine ⟨fun Hs ρ σ H q qe Q l r w k => ?_⟩
  refine h.run Hs ρ σ H _ qe _ l r w fun d v Hs1 H1 w1 g1 r1 p1 => ?_
  split at w1
  · cases p1
    exact ⟨_, rfl, k _ Hs1 H1 w1 g1 r1⟩
  · exact w1.elim
def mAnd (f g : MT) : MT := fun ρ q qe => f ρ (fun b => if b = true then g ρ q qe else q false) qe
def mOr (f g : MT) : MT := fun ρ q qe => f ρ (fun b => if b = true then q true else g ρ q qe) qe
def mNot (f : MT) : MT := fun ρ q qe => f ρ (fun b => q (!b)) qe
theorem dtt_and {t u : TT} {f g : MT} (h : DTt C t f) (h2 : DTt C u g) : DTt C (tAnd t u) (mAnd f g) := by
  refine ⟨fun Hs ρ σ H q qe Q l r w k => ?_⟩
  refine h.run Hs ρ σ H _ qe _ l r w fun b Hs1 H1 w1 g1 r1 => ?_
  cases b with
  | true => exact h2.run Hs1 ρ σ H1 q qe Q l r1 w1 fun c Hs2 H2 w2 g2 r2 => k c Hs2 H2 w2 (g1.trans g2) r2
  | false => exact k false Hs1 H1 w1 g1 r1
theorem dtt_or {t u : TT} {f g : MT} (h : DTt C t f) (h2 : DTt C u g) : DTt C (tOr t u) (mOr f g) := by
  refine ⟨fun Hs ρ σ H q qe Q l r w k => ?_⟩
  refine h.run Hs ρ σ H _ qe _ l r w fun b Hs1 H1 w1 g1 r1 => ?_
  cases b with
  | false => exact h2.run Hs1 ρ σ H1 q qe Q l r1 w1 fun c Hs2 H2 w2 g2 r2 => k c Hs2 H2 w2 (g1.trans g2) r2
  | true => exact k true Hs1 H1 w1 g1 r1
theorem dtt_not {t : TT} {f : MT} (h : DTt C t f) : DTt C (tNot t) (mNot f) := by
  refine ⟨fun Hs ρ σ H q qe Q l r w k => ?_⟩
  exact h.run Hs ρ σ H _ qe _ l r w fun b Hs1 H1 w1 g1 r1 => k (!b) Hs1 H1 w1 g1 r1
/-- and, or, not as values -/
def eAnd (f g : ME) : ME := fun ρ q qe => f ρ (fun d => dTru d fun b => if b = true then g ρ q qe else q d) qe
def eOr (f g : ME) : ME := fun ρ q qe => f ρ (fun d => dTru d fun b => if b = true then q d else g ρ q qe) qe
def eNot (f : ME) : ME := fun ρ q qe => f ρ (fun d => dTru d fun b => q (.bl (!b))) qe
theorem dt_and {t u : TE} {f g : ME} (h : DT C t f) (h2 : DT C u g) : DT C (tAndT C.K t u) (eAnd f g) := by
  refine ⟨fun Hs ρ σ H q qe Q l r w k => ?_⟩
  refine h.run Hs ρ σ H _ qe _ l r w fun d v Hs1 H1 w1 g1 r1 p1 => ?_
  obtain ⟨b, e1, e2⟩ := tru_of r1.sh (.sh p1) w1
  refine ⟨b, e1, ?_⟩
  cases b with
  | true => exact h2.run Hs1 ρ σ H1 q qe Q l r1 e2 fun c v' Hs2 H2 w2 g2 r2 p2 => k c v' Hs2 H2 w2 (g1.trans g2) r2 p2
  | false => exact k d v Hs1 H1 e2 g1 r1 p1
theorem dt_or {t u : TE} {f g : ME} (h : DT C t f) (h2 : DT C u g) : DT C (tOrT C.K t u) (eOr f g) := by
  refine ⟨fun Hs ρ σ H q qe Q l r w k => ?_⟩
  refine h.run Hs ρ σ H _ qe _ l r w fun d v Hs1 H1 w1 g1 r1 p1 => ?_
  obtain ⟨b, e1, e2⟩ := tru_of r1.sh (.sh p1) w1
  refine ⟨b, e1, ?_⟩
  cases b with
  | false => exact h2.run Hs1 ρ σ H1 q qe Q l r1 e2 fun c v' Hs2 H2 w2 g2 r2 p2 => k c v' Hs2 H2 w2 (g1.trans g2) r2 p2
  | true => exact k d v Hs1 H1 e2 g1 r1 p1
theorem dt_not {t : TE} {f : ME} (h : DB C t f) : DT C (tNotT C.K t) (eNot f) := by
  refine ⟨fun Hs ρ σ H q qe Q l r w k => ?_⟩
  refine h.run Hs ρ σ H _ qe _ l r w fun d v Hs1 H1 w1 g1 r1 p1 => ?_
  obtain ⟨b, e1, e2⟩ := tru_of r1.sh p1 w1
  exact ⟨b, e1, k _ _ Hs1 H1 e2 g1 r1 (.bl _)⟩
def eIf (c : MT) (f g : ME) : ME := fun ρ q qe => c ρ (fun b => if b = true then f ρ q qe else g ρ q qe) qe
theorem dt_if {tc : TT} {t u : TE} {c : MT} {f g : ME} (hc : DTt C tc c) (h : DT C t f) (h2 : DT C u g) : DT C (tIf tc t u) (eIf c f g) := by
  refine ⟨fun Hs ρ σ H q qe Q l r w k => ?_⟩
  refine hc.run Hs ρ σ H _ qe _ l r w fun b Hs1 H1 w1 g1 r1 => ?_
  cases b with
  | true => exact h.run Hs1 ρ σ H1 q qe Q l r1 w1 fun c v' Hs2 H2 w2 g2 r2 p2 => k c v' Hs2 H2 w2 (g1.trans g2) r2 p2
  | false => exact h2.run Hs1 ρ σ H1 q qe Q l r1 w1 fun c v' Hs2 H2 w2 g2 r2 p2 => k c v' Hs2 H2 w2 (g1.trans g2) r2 p2
/-- -a -/
def eNeg (f : ME) : ME := fun ρ q qe => f ρ (fun d => match d with
  | .int i => q (.int (-i))
  | _ => False) qe
theorem dt_neg {t : TE} {f : ME} (h : DB C t f) : DT C (tUn (rU fun i => .int (-i)) t) (eNeg f) := by
  refine ⟨fun Hs ρ σ H q qe Q l r w k => ?_⟩
  refine h.run Hs ρ σ H _ qe _ l r w fun d v Hs1 H1 w1 g1 r1 p1 => ?_
  split at w1
  · cases p1 with
    | sh p => cases p; exact ⟨_, rfl, k _ _ Hs1 H1 w1 g1 r1 (.int _)⟩
  · exact w1.elim
/-- a < b < c -/
def eChain (o o' : O2) (fa fb fc : ME) : ME := fun ρ q qe => fa ρ (fun x => fb ρ (fun y => o x y fun z => match z with
  | .bl b => if b = true then fc ρ (fun w => o' y w q) qe else q (.bl false)
  | _ => False) qe) qe
theorem dt_chain {t t' : R2} {o o' : O2} {ta tb tc : TE} {fa fb fc : ME} (h : D2 C t o) (h' : D2 C t' o') (ha : DB C ta fa) (hb : DB C tb fb) (hc : DB C tc fc) : DT C (tChain t t' ta tb tc) (eChain o o' fa fb fc) := by
  refine ⟨fun Hs ρ σ H q qe Q l r w k => ?_⟩
  refine ha.run Hs ρ σ H _ qe _ l r w fun x vx Hs1 H1 w1 g1 r1 p1 => ?_
  refine hb.run Hs1 ρ σ H1 _ qe _ l r1 w1 fun y vy Hs2 H2 w2 g2 r2 p2 => ?_
  refine h.run Hs2 ρ σ H2 x y vx vy _ _ r2 (p1.mono g2.s g2.b) p2 w2 fun d v Hs3 H3 w3 g3 r3 p3 => ?_
  split at w3
  · cases p3
    refine ⟨_, rfl, ?_⟩
    split at w3
    · rename_i b e
      rw [if_pos e]
      refine hc.run Hs3 ρ σ H3 _ qe _ l r3 w3 fun z vz Hs4 H4 w4 g4 r4 p4 => ?_
      exact h'.run Hs4 ρ σ H4 y z vy vz q Q r4 ((p2.mono g3.s g3.b).mono g4.s g4.b) p4 w4 fun d v Hs5 H5 e g5 r5 p5 => k d v Hs5 H5 e (g1.trans (g2.trans (g3.trans (g4.trans g5)))) r5 p5
    · rename_i b e
      rw [if_neg e]
      exact k _ _ Hs3 H3 w3 (g1.trans (g2.trans g3)) r3 (.bl _)
  · exact w3.elim

/-! ### in -/
def dIn (neg : Bool) : O2 := fun x y q => match y with
  | .lst ys => (x.flat = true ∧ ys.all D.flat = true) ∧ q (.bl (if neg then !inV x.v (ys.map D.v) else inV x.v (ys.map D.v)))
  | .tup ys => (x.flat = true ∧ ys.all D.flat = true) ∧ q (.bl (if neg then !inV x.v (ys.map D.v) else inV x.v (ys.map D.v)))
  | _ => False
theorem flat_V {d : D} (h : d.flat = true) : flatV d.v = true := by cases d <;> first | rfl | simp [D.flat] at h
theorem flat_Vs : ∀ {ds : List D}, ds.all D.flat = true → (ds.map D.v).all flatV = true
  | [], _ => rfl
  | d :: ds, h => by
    rw [List.all_cons, Bool.and_eq_true] at h
    rw [List.map_cons, List.all_cons, flat_V h.1, flat_Vs h.2]
    rfl
theorem repB_flat {K : PySem.W.Frag} {a : Hd} {Hs H : Hp} {d : D} {v : V} (h : RepB K a Hs H d v) (e : d.flat = true) : v = d.v := by
  cases h with
  | sh h => exact flat_v h e
  | ol _ _ _ => simp [D.flat] at e
  | od _ _ _ => simp [D.flat] at e
theorem d2_in {neg : Bool} : D2 C (rIn C.K neg) (dIn neg) := by
  refine ⟨fun Hs ρ σ H x y vx vy q Q r px py w k => ?_⟩
  unfold dIn at w
  split at w
  · obtain ⟨p, vs, rfl, h1, h2⟩ := py.lst r.sh
    obtain ⟨⟨w1, w2⟩, w3⟩ := w
    obtain rfl := repB_flat px w1
    obtain rfl := flat_vs h2 w2
    exact ⟨p, _, rfl, .inl (SqL.of h1), flat_V w1, flat_Vs w2, k _ _ Hs H w3 Gr.refl r (.bl _)⟩
  · obtain ⟨p, vs, rfl, h1, h2⟩ := py.tup r.sh
    obtain ⟨⟨w1, w2⟩, w3⟩ := w
    obtain rfl := repB_flat px w1
    obtain rfl := flat_vs h2 w2
    exact ⟨p, _, rfl, .inr h1, flat_V w1, flat_Vs w2, k _ _ Hs H w3 Gr.refl r (.bl _)⟩
  · exact w.elim

/-! ### fields, items, slices -/
/-- what the written part says of the field f of the classes cs -/
def FldOk (K : PySem.W.Frag) (cs : List Str) (f : Str) : Prop := ∀ c ∈ cs, Cls K (He.ga K c) ∧ NoAttr K (He.ga K c) f
def eFld (cs : List Str) (f : Str) (fe : ME) : ME := fun ρ q qe => fe ρ (fun d => match d with
  | .obj c fs => c ∈ cs ∧ (match fs.lookup f with
    | some d' => q d'
    | none => False)
  | _ => False) qe
theorem dt_fld {cs : List Str} {f : Str} {t : TE} {fe : ME} (ok : FldOk C.K cs f) (h : DB C t fe) : DT C (tFld C.K t f) (eFld cs f fe) := by
  refine ⟨fun Hs ρ σ H q qe Q l r w k => ?_⟩
  refine h.run Hs ρ σ H _ qe _ l r w fun d v Hs1 H1 w1 g1 r1 p1 => ?_
  split at w1
  · obtain ⟨w1, w2⟩ := w1
    split at w2
    · rename_i e
      cases p1 with
      | sh p =>
        cases p with
        | obj h1 h2 h3 =>
          obtain ⟨v, e1, h4⟩ := h3.look e
          exact ⟨_, _, _, _, v, rfl, r1.sh _ _ h1, (ok _ w1).1, (ok _ w1).2, e1, k _ _ Hs1 H1 w2 g1 r1 h4⟩
    · exact w2.elim
  · exact w1.elim
def dIx : O2 := fun x y q => match x, y with
  | .lst xs, .int i => (match atI xs i with
    | some d => q d
    | none => False)
  | .tup xs, .int i => (match atI xs i with
    | some d => q d
    | none => False)
  | .str z, .int i => z.length ≤ sizeLine ∧ (match atI z.cps.toList i with
    | some c => q (.str ⟨#[c]⟩)
    | none => False)
  | _, _ => False
theorem atI_rep {K : PySem.W.Frag} {a : Hd} {H : Hp} {ds : List D} {vs : List V} {i : Int} {d : D} (r : RepL K a H ds vs) (e : atI ds i = some d) : ∃ v, atI vs i = some v ∧ Rep K a H d v := by
  unfold atI at e ⊢
  rw [← r.length]
  cases q : ixN ds.length i with
  | none => rw [q] at e; cases e
  | some j =>
    rw [q] at e
    exact r.getD e
theorem d2_ix : D2 C (rIx C.K) dIx := by
  refine ⟨fun Hs ρ σ H x y vx vy q Q r px py w k => ?_⟩
  unfold dIx at w
  split at w
  · split at w
    · rename_i e
      obtain ⟨p, vs, rfl, h1, h2⟩ := px.lst r.sh
      cases py with
      | sh py =>
        cases py
        obtain ⟨v, e1, h3⟩ := atI_rep h2 e
        exact .inl ⟨p, vs, _, v, rfl, rfl, SqL.of h1, e1, k _ _ Hs H w Gr.refl r h3⟩
    · exact w.elim
  · split at w
    · rename_i e
      obtain ⟨p, vs, rfl, h1, h2⟩ := px.tup r.sh
      cases py with
      | sh py =>
        cases py
        obtain ⟨v, e1, h3⟩ := atI_rep h2 e
        exact .inr (.inl ⟨p, vs, _, v, rfl, rfl, h1, e1, k _ _ Hs H w Gr.refl r h3⟩)
    · exact w.elim
  · obtain ⟨w0, w⟩ := w
    split at w
    · rename_i e
      cases px with
      | sh px =>
        cases px
        cases py with
        | sh py =>
          cases py
          exact .inr (.inr ⟨_, _, _, rfl, rfl, w0, e, k _ _ Hs H w Gr.refl r (.str _)⟩)
    · exact w.elim
  · exact w.elim
/-- an optional int -/
abbrev MO := List En → (Option Int → Prop) → QE → Prop
structure DO (C : Ctx) (t : TO) (f : MO) : Prop where
  run : ∀ Hs ρ σ H q qe Q, (∀ x, qe x → C.W x) → RS C Hs ρ σ H → f ρ q qe →
    (∀ o Hs' H', q o → Gr C.a Hs H Hs' H' → RS C Hs' ρ σ H' → Q o H') → t σ H Q
def oNone : MO := fun _ q _ => q none
def oSome (f : ME) : MO := fun ρ q qe => f ρ (fun d => match d with
  | .int i => q (some i)
  | _ => False) qe
theorem do_none : DO C tNoPart oNone := ⟨fun Hs ρ σ H q qe Q l r w k => k none Hs H w Gr.refl r⟩
theorem do_some {t : TE} {f : ME} (h : DT C t f) : DO C (tPart t) (oSome f) := by
  refine ⟨fun Hs ρ σ H q qe Q l r w k => ?_⟩
  refine h.run Hs ρ σ H _ qe _ l r w fun d v Hs1 H1 w1 g1 r1 p1 => ?_
  split at w1
  · cases p1
    exact ⟨_, rfl, k _ Hs1 H1 w1 g1 r1⟩
  · exact w1.elim
/-- a list's part between two places -/
def cutD {α : Type} (xs : List α) (lo hi : Option Int) : List α := (xs.drop (HT.sIx xs.length 0 lo)).take (HT.sIx xs.length xs.length hi - HT.sIx xs.length 0 lo)
def dSl (x : D) (lo hi : Option Int) (q : D → Prop) : Prop := match x with
  | .lst xs => q (.lst (cutD xs lo hi))
  | .tup xs => q (.tup (cutD xs lo hi))
  | .str z => z.length ≤ sizeLine ∧ q (.str (Txt.slice z lo hi))
  | .scr ns => q (.lst (cutD (ns.map D.int) lo hi))
  | _ => False
def rSlAny (K : PySem.W.Frag) : V → Option Int → Option Int → Hp → VK → Prop := fun x lo hi H Q => (rSlL K x lo hi H Q ∨ rSlA K x lo hi H Q) ∨ (∃ z, x = .str z ∧ z.length ≤ sizeLine ∧ Q (.str (Txt.slice z lo hi)) H)
theorem RepL.cut {K : PySem.W.Frag} {a : Hd} {H : Hp} {ds : List D} {vs : List V} (r : RepL K a H ds vs) (lo hi : Option Int) : RepL K a H (cutD ds lo hi) (cutV vs lo hi) := by
  unfold cutD cutV
  rw [r.length]
  exact (r.drop _).take _
def eSl (f : ME) (lo hi : MO) : ME := fun ρ q qe => f ρ (fun d => lo ρ (fun l => hi ρ (fun u => dSl d l u q) qe) qe) qe
theorem dt_sl {t : TE} {tl th : TO} {f : ME} {lo hi : MO} (h : DB C t f) (hl : DO C tl lo) (hh : DO C th hi) : DT C (tSl (rSlAny C.K) t tl th) (eSl f lo hi) := by
  refine ⟨fun Hs ρ σ H q qe Q l r w k => ?_⟩
  refine h.run Hs ρ σ H _ qe _ l r w fun d v Hs1 H1 w1 g1 r1 p1 => ?_
  refine hl.run Hs1 ρ σ H1 _ qe _ l r1 w1 fun o Hs2 H2 w2 g2 r2 => ?_
  refine hh.run Hs2 ρ σ H2 _ qe _ l r2 w2 fun u Hs3 H3 w3 g3 r3 => ?_
  have p3 := (p1.mono g2.s g2.b).mono g3.s g3.b
  have g13 := g1.trans (g2.trans g3)
  unfold dSl at w3
  split at w3
  · obtain ⟨p, vs, rfl, h1, h2⟩ := p3.lst r3.sh
    refine .inl (.inl ⟨p, vs, rfl, SqL.of h1, fun a ha => ?_⟩)
    obtain ⟨s, g, r'⟩ := upd_rs (o := .lst (cutV vs o u)) r3 ha
    exact k _ _ _ _ w3 (g13.trans g) r' (.lst upd_same ((h2.cut o u).mono s))
  · obtain ⟨p, vs, rfl, h1, h2⟩ := p3.tup r3.sh
    have tx := p3.tupR
    refine .inl (.inr ⟨p, vs, rfl, h1, fun e => ?_, fun _ a ha => ?_⟩)
    · refine k _ _ _ _ w3 g13 r3 ?_
      have e2 : ∀ xs : List D, xs.length = vs.length → cutD xs o u = xs := fun xs hx => by
        unfold cutD
        rw [hx, e.1, e.2, List.drop_zero, Nat.sub_zero, ← hx]
        exact List.take_length
      rw [e2 _ h2.length]
      exact tx
    · obtain ⟨s, g, r'⟩ := upd_rs (o := .tup (cutV vs o u)) r3 ha
      exact k _ _ _ _ w3 (g13.trans g) r' (.tup (SqT.of upd_same) ((h2.cut o u).mono s))
  · cases p3 with
    | sh p => cases p; exact .inr ⟨_, rfl, w3.1, k _ _ Hs3 H3 w3.2 g13 r3 (.str _)⟩
  · cases p3 with
    | sh p =>
      cases p with
      | scr h =>
        refine .inl (.inl ⟨_, _, rfl, r3.sh.seq h, fun a ha => ?_⟩)
        obtain ⟨s, g, r'⟩ := upd_rs (o := .lst (cutV _ o u)) r3 ha
        exact k _ _ _ _ w3 (g13.trans g) r' (.lst upd_same (RepL.cut (RepL.ofInts _) o u))
  · exact w3.elim

/-! ### arguments, displays -/
def aNil : MA := fun _ q _ => q []
def aCons (f : ME) (g : MA) : MA := fun ρ q qe => f ρ (fun d => g ρ (fun ds => q (d :: ds)) qe) qe
theorem da_nil : DA C tNil aNil := ⟨fun Hs ρ σ H q qe Q l r w k => k [] [] Hs H w Gr.refl r .nil⟩
theorem da_cons {t : TE} {u : TA} {f : ME} {g : MA} (h : DT C t f) (h2 : DA C u g) : DA C (tCons t u) (aCons f g) := by
  refine ⟨fun Hs ρ σ H q qe Q l r w k => ?_⟩
  refine h.run Hs ρ σ H _ qe _ l r w fun d v Hs1 H1 w1 g1 r1 p1 => ?_
  exact h2.run Hs1 ρ σ H1 _ qe _ l r1 w1 fun ds vs Hs2 H2 w2 g2 r2 p2 => k _ _ Hs2 H2 w2 (g1.trans g2) r2 (.cons (p1.mono g2.s) p2)
theorem dba_nil : DBA C tNil aNil := ⟨fun Hs ρ σ H q qe Q l r w k => k [] [] Hs H w Gr.refl r .nil⟩
theorem dba_cons {t : TE} {u : TA} {f : ME} {g : MA} (h : DB C t f) (h2 : DBA C u g) : DBA C (tCons t u) (aCons f g) := by
  refine ⟨fun Hs ρ σ H q qe Q l r w k => ?_⟩
  refine h.run Hs ρ σ H _ qe _ l r w fun d v Hs1 H1 w1 g1 r1 p1 => ?_
  exact h2.run Hs1 ρ σ H1 _ qe _ l r1 w1 fun ds vs Hs2 H2 w2 g2 r2 p2 => k _ _ Hs2 H2 w2 (g1.trans g2) r2 (.cons (p1.mono g2.s g2.b) p2)
def eTup (g : MA) : ME := fun ρ q qe => g ρ (fun ds => ds.length ≤ sizeLine ∧ q (.tup ds)) qe
theorem dt_tup {u : TA} {g : MA} (h : DA C u g) : DT C (tTup u) (eTup g) := by
  refine ⟨fun Hs ρ σ H q qe Q l r w k => ?_⟩
  refine h.run Hs ρ σ H _ qe _ l r w fun ds vs Hs1 H1 w1 g1 r1 p1 => ⟨by rw [← p1.length]; exact w1.1, fun a ha => ?_⟩
  obtain ⟨s, g, r'⟩ := upd_rs (o := .tup vs) r1 ha
  exact k _ _ _ _ w1.2 (g1.trans g) r' (.tup (SqT.of upd_same) (p1.mono s))
def fLst (g : MA) : MA := fun ρ q qe => g ρ (fun ds => ds.length ≤ sizeLine ∧ q ds) qe
theorem df_lst {u : TA} {g : MA} (h : DA C u g) : DF C (tLst u) (fLst g) := by
  refine ⟨fun Hs ρ σ H q qe Q l r w k => ?_⟩
  exact h.run Hs ρ σ H _ qe _ l r w fun ds vs Hs1 H1 w1 g1 r1 p1 => ⟨by rw [← p1.length]; exact w1.1, fun a ha => k ds a vs Hs1 H1 w1.2 g1 r1 ha p1⟩
end
end Fd
namespace Fd
open PySem PySem.Spec L2
section
variable {C : Ctx}

/-! ### built-in functions by values -/
abbrev O1 := List D → (D → Prop) → Prop
structure DC1 (C : Ctx) (t : List V → Hp → VK → Prop) (op : O1) : Prop where
  run : ∀ Hs ρ σ H xs vs q Q, RS C Hs ρ σ H → RepBL C.K C.a Hs H xs vs → op xs q →
    (∀ d v Hs' H', q d → Gr C.a Hs H Hs' H' → RS C Hs' ρ σ H' → Rep C.K C.a Hs' d v → Q v H') → t vs H Q
def eCB (op : O1) (g : MA) : ME := fun ρ q qe => g ρ (fun ds => op ds q) qe
theorem dt_cb {t : List V → Hp → VK → Prop} {op : O1} {ta : TA} {g : MA} (h : DC1 C t op) (ha : DBA C ta g) : DT C (tCB t ta) (eCB op g) := by
  refine ⟨fun Hs ρ σ H q qe Q l r w k => ?_⟩
  refine ha.run Hs ρ σ H _ qe _ l r w fun ds vs Hs1 H1 w1 g1 r1 p1 => ?_
  exact h.run Hs1 ρ σ H1 ds vs q Q r1 p1 w1 fun d v Hs2 H2 e g2 r2 p2 => k d v Hs2 H2 e (g1.trans g2) r2 p2
/-- .. that give a new list -/
abbrev OF := List D → (List D → Prop) → Prop
structure DCF (C : Ctx) (t : List V → Hp → VK → Prop) (op : OF) : Prop where
  run : ∀ Hs ρ σ H xs vs q Q, RS C Hs ρ σ H → RepBL C.K C.a Hs H xs vs → op xs q →
    (∀ ds p us Hs' H', q ds → Gr C.a Hs H Hs' H' → RS C Hs' ρ σ H' → H' p = none → RepL C.K C.a Hs' ds us → Q (.ref p) (upd H' p (.lst us))) → t vs H Q
def fCB (op : OF) (g : MA) : MA := fun ρ q qe => g ρ (fun ds => op ds q) qe
theorem df_cb {t : List V → Hp → VK → Prop} {op : OF} {ta : TA} {g : MA} (h : DCF C t op) (ha : DBA C ta g) : DF C (tCB t ta) (fCB op g) := by
  refine ⟨fun Hs ρ σ H q qe Q l r w k => ?_⟩
  refine ha.run Hs ρ σ H _ qe _ l r w fun ds vs Hs1 H1 w1 g1 r1 p1 => ?_
  exact h.run Hs1 ρ σ H1 ds vs q Q r1 p1 w1 fun es p us Hs2 H2 e g2 r2 hp p2 => k es p us Hs2 H2 e (g1.trans g2) r2 hp p2

theorem repBL1 {K : PySem.W.Frag} {a : Hd} {Hs H : Hp} {d : D} {vs : List V} (h : RepBL K a Hs H [d] vs) : ∃ v, vs = [v] ∧ RepB K a Hs H d v := by
  cases h with
  | cons h r => cases r; exact ⟨_, rfl, h⟩
theorem repBL2 {K : PySem.W.Frag} {a : Hd} {Hs H : Hp} {d e : D} {vs : List V} (h : RepBL K a Hs H [d, e] vs) : ∃ v w, vs = [v, w] ∧ RepB K a Hs H d v ∧ RepB K a Hs H e w := by
  cases h with
  | cons h r => cases r with
    | cons h2 r2 => cases r2; exact ⟨_, _, rfl, h, h2⟩
theorem repB_int {K : PySem.W.Frag} {a : Hd} {Hs H : Hp} {i : Int} {v : V} (h : RepB K a Hs H (.int i) v) : v = .int i := by
  cases h with
  | sh h => cases h; rfl
theorem repB_bl {K : PySem.W.Frag} {a : Hd} {Hs H : Hp} {i : Bool} {v : V} (h : RepB K a Hs H (.bl i) v) : v = .bl i := by
  cases h with
  | sh h => cases h; rfl
theorem repB_str {K : PySem.W.Frag} {a : Hd} {Hs H : Hp} {i : Str} {v : V} (h : RepB K a Hs H (.str i) v) : v = .str i := by
  cases h with
  | sh h => cases h; rfl

def dLen : O1 := fun xs q => match xs with
  | [.lst ys] => q (.int ys.length)
  | [.tup ys] => q (.int ys.length)
  | [.dct ys] => q (.int ys.length)
  | [.str z] => z.length ≤ sizeLine ∧ q (.int z.length)
  | _ => False
def rLenX (K : PySem.W.Frag) : List V → Hp → VK → Prop := fun xs H Q => (∃ x n, xs = [x] ∧ LenV K x H n ∧ Q (.int n) H) ∨ (∃ a kvs, xs = [V.ref a] ∧ H a = some (.dK kvs) ∧ Q (.int kvs.length) H)
theorem call_lenX {X : Cx} : CallR X (.builtin "len") (rLenX X.K) := CallR.or call_len call_lenD
theorem RepK.length {K : PySem.W.Frag} {a : Hd} {H : Hp} : ∀ {ds : List (Key × D)} {vs : List (Key × V)}, RepK K a H ds vs → ds.length = vs.length
  | _, _, .nil => rfl
  | _, _, .cons _ r => congrArg (· + 1) (RepK.length r)
theorem dc_len : DC1 C (rLenX C.K) dLen := by
  refine ⟨fun Hs ρ σ H xs vs q Q r p w k => ?_⟩
  unfold dLen at w
  split at w
  · obtain ⟨v, rfl, h⟩ := repBL1 p
    obtain ⟨a, us, rfl, h1, h2⟩ := h.lst r.sh
    exact .inl ⟨_, _, rfl, .inl ⟨us, SqL.of h1, h2.length⟩, k _ _ Hs H w Gr.refl r (.int _)⟩
  · obtain ⟨v, rfl, h⟩ := repBL1 p
    obtain ⟨a, us, rfl, h1, h2⟩ := h.tup r.sh
    exact .inl ⟨_, _, rfl, .inr ⟨us, h1, h2.length⟩, k _ _ Hs H w Gr.refl r (.int _)⟩
  · obtain ⟨v, rfl, h⟩ := repBL1 p
    obtain ⟨a, us, rfl, h1, h2⟩ := h.dct r.sh
    refine .inr ⟨_, _, rfl, h1, ?_⟩
    rw [← h2.length]
    exact k _ _ Hs H w Gr.refl r (.int _)
  · obtain ⟨v, rfl, h⟩ := repBL1 p
    obtain rfl := repB_str h
    exact .inl ⟨_, _, rfl, ⟨w.1, rfl⟩, k _ _ Hs H w.2 Gr.refl r (.int _)⟩
  · exact w.elim

/-- a list of ints, of flags -/
def D.ints : List D → Option (List Int)
  | [] => some []
  | .int i :: r => (D.ints r).map (i :: ·)
  | _ :: _ => none
def D.bools : List D → Option (List Bool)
  | [] => some []
  | .bl i :: r => (D.bools r).map (i :: ·)
  | _ :: _ => none
theorem ints_map : ∀ ns : List Int, D.ints (ns.map .int) = some ns
  | [] => rfl
  | n :: ns => by
    rw [List.map_cons, D.ints, ints_map ns]
    rfl
theorem bools_map : ∀ ns : List Bool, D.bools (ns.map .bl) = some ns
  | [] => rfl
  | n :: ns => by
    rw [List.map_cons, D.bools, bools_map ns]
    rfl
theorem ints_eq : ∀ {xs : List D} {ns : List Int}, D.ints xs = some ns → xs = ns.map .int
  | [], ns, h => by
    cases h
    rfl
  | .int i :: r, ns, h => by
    rw [D.ints] at h
    cases q : D.ints r with
    | none => rw [q] at h; cases h
    | some ms =>
      rw [q] at h
      cases h
      rw [ints_eq q]
      rfl
  | .non :: _, _, h => by cases h
  | .bl _ :: _, _, h => by cases h
  | .str _ :: _, _, h => by cases h
  | .tup _ :: _, _, h => by cases h
  | .lst _ :: _, _, h => by cases h
  | .dct _ :: _, _, h => by cases h
  | .obj _ _ :: _, _, h => by cases h
  | .hand :: _, _, h => by cases h
  | .scr _ :: _, _, h => by cases h
theorem bools_eq : ∀ {xs : List D} {ns : List Bool}, D.bools xs = some ns → xs = ns.map .bl
  | [], ns, h => by
    cases h
    rfl
  | .bl i :: r, ns, h => by
    rw [D.bools] at h
    cases q : D.bools r with
    | none => rw [q] at h; cases h
    | some ms =>
      rw [q] at h
      cases h
      rw [bools_eq q]
      rfl
  | .non :: _, _, h => by cases h
  | .int _ :: _, _, h => by cases h
  | .str _ :: _, _, h => by cases h
  | .tup _ :: _, _, h => by cases h
  | .lst _ :: _, _, h => by cases h
  | .dct _ :: _, _, h => by cases h
  | .obj _ _ :: _, _, h => by cases h
  | .hand :: _, _, h => by cases h
  | .scr _ :: _, _, h => by cases h
/-- the greatest, the least -/
def maxI : List Int → Int
  | [] => 0
  | x :: xs => xs.foldl max x
def minI : List Int → Int
  | [] => 0
  | x :: xs => xs.foldl min x
theorem foldl_max_mem : ∀ (xs : List Int) (x : Int), xs.foldl max x ∈ x :: xs
  | [], x => List.mem_cons_self ..
  | y :: ys, x => by
    rw [List.foldl_cons]
    have h := foldl_max_mem ys (max x y)
    rcases List.mem_cons.mp h with h | h
    · rw [h]
      by_cases q : x ≤ y
      · rw [Int.max_eq_right q]
        exact List.mem_cons_of_mem _ (List.mem_cons_self ..)
      · rw [Int.max_eq_left (by omega)]
        exact List.mem_cons_self ..
    · exact List.mem_cons_of_mem _ (List.mem_cons_of_mem _ h)
theorem foldl_max_le : ∀ (xs : List Int) (x y : Int), y ∈ x :: xs → y ≤ xs.foldl max x
  | [], x, y, h => by
    have e := List.mem_singleton.mp h
    rw [e]
    exact Int.le_refl _
  | z :: zs, x, y, h => by
    rw [List.foldl_cons]
    rcases List.mem_cons.mp h with h | h
    · exact Int.le_trans (by rw [h]; exact Int.le_max_left _ _) (foldl_max_le zs (max x z) (max x z) (List.mem_cons_self ..))
    · rcases List.mem_cons.mp h with h | h
      · exact Int.le_trans (by rw [h]; exact Int.le_max_right _ _) (foldl_max_le zs (max x z) (max x z) (List.mem_cons_self ..))
      · exact foldl_max_le zs (max x z) y (List.mem_cons_of_mem _ h)
theorem maxI_mem {xs : List Int} (h : xs ≠ []) : maxI xs ∈ xs := by
  cases xs with
  | nil => exact absurd rfl h
  | cons x xs => exact foldl_max_mem xs x
theorem maxI_le {xs : List Int} {y : Int} (h : y ∈ xs) : y ≤ maxI xs := by
  cases xs with
  | nil => cases h
  | cons x xs => exact foldl_max_le xs x y h
theorem foldl_min_mem : ∀ (xs : List Int) (x : Int), xs.foldl min x ∈ x :: xs
  | [], x => List.mem_cons_self ..
  | y :: ys, x => by
    rw [List.foldl_cons]
    have h := foldl_min_mem ys (min x y)
    rcases List.mem_cons.mp h with h | h
    · rw [h]
      by_cases q : x ≤ y
      · rw [Int.min_eq_left q]
        exact List.mem_cons_self ..
      · rw [Int.min_eq_right (by omega)]
        exact List.mem_cons_of_mem _ (List.mem_cons_self ..)
    · exact List.mem_cons_of_mem _ (List.mem_cons_of_mem _ h)
theorem foldl_min_le : ∀ (xs : List Int) (x y : Int), y ∈ x :: xs → xs.foldl min x ≤ y
  | [], x, y, h => by
    have e := List.mem_singleton.mp h
    rw [e]
    exact Int.le_refl _
  | z :: zs, x, y, h => by
    rw [List.foldl_cons]
    rcases List.mem_cons.mp h with h | h
    · exact Int.le_trans (foldl_min_le zs (min x z) (min x z) (List.mem_cons_self ..)) (by rw [h]; exact Int.min_le_left _ _)
    · rcases List.mem_cons.mp h with h | h
      · exact Int.le_trans (foldl_min_le zs (min x z) (min x z) (List.mem_cons_self ..)) (by rw [h]; exact Int.min_le_right _ _)
      · exact foldl_min_le zs (min x z) y (List.mem_cons_of_mem _ h)
theorem minI_mem {xs : List Int} (h : xs ≠ []) : minI xs ∈ xs := by
  cases xs with
  | nil => exact absurd rfl h
  | cons x xs => exact foldl_min_mem xs x
theorem minI_le {xs : List Int} {y : Int} (h : y ∈ xs) : minI xs ≤ y := by
  cases xs with
  | nil => cases h
  | cons x xs => exact foldl_min_le xs x y h

/-- max, min: of two ints, of a list of ints -/
def dMax : O1 := fun xs q => match xs with
  | [.int i, .int j] => q (.int (if j > i then j else i))
  | [.lst ys] => (match D.ints ys with
    | some ns => ns ≠ [] ∧ q (.int (maxI ns))
    | none => False)
  | _ => False
def dMin : O1 := fun xs q => match xs with
  | [.int i, .int j] => q (.int (if j < i then j else i))
  | [.lst ys] => (match D.ints ys with
    | some ns => ns ≠ [] ∧ q (.int (minI ns))
    | none => False)
  | _ => False
def rMaxX (K : PySem.W.Frag) : List V → Hp → VK → Prop := fun xs H Q => (∃ i j, xs = [V.int i, V.int j] ∧ Q (.int (if j > i then j else i)) H) ∨ rMax K xs H Q
def rMinX (K : PySem.W.Frag) : List V → Hp → VK → Prop := fun xs H Q => (∃ i j, xs = [V.int i, V.int j] ∧ Q (.int (if j < i then j else i)) H) ∨ rMin K xs H Q
theorem call_maxX {X : Cx} (hc : X.calm = true) : CallR X (.builtin "max") (rMaxX X.K) := CallR.or (call_max2 hc) (cr_max hc)
theorem call_minX {X : Cx} (hc : X.calm = true) : CallR X (.builtin "min") (rMinX X.K) := CallR.or (call_min2 hc) (cr_min hc)
theorem dc_max : DC1 C (rMaxX C.K) dMax := by
  refine ⟨fun Hs ρ σ H xs vs q Q r p w k => ?_⟩
  unfold dMax at w
  split at w
  · obtain ⟨v, u, rfl, h, h'⟩ := repBL2 p
    obtain rfl := repB_int h
    obtain rfl := repB_int h'
    exact .inl ⟨_, _, rfl, k _ _ Hs H w Gr.refl r (.int _)⟩
  · obtain ⟨v, rfl, h⟩ := repBL1 p
    obtain ⟨a, us, rfl, h1, h2⟩ := h.lst r.sh
    split at w
    · rename_i ns e
      obtain ⟨w1, w2⟩ := w
      have e2 := ints_eq e
      subst e2
      obtain rfl := h2.ints
      refine .inr ⟨a, ns, rfl, SqL.of h1, List.length_pos_iff.mpr w1, fun m hm hle => ?_⟩
      have em : m = maxI ns := Int.le_antisymm (maxI_le hm) (hle _ (maxI_mem w1))
      rw [em]
      exact k _ _ Hs H w2 Gr.refl r (.int _)
    · exact w.elim
  · exact w.elim
theorem dc_min : DC1 C (rMinX C.K) dMin := by
  refine ⟨fun Hs ρ σ H xs vs q Q r p w k => ?_⟩
  unfold dMin at w
  split at w
  · obtain ⟨v, u, rfl, h, h'⟩ := repBL2 p
    obtain rfl := repB_int h
    obtain rfl := repB_int h'
    exact .inl ⟨_, _, rfl, k _ _ Hs H w Gr.refl r (.int _)⟩
  · obtain ⟨v, rfl, h⟩ := repBL1 p
    obtain ⟨a, us, rfl, h1, h2⟩ := h.lst r.sh
    split at w
    · rename_i ns e
      obtain ⟨w1, w2⟩ := w
      have e2 := ints_eq e
      subst e2
      obtain rfl := h2.ints
      refine .inr ⟨a, ns, rfl, SqL.of h1, List.length_pos_iff.mpr w1, fun m hm hle => ?_⟩
      have em : m = minI ns := Int.le_antisymm (hle _ (minI_mem w1)) (minI_le hm)
      rw [em]
      exact k _ _ Hs H w2 Gr.refl r (.int _)
    · exact w.elim
  · exact w.elim
/-- sum, all, any of a list -/
def dSum : O1 := fun xs q => match xs with
  | [.lst ys] => (match D.ints ys with
    | some ns => q (.int ns.sum)
    | none => False)
  | _ => False
theorem dc_sum : DC1 C (rSum C.K) dSum := by
  refine ⟨fun Hs ρ σ H xs vs q Q r p w k => ?_⟩
  unfold dSum at w
  split at w
  · obtain ⟨v, rfl, h⟩ := repBL1 p
    obtain ⟨a, us, rfl, h1, h2⟩ := h.lst r.sh
    split at w
    · rename_i ns e
      have e2 := ints_eq e
      subst e2
      obtain rfl := h2.ints
      exact ⟨a, ns, rfl, SqL.of h1, k _ _ Hs H w Gr.refl r (.int _)⟩
    · exact w.elim
  · exact w.elim
def dAll : O1 := fun xs q => match xs with
  | [.lst ys] => (match D.bools ys with
    | some ns => q (.bl (ns.all id))
    | none => False)
  | _ => False
theorem dc_all : DC1 C (rAll C.K) dAll := by
  refine ⟨fun Hs ρ σ H xs vs q Q r p w k => ?_⟩
  unfold dAll at w
  split at w
  · obtain ⟨v, rfl, h⟩ := repBL1 p
    obtain ⟨a, us, rfl, h1, h2⟩ := h.lst r.sh
    split at w
    · rename_i ns e
      have e2 := bools_eq e
      subst e2
      obtain rfl := h2.bools
      exact ⟨a, ns, rfl, SqL.of h1, k _ _ Hs H w Gr.refl r (.bl _)⟩
    · exact w.elim
  · exact w.elim
def dAny : O1 := fun xs q => match xs with
  | [.lst ys] => (match D.bools ys with
    | some ns => q (.bl (ns.any id))
    | none => False)
  | _ => False
theorem dc_any : DC1 C (rAny C.K) dAny := by
  refine ⟨fun Hs ρ σ H xs vs q Q r p w k => ?_⟩
  unfold dAny at w
  split at w
  · obtain ⟨v, rfl, h⟩ := repBL1 p
    obtain ⟨a, us, rfl, h1, h2⟩ := h.lst r.sh
    split at w
    · rename_i ns e
      have e2 := bools_eq e
      subst e2
      obtain rfl := h2.bools
      exact ⟨a, ns, rfl, SqL.of h1, k _ _ Hs H w Gr.refl r (.bl _)⟩
    · exact w.elim
  · exact w.elim
def dAbs : O1 := fun xs q => match xs with
  | [.int i] => q (.int (if i < 0 then -i else i))
  | _ => False
theorem dc_abs : DC1 C (fun xs H Q => ∃ i, xs = [V.int i] ∧ Q (.int (if i < 0 then -i else i)) H) dAbs := by
  refine ⟨fun Hs ρ σ H xs vs q Q r p w k => ?_⟩
  unfold dAbs at w
  split at w
  · obtain ⟨v, rfl, h⟩ := repBL1 p
    obtain rfl := repB_int h
    exact ⟨_, rfl, k _ _ Hs H w Gr.refl r (.int _)⟩
  · exact w.elim
def dInt : O1 := fun xs q => match xs with
  | [.int i] => q (.int i)
  | [.bl b] => q (.int (if b then 1 else 0))
  | _ => False
theorem dc_int : DC1 C (fun xs H Q => (∃ i, xs = [V.int i] ∧ Q (.int i) H) ∨ ∃ k, xs = [V.bl k] ∧ Q (.int (if k then 1 else 0)) H) dInt := by
  refine ⟨fun Hs ρ σ H xs vs q Q r p w k => ?_⟩
  unfold dInt at w
  split at w
  · obtain ⟨v, rfl, h⟩ := repBL1 p
    obtain rfl := repB_int h
    exact .inl ⟨_, rfl, k _ _ Hs H w Gr.refl r (.int _)⟩
  · obtain ⟨v, rfl, h⟩ := repBL1 p
    obtain rfl := repB_bl h
    exact .inr ⟨_, rfl, k _ _ Hs H w Gr.refl r (.int _)⟩
  · exact w.elim
/-- tuple(x), list(x) -/
def dTuple : O1 := fun xs q => match xs with
  | [.lst ys] => q (.tup ys)
  | [.tup ys] => q (.tup ys)
  | _ => False
theorem dc_tuple : DC1 C (fun xs H Q => ∃ p ys, xs = [V.ref p] ∧ ((SqL C.K H p ys ∧ ∀ l, H l = none → Q (.ref l) (upd H l (.tup ys))) ∨ (SqT C.K H p ys ∧ Q (.ref p) H))) dTuple := by
  refine ⟨fun Hs ρ σ H xs vs q Q r p w k => ?_⟩
  unfold dTuple at w
  split at w
  · obtain ⟨v, rfl, h⟩ := repBL1 p
    obtain ⟨a, us, rfl, h1, h2⟩ := h.lst r.sh
    refine ⟨a, us, rfl, .inl ⟨SqL.of h1, fun b hb => ?_⟩⟩
    obtain ⟨s, g, r'⟩ := upd_rs (o := .tup us) r hb
    exact k _ _ _ _ w g r' (.tup (SqT.of upd_same) (h2.mono s))
  · obtain ⟨v, rfl, h⟩ := repBL1 p
    have tx := h.tupR
    obtain ⟨a, us, rfl, h1, h2⟩ := h.tup r.sh
    exact ⟨a, us, rfl, .inr ⟨h1, k _ _ Hs H w Gr.refl r tx⟩⟩
  · exact w.elim
def dList : OF := fun xs q => match xs with
  | [.lst ys] => q ys
  | [.tup ys] => q ys
  | _ => False
theorem dcf_list : DCF C (fun xs H Q => ∃ p ys, xs = [V.ref p] ∧ (SqL C.K H p ys ∨ SqT C.K H p ys) ∧ ∀ l, H l = none → Q (.ref l) (upd H l (.lst ys))) dList := by
  refine ⟨fun Hs ρ σ H xs vs q Q r p w k => ?_⟩
  unfold dList at w
  split at w
  · obtain ⟨v, rfl, h⟩ := repBL1 p
    obtain ⟨a, us, rfl, h1, h2⟩ := h.lst r.sh
    exact ⟨a, us, rfl, .inl (SqL.of h1), fun b hb => k _ _ _ Hs H w Gr.refl r hb h2⟩
  · obtain ⟨v, rfl, h⟩ := repBL1 p
    obtain ⟨a, us, rfl, h1, h2⟩ := h.tup r.sh
    exact ⟨a, us, rfl, .inr h1, fun b hb => k _ _ _ Hs H w Gr.refl r hb h2⟩
  · exact w.elim
/-- list(range(..)), tuple(range(..)) -/
def rgD (a b : Int) : List D := (List.range (b - a).toNat).map fun i => D.int (a + (i : Nat))
theorem rgD_rep {K : PySem.W.Frag} {a : Hd} {H : Hp} (lo hi : Int) : RepL K a H (rgD lo hi) (rgV lo hi) := by
  unfold rgD rgV
  generalize List.range (hi - lo).toNat = l
  induction l with
  | nil => exact .nil
  | cons x xs ih => exact .cons (.int _) ih
abbrev MR := List En → (Int → Int → Prop) → QE → Prop
structure DR (C : Ctx) (t : L2.St → Hp → (Int → Int → Hp → Prop) → Prop) (f : MR) : Prop where
  run : ∀ Hs ρ σ H q qe Q, (∀ x, qe x → C.W x) → RS C Hs ρ σ H → f ρ q qe →
    (∀ i j Hs' H', q i j → Gr C.a Hs H Hs' H' → RS C Hs' ρ σ H' → Q i j H') → t σ H Q
def rRg1 (f : ME) : MR := fun ρ q qe => f ρ (fun d => match d with
  | .int i => q 0 i
  | _ => False) qe
def rRg2 (f g : ME) : MR := fun ρ q qe => f ρ (fun d => g ρ (fun e => match d, e with
  | .int i, .int j => q i j
  | _, _ => False) qe) qe
theorem dr_1 {t : TE} {f : ME} (h : DT C t f) : DR C (tRg1 t) (rRg1 f) := by
  refine ⟨fun Hs ρ σ H q qe Q l r w k => ?_⟩
  refine h.run Hs ρ σ H _ qe _ l r w fun d v Hs1 H1 w1 g1 r1 p1 => ?_
  split at w1
  · cases p1
    exact ⟨_, rfl, k _ _ Hs1 H1 w1 g1 r1⟩
  · exact w1.elim
theorem dr_2 {t u : TE} {f g : ME} (h : DT C t f) (h' : DT C u g) : DR C (tRg2 t u) (rRg2 f g) := by
  refine ⟨fun Hs ρ σ H q qe Q l r w k => ?_⟩
  refine h.run Hs ρ σ H _ qe _ l r w fun d v Hs1 H1 w1 g1 r1 p1 => ?_
  refine h'.run Hs1 ρ σ H1 _ qe _ l r1 w1 fun d' v' Hs2 H2 w2 g2 r2 p2 => ?_
  split at w2
  · cases p1
    cases p2
    exact ⟨_, _, rfl, rfl, k _ _ Hs2 H2 w2 (g1.trans g2) r2⟩
  · exact w2.elim
def fLstRg (f : MR) : MA := fun ρ q qe => f ρ (fun i j => RgOk i j ∧ q (rgD i j)) qe
theorem df_listRg {t : L2.St → Hp → (Int → Int → Hp → Prop) → Prop} {f : MR} (h : DR C t f) : DF C (tLstRg t) (fLstRg f) := by
  refine ⟨fun Hs ρ σ H q qe Q l r w k => ?_⟩
  exact h.run Hs ρ σ H _ qe _ l r w fun i j Hs1 H1 w1 g1 r1 => ⟨w1.1, fun p hp => k _ p _ Hs1 H1 w1.2 g1 r1 hp (rgD_rep i j)⟩
def eTupRg (f : MR) : ME := fun ρ q qe => f ρ (fun i j => RgOk i j ∧ q (.tup (rgD i j))) qe
theorem dt_tupRg {t : L2.St → Hp → (Int → Int → Hp → Prop) → Prop} {f : MR} (h : DR C t f) : DT C (tTupRg t) (eTupRg f) := by
  refine ⟨fun Hs ρ σ H q qe Q l r w k => ?_⟩
  refine h.run Hs ρ σ H _ qe _ l r w fun i j Hs1 H1 w1 g1 r1 => ⟨w1.1, fun p hp => ?_⟩
  obtain ⟨s, g, r'⟩ := upd_rs (o := .tup (rgV i j)) r1 hp
  exact k _ _ _ _ w1.2 (g1.trans g) r' (.tup (SqT.of upd_same) ((rgD_rep i j)))

/-! ### isinstance -/
def D.ty : D → String
  | .non => "NoneType"
  | .bl _ => "bool"
  | .int _ => "int"
  | .str _ => "str"
  | .tup _ => "tuple"
  | .lst _ => "list"
  | .hand => "list"
  | .scr _ => "list"
  | .dct _ => "dict"
  | .obj _ _ => "object"
/-- whether a value of the type a is one of the type b, of built-in types -/
def isiB (a b : String) : Bool := a == b || (a == "bool" && b == "int")
def eIsi (ns : List String) (f : ME) : ME := fun ρ q qe => f ρ (fun d => match d with
  | .obj _ _ => False
  | .hand => False
  | .scr _ => False
  | d => q (.bl (ns.any fun n => isiB d.ty n))) qe
theorem ty_of {K : PySem.W.Frag} {a : Hd} {Hs H : Hp} {d : D} {v : V} (s : Same Hs H) (h : RepB K a Hs H d v) (n : ∀ c fs, d ≠ .obj c fs) (n2 : d ≠ .hand ∧ ∀ ns, d ≠ .scr ns) : TyX K H v (.type d.ty) := by
  cases d with
  | non => cases h with | sh h => cases h; exact .base .non
  | bl b => cases h with | sh h => cases h; exact .base (.bl _)
  | int i => cases h with | sh h => cases h; exact .base (.int _)
  | str i => cases h with | sh h => cases h; exact .base (.str _)
  | tup xs =>
    obtain ⟨p, vs, rfl, h1, h2⟩ := h.tup s
    rcases h1 with (h1 | ⟨o, h1⟩) | ⟨o, its, k, h1, h3, _⟩
    · exact .base (.tup h1)
    · exact .fTuple h1
    · exact .kTuple h1 h3
  | lst xs =>
    obtain ⟨p, vs, rfl, h1, h2⟩ := h.lst s
    exact .base (.lst h1)
  | dct xs =>
    obtain ⟨p, vs, rfl, h1, h2⟩ := h.dct s
    exact .base (.dK h1)
  | obj c fs => exact absurd rfl (n c fs)
  | hand => exact absurd rfl n2.1
  | scr ns => exact absurd rfl (n2.2 ns)
theorem kitB_tab : ∀ a ∈ ["NoneType", "bool", "int", "str", "tuple", "list", "dict"], ∀ n ∈ ["int", "bool", "str", "list", "tuple", "dict"], kitB a n = some (isiB a n) := by decide +kernel
theorem kit_of_ty {K : PySem.W.Frag} {d : D} {n : String} (hn : n ∈ ["int", "bool", "str", "list", "tuple", "dict"]) (no : ∀ c fs, d ≠ .obj c fs) (n2 : d ≠ .hand ∧ ∀ ns, d ≠ .scr ns) : PySem.W.kitOne K (.type d.ty) (.type n) = some (isiB d.ty n) := by
  refine kit_ty (kitB_tab _ ?_ _ hn)
  cases d with
  | obj c fs => exact absurd rfl (no c fs)
  | hand => exact absurd rfl n2.1
  | scr ns => exact absurd rfl (n2.2 ns)
  | _ => simp [D.ty]
theorem dt_isi {n : String} {t : TE} {f : ME} (hn : n ∈ ["int", "bool", "str", "list", "tuple", "dict"]) (h : DB C t f) : DT C (tCB (rIsi C.K) (tCons t (tCons (tC (.ty n)) tNil))) (eIsi [n] f) := by
  refine ⟨fun Hs ρ σ H q qe Q l r w k => ?_⟩
  refine h.run Hs ρ σ H _ qe _ l r w fun d v Hs1 H1 w1 g1 r1 p1 => ?_
  have no : ∀ c fs, d ≠ .obj c fs := fun c fs e => by
    subst e
    exact w1
  have n2 : d ≠ .hand ∧ ∀ ns, d ≠ .scr ns := ⟨fun e => by
    subst e
    exact w1, fun ns e => by
    subst e
    exact w1⟩
  have w2 : q (.bl ([n].any fun n => isiB d.ty n)) := by
    cases d with
    | obj c fs => exact absurd rfl (no c fs)
    | hand => exact absurd rfl n2.1
    | scr ns => exact absurd rfl (n2.2 ns)
    | _ => exact w1
  refine ⟨v, .ty n, _, _, _, rfl, .ty n, ty_of r1.sh p1 no n2, kit_of_ty hn no n2, ?_⟩
  rw [List.any_cons, List.any_nil, Bool.or_false] at w2
  exact k _ _ Hs1 H1 w2 g1 r1 (.bl _)
theorem kitAny_of {K : PySem.W.Frag} {d : D} (no : ∀ c fs, d ≠ .obj c fs) (n2 : d ≠ .hand ∧ ∀ ns, d ≠ .scr ns) : ∀ {ns : List String}, (∀ n ∈ ns, n ∈ ["int", "bool", "str", "list", "tuple", "dict"]) → PySem.W.kitAny K (.type d.ty) (ns.map Value.type) = some (ns.any fun n => isiB d.ty n)
  | [], _ => rfl
  | n :: ns, h => by
    rw [List.map_cons, List.any_cons]
    refine kitAny_cons (kit_of_ty (h n (List.mem_cons_self ..)) no n2) (fun e => ?_) fun e => ?_
    · rw [kitAny_of no n2 fun m hm => h m (List.mem_cons_of_mem _ hm), e]
      rfl
    · rw [e]
      rfl
def tTys : List String → TA
  | [] => tNil
  | n :: ns => tCons (tC (.ty n)) (tTys ns)
theorem tTys_run : ∀ {ns : List String} {σ : L2.St} {H : Hp} {Q : List V → Hp → Prop}, Q (ns.map V.ty) H → tTys ns σ H Q
  | [], _, _, _, h => h
  | n :: ns, σ, H, Q, h => tTys_run (ns := ns) (Q := fun xs H2 => Q (V.ty n :: xs) H2) h
theorem clsV_tys : ∀ ns : List String, Paired ClsV (ns.map V.ty) (ns.map Value.type)
  | [] => .nil
  | n :: ns => .cons (.ty n) (clsV_tys ns)
theorem dt_isiT {ns : List String} {t : TE} {f : ME} (hn : ∀ n ∈ ns, n ∈ ["int", "bool", "str", "list", "tuple", "dict"]) (hl : ns.length ≤ sizeLine) (h : DB C t f) : DT C (tCB (rIsiT C.K) (tCons t (tCons (tTup (tTys ns)) tNil))) (eIsi ns f) := by
  refine ⟨fun Hs ρ σ H q qe Q l r w k => ?_⟩
  refine h.run Hs ρ σ H _ qe _ l r w fun d v Hs1 H1 w1 g1 r1 p1 => ?_
  have no : ∀ c fs, d ≠ .obj c fs := fun c fs e => by
    subst e
    exact w1
  have n2 : d ≠ .hand ∧ ∀ ns, d ≠ .scr ns := ⟨fun e => by
    subst e
    exact w1, fun ns e => by
    subst e
    exact w1⟩
  have w2 : q (.bl (ns.any fun n => isiB d.ty n)) := by
    cases d with
    | obj c fs => exact absurd rfl (no c fs)
    | hand => exact absurd rfl n2.1
    | scr ns => exact absurd rfl (n2.2 ns)
    | _ => exact w1
  refine tTys_run ⟨by rw [List.length_map]; exact hl, fun p hp => ?_⟩
  have r2 := r1.side (o := .tup (ns.map V.ty)) hp
  have g2 := r1.gr_side (o := .tup (ns.map V.ty)) hp
  exact ⟨v, p, _, _, _, _, rfl, upd_same, clsV_tys ns, ty_of r2.sh (p1.mono (Same.refl _) g2.b) no n2, kitAny_of no n2 hn, k _ _ Hs1 _ w2 (g1.trans g2) r2 (.bl _)⟩
end
end Fd
namespace Fd
open PySem PySem.Spec L2
section
variable {C : Ctx}

/-! ### slots -/
theorem RS.set {Hs H : Hp} {ρ : List En} {σ : L2.St} (r : RS C Hs ρ σ H) {i : Nat} {d : D} {v : V} (h : Rep C.K C.a Hs d v) : RS C Hs (ρ.set i (.sh d)) (σ.set i (some v)) H where
  len := by rw [List.length_set, List.length_set, r.len]
  fr := r.fr
  sh := r.sh
  sh0 := r.sh0
  new := r.new
  hd := r.hd
  hd0 := r.hd0
  en := fun j e he => by
    by_cases z : i = j
    · subst z
      have hl : i < ρ.length := by
        have q := (List.getElem?_eq_some_iff.mp he).1
        rwa [List.length_set] at q
      rw [List.getElem?_set_self hl] at he
      cases he
      rw [List.getElem?_set_self (by rw [← r.len]; exact hl)]
      exact ⟨v, rfl, h⟩
    · rw [List.getElem?_set_ne z] at he ⊢
      exact r.en j e he
  sep := fun j k p e e' hjk h1 h2 o1 o2 s1 s2 => by
    by_cases z : i = j
    · subst z
      have hl : i < ρ.length := by
        have q := (List.getElem?_eq_some_iff.mp h1).1
        rwa [List.length_set] at q
      rw [List.getElem?_set_self hl] at h1
      cases h1
      cases o1
    · by_cases y : i = k
      · subst y
        have hl : i < ρ.length := by
          have q := (List.getElem?_eq_some_iff.mp h2).1
          rwa [List.length_set] at q
        rw [List.getElem?_set_self hl] at h2
        cases h2
        cases o2
      · rw [List.getElem?_set_ne z] at h1 s1
        rw [List.getElem?_set_ne y] at h2 s2
        exact r.sep j k p e e' hjk h1 h2 o1 o2 s1 s2
/-- a slot is forgotten -/
theorem RS.drop {Hs H : Hp} {ρ : List En} {σ : L2.St} (r : RS C Hs ρ σ H) {i : Nat} {o : Option V} : RS C Hs (ρ.set i .no) (σ.set i o) H where
  len := by rw [List.length_set, List.length_set, r.len]
  fr := r.fr
  sh := r.sh
  sh0 := r.sh0
  new := r.new
  hd := r.hd
  hd0 := r.hd0
  en := fun j e he => by
    by_cases z : i = j
    · subst z
      have hl : i < ρ.length := by
        have q := (List.getElem?_eq_some_iff.mp he).1
        rwa [List.length_set] at q
      rw [List.getElem?_set_self hl] at he
      cases he
      trivial
    · rw [List.getElem?_set_ne z] at he ⊢
      exact r.en j e he
  sep := fun j k p e e' hjk h1 h2 o1 o2 s1 s2 => by
    by_cases z : i = j
    · subst z
      have hl : i < ρ.length := by
        have q := (List.getElem?_eq_some_iff.mp h1).1
        rwa [List.length_set] at q
      rw [List.getElem?_set_self hl] at h1
      cases h1
      cases o1
    · by_cases y : i = k
      · subst y
        have hl : i < ρ.length := by
          have q := (List.getElem?_eq_some_iff.mp h2).1
          rwa [List.length_set] at q
        rw [List.getElem?_set_self hl] at h2
        cases h2
        cases o2
      · rw [List.getElem?_set_ne z] at h1 s1
        rw [List.getElem?_set_ne y] at h2 s2
        exact r.sep j k p e e' hjk h1 h2 o1 o2 s1 s2
def wipeE (ρ : List En) : List Nat → List En
  | [] => ρ
  | v :: vs => (wipeE ρ vs).set v .no
theorem RS.wipe {Hs H : Hp} {ρ : List En} {σ : L2.St} (r : RS C Hs ρ σ H) : ∀ vs : List Nat, RS C Hs (wipeE ρ vs) (L2.wipe σ vs) H
  | [] => r
  | v :: vs => (RS.wipe r vs).drop
theorem wipe_set_in {σ : L2.St} {i : Nat} {o : Option V} : ∀ {vs : List Nat}, i ∈ vs → L2.wipe (σ.set i o) vs = L2.wipe σ vs
  | [], h => by cases h
  | v :: vs, h => by
    unfold L2.wipe
    by_cases z : i ∈ vs
    · rw [wipe_set_in z]
    · have e : i = v := by
        rcases List.mem_cons.mp h with h | h
        · exact h
        · exact absurd h z
      subst e
      have key : ∀ ws : List Nat, i ∉ ws → L2.wipe (σ.set i o) ws = (L2.wipe σ ws).set i o := by
        intro ws
        induction ws with
        | nil => intro _; rfl
        | cons w ws ih =>
          intro hw
          have n1 : i ≠ w := fun q => hw (by rw [q]; exact List.mem_cons_self ..)
          have n2 : i ∉ ws := fun q => hw (List.mem_cons_of_mem _ q)
          unfold L2.wipe
          rw [ih n2, List.set_comm _ _ n1]
      rw [key vs z, List.set_set]

/-! ### targets -/
abbrev MG := D → List En → (List En → Prop) → Prop
abbrev MGs := List D → List En → (List En → Prop) → Prop
structure DG (C : Ctx) (S : List Nat) (t : TG) (g : MG) : Prop where
  run : ∀ Hs ρ σ H d v q Q, RS C Hs ρ σ H → Rep C.K C.a Hs d v → g d ρ q →
    (∀ ρ' σ', q ρ' → RS C Hs ρ' σ' H → (∀ vs : List Nat, (∀ i ∈ S, i ∈ vs) → L2.wipe σ' vs = L2.wipe σ vs) → Q σ' H) → t v σ H Q
structure DGs (C : Ctx) (S : List Nat) (t : TGs) (g : MGs) : Prop where
  run : ∀ Hs ρ σ H ds vs q Q, RS C Hs ρ σ H → RepL C.K C.a Hs ds vs → g ds ρ q →
    (∀ ρ' σ', q ρ' → RS C Hs ρ' σ' H → (∀ vs : List Nat, (∀ i ∈ S, i ∈ vs) → L2.wipe σ' vs = L2.wipe σ vs) → Q σ' H) → t vs σ H Q
def gdName (i : Nat) : MG := fun d ρ q => q (ρ.set i (.sh d))
theorem dg_name (i : Nat) : DG C [i] (gName i) (gdName i) :=
  ⟨fun Hs ρ σ H d v q Q r p w k => k _ _ w (r.set p) fun vs h => wipe_set_in (h i (List.mem_cons_self ..))⟩
def gdNil : MGs := fun ds ρ q => match ds with
  | [] => q ρ
  | _ => False
def gdCons (g : MG) (h : MGs) : MGs := fun ds ρ q => match ds with
  | d :: r => g d ρ fun ρ' => h r ρ' q
  | [] => False
theorem dgs_nil : DGs C [] gNil gdNil := by
  refine ⟨fun Hs ρ σ H ds vs q Q r p w k => ?_⟩
  cases p with
  | nil => exact ⟨rfl, k _ _ w r fun vs h => rfl⟩
  | cons h t => exact w.elim
theorem dgs_cons {S T : List Nat} {t : TG} {u : TGs} {g : MG} {h : MGs} (h1 : DG C S t g) (h2 : DGs C T u h) : DGs C (S ++ T) (gCons t u) (gdCons g h) := by
  refine ⟨fun Hs ρ σ H ds vs q Q r p w k => ?_⟩
  cases p with
  | nil => exact w.elim
  | cons p ps =>
    refine ⟨_, _, rfl, ?_⟩
    refine h1.run Hs ρ σ H _ _ _ _ r p w fun ρ' σ' w' r' e => ?_
    refine h2.run Hs ρ' σ' H _ _ _ _ r' ps w' fun ρ'' σ'' w'' r'' e' => ?_
    exact k _ _ w'' r'' fun vs hv => (e' vs fun i hi => hv i (List.mem_append_right _ hi)).trans (e vs fun i hi => hv i (List.mem_append_left _ hi))
def gdTup (n : Nat) (h : MGs) : MG := fun d ρ q => match d with
  | .tup xs => xs.length = n ∧ h xs ρ q
  | _ => False
theorem dg_tup {n : Nat} {S : List Nat} {u : TGs} {h : MGs} (h2 : DGs C S u h) : DG C S (gTup C.K n u) (gdTup n h) := by
  refine ⟨fun Hs ρ σ H d v q Q r p w k => ?_⟩
  unfold gdTup at w
  split at w
  · cases p with
    | tup hp hr =>
      exact ⟨_, _, rfl, same_sqT r.sh hp, by rw [← hr.length]; exact w.1, h2.run Hs ρ σ H _ _ _ _ r hr w.2 k⟩
  · exact w.elim

/-! ### what is walked -/
/-- whatever stands later, the iterator gives these items -/
structure Walk (C : Ctx) (J : It) (items : List D) (Hs : Hp) : Prop where
  go : ∀ i Hs1 ρ σ H1, Same Hs Hs1 → RS C Hs1 ρ σ H1 → i < items.length → J.go i H1
  stop : ∀ i Hs1 ρ σ H1, Same Hs Hs1 → RS C Hs1 ρ σ H1 → i = items.length → J.stop i H1
  yld : ∀ i Hs1 ρ σ H1 d x H', Same Hs Hs1 → RS C Hs1 ρ σ H1 → items[i]? = some d → J.yld i H1 x H' → ∃ Hs2, Gr C.a Hs1 H1 Hs2 H' ∧ RS C Hs2 ρ σ H' ∧ Rep C.K C.a Hs2 d x
structure WalkB (C : Ctx) (J : It) (items : List D) (Hs H : Hp) : Prop where
  go : ∀ i Hs1 ρ σ H1, Same Hs Hs1 → SB C.a H H1 → RS C Hs1 ρ σ H1 → i < items.length → J.go i H1
  stop : ∀ i Hs1 ρ σ H1, Same Hs Hs1 → SB C.a H H1 → RS C Hs1 ρ σ H1 → i = items.length → J.stop i H1
  yld : ∀ i Hs1 ρ σ H1 d x H', Same Hs Hs1 → SB C.a H H1 → RS C Hs1 ρ σ H1 → items[i]? = some d → J.yld i H1 x H' → ∃ Hs2, Gr C.a Hs1 H1 Hs2 H' ∧ RS C Hs2 ρ σ H' ∧ Rep C.K C.a Hs2 d x
theorem Walk.b {J : It} {items : List D} {Hs H : Hp} (w : Walk C J items Hs) : WalkB C J items Hs H :=
  ⟨fun i Hs1 ρ σ H1 s _ => w.go i Hs1 ρ σ H1 s, fun i Hs1 ρ σ H1 s _ => w.stop i Hs1 ρ σ H1 s, fun i Hs1 ρ σ H1 d x H' s _ => w.yld i Hs1 ρ σ H1 d x H' s⟩
structure DI (C : Ctx) (wi : TI) (f : MA) : Prop where
  run : ∀ Hs ρ σ H q qe R, (∀ x, qe x → C.W x) → RS C Hs ρ σ H → f ρ q qe →
    (∀ items J Hs' H', q items → Gr C.a Hs H Hs' H' → RS C Hs' ρ σ H' → Walk C J items Hs' → R J H') → wi σ H R
structure DIB (C : Ctx) (wi : TI) (f : MA) : Prop where
  run : ∀ Hs ρ σ H q qe R, (∀ x, qe x → C.W x) → RS C Hs ρ σ H → f ρ q qe →
    (∀ items J Hs' H', q items → Gr C.a Hs H Hs' H' → RS C Hs' ρ σ H' → WalkB C J items Hs' H' → R J H') → wi σ H R
theorem DI.b {wi : TI} {f : MA} (h : DI C wi f) : DIB C wi f :=
  ⟨fun Hs ρ σ H q qe R l r w k => h.run Hs ρ σ H q qe R l r w fun items J Hs' H' e g r' wk => k items J Hs' H' e g r' wk.b⟩

/-- a list, a tuple -/
def iSeq (K : PySem.W.Frag) (tl : TE) : TI := fun σ H R => tl σ H fun x H1 => ∃ a, x = .ref a ∧ (((∃ xs, SqL K H1 a xs) ∧ R (Itl K a) H1) ∨ ((∃ xs, SqT K H1 a xs) ∧ R (Itt K a) H1))
theorem pi_seq {X : Cx} {tg l : Expr} {tl : TE} (hl : PE X l tl) : PI X tg l (iSeq X.K tl) := by
  refine ⟨fun pins s σ H R I h => ?_⟩
  refine thn (hl.run pins s σ H _ I h) fun v s1 ⟨x, H1, I1, r1, q1⟩ => ?_
  obtain ⟨a, e, q⟩ := q1
  subst e
  cases r1
  rcases q with ⟨⟨xs, hq⟩, q⟩ | ⟨⟨xs, hq⟩, q⟩
  · obtain ⟨its, rv, p, hz⟩ := I1.list hq
    refine wpAny_pyIter_list p.isList ?_
    refine ⟨s1.heap.objs.size, [s1.heap.objs.size], _, _, H1, rfl, I1.kept (t' := s1.toks) fun b o e => Heap.get?_push_of_some _ e, turn_list a _, ⟨_, Heap.get?_push_size _ rfl, rfl, rfl⟩, fun b hb => ?_, q⟩
    have e : b = s1.heap.objs.size := by simpa using hb
    subst e
    exact I1.fpOk (Nat.le_refl _) (I1.hok.fresh (Nat.le_refl _))
  · obtain ⟨its, rv, p, hz⟩ := I1.tuple hq
    refine wpAny_pyIter_tuple (show s1.heap.IsTuple a its.toArray from p) ?_
    refine ⟨s1.heap.objs.size, [s1.heap.objs.size], _, _, H1, rfl, I1.kept (t' := s1.toks) fun b o e => Heap.get?_push_of_some _ e, turn_tuple a _, ⟨_, Heap.get?_push_size _ rfl, rfl, rfl⟩, fun b hb => ?_, q⟩
    have e : b = s1.heap.objs.size := by simpa using hb
    subst e
    exact I1.fpOk (Nat.le_refl _) (I1.hok.fresh (Nat.le_refl _))
/-- the items of a list, a tuple -/
def fSeq (f : ME) : MA := fun ρ q qe => f ρ (fun d => match d with
  | .lst xs => q xs
  | .tup xs => q xs
  | _ => False) qe
theorem walk_list {items : List D} {vs : List V} {Hs : Hp} {a : Addr} (h : Hs a = some (.lst vs)) (rl : RepL C.K C.a Hs items vs) : Walk C (Itl C.K a) items Hs where
  go := fun i Hs1 ρ σ H1 s r hi => by
    have h2 : i < vs.length := by rw [← rl.length]; exact hi
    exact ⟨vs, vs[i], SqL.of (r.sh _ _ (s _ _ h)), List.getElem?_eq_getElem h2⟩
  stop := fun i Hs1 ρ σ H1 s r hi => ⟨vs, SqL.of (r.sh _ _ (s _ _ h)), by rw [← rl.length]; exact Nat.le_of_eq hi.symm⟩
  yld := fun i Hs1 ρ σ H1 d x H' s r hd hy => by
    obtain ⟨e, hy⟩ := hy
    subst e
    obtain ⟨d', e', hr⟩ := rl.get (hy vs (SqL.of (r.sh _ _ (s _ _ h))))
    rw [hd] at e'
    cases e'
    exact ⟨Hs1, Gr.refl, r, hr.mono s⟩
theorem walk_tup {items : List D} {vs : List V} {Hs : Hp} {a : Addr} (h : SqT C.K Hs a vs) (rl : RepL C.K C.a Hs items vs) : Walk C (Itt C.K a) items Hs where
  go := fun i Hs1 ρ σ H1 s r hi => by
    have h2 : i < vs.length := by rw [← rl.length]; exact hi
    exact ⟨vs, vs[i], same_sqT r.sh (same_sqT s h), List.getElem?_eq_getElem h2⟩
  stop := fun i Hs1 ρ σ H1 s r hi => ⟨vs, same_sqT r.sh (same_sqT s h), by rw [← rl.length]; exact Nat.le_of_eq hi.symm⟩
  yld := fun i Hs1 ρ σ H1 d x H' s r hd hy => by
    obtain ⟨e, hy⟩ := hy
    subst e
    obtain ⟨d', e', hr⟩ := rl.get (hy vs (same_sqT r.sh (same_sqT s h)))
    rw [hd] at e'
    cases e'
    exact ⟨Hs1, Gr.refl, r, hr.mono s⟩
theorem walkB_list {items : List D} {vs : List V} {Hs H : Hp} {a : Addr} (h : H a = some (.lst vs)) (n : C.a ≠ some a) (rl : RepL C.K C.a Hs items vs) : WalkB C (Itl C.K a) items Hs H where
  go := fun i Hs1 ρ σ H1 s b r hi => by
    have h2 : i < vs.length := by rw [← rl.length]; exact hi
    exact ⟨vs, vs[i], SqL.of (b _ _ n h), List.getElem?_eq_getElem h2⟩
  stop := fun i Hs1 ρ σ H1 s b r hi => ⟨vs, SqL.of (b _ _ n h), by rw [← rl.length]; exact Nat.le_of_eq hi.symm⟩
  yld := fun i Hs1 ρ σ H1 d x H' s b r hd hy => by
    obtain ⟨e, hy⟩ := hy
    subst e
    obtain ⟨d', e', hr⟩ := rl.get (hy vs (SqL.of (b _ _ n h)))
    rw [hd] at e'
    cases e'
    exact ⟨Hs1, Gr.refl, r, hr.mono s⟩
theorem di_seq {t : TE} {f : ME} (h : DT C t f) : DI C (iSeq C.K t) (fSeq f) := by
  refine ⟨fun Hs ρ σ H q qe R l r w k => ?_⟩
  refine h.run Hs ρ σ H _ qe _ l r w fun d v Hs1 H1 w1 g1 r1 p1 => ?_
  split at w1
  · cases p1 with
    | lst h1 h2 => exact ⟨_, rfl, .inl ⟨⟨_, SqL.of (r1.sh _ _ h1)⟩, k _ _ Hs1 H1 w1 g1 r1 (walk_list h1 h2)⟩⟩
  · cases p1 with
    | tup h1 h2 => exact ⟨_, rfl, .inr ⟨⟨_, same_sqT r1.sh h1⟩, k _ _ Hs1 H1 w1 g1 r1 (walk_tup h1 h2)⟩⟩
  · exact w1.elim
theorem dib_seq {t : TE} {f : ME} (h : DB C t f) : DIB C (iSeq C.K t) (fSeq f) := by
  refine ⟨fun Hs ρ σ H q qe R l r w k => ?_⟩
  refine h.run Hs ρ σ H _ qe _ l r w fun d v Hs1 H1 w1 g1 r1 p1 => ?_
  split at w1
  · cases p1 with
    | sh p1 =>
      cases p1 with
      | lst h1 h2 => exact ⟨_, rfl, .inl ⟨⟨_, SqL.of (r1.sh _ _ h1)⟩, k _ _ Hs1 H1 w1 g1 r1 (walk_list h1 h2).b⟩⟩
    | ol h1 h2 h3 => exact ⟨_, rfl, .inl ⟨⟨_, SqL.of h1⟩, k _ _ Hs1 H1 w1 g1 r1 (walkB_list h1 h3 h2)⟩⟩
  · cases p1 with
    | sh p1 =>
      cases p1 with
      | tup h1 h2 => exact ⟨_, rfl, .inr ⟨⟨_, same_sqT r1.sh h1⟩, k _ _ Hs1 H1 w1 g1 r1 (walk_tup h1 h2).b⟩⟩
  · exact w1.elim
/-- range(n), range(a, b) -/
theorem walk_range {lo : Int} {n : Nat} {Hs : Hp} : Walk C (Itr lo n) ((List.range n).map fun i => D.int (lo + (i : Nat))) Hs where
  go := fun i Hs1 ρ σ H1 s r hi => by
    rw [List.length_map, List.length_range] at hi
    exact hi
  stop := fun i Hs1 ρ σ H1 s r hi => by
    rw [List.length_map, List.length_range] at hi
    exact Nat.le_of_eq hi.symm
  yld := fun i Hs1 ρ σ H1 d x H' s r hd hy => by
    obtain ⟨e, hy⟩ := hy
    subst e hy
    rw [List.getElem?_map] at hd
    cases q : (List.range n)[i]? with
    | none => rw [q] at hd; cases hd
    | some j =>
      rw [q] at hd
      cases hd
      have e2 : j = i := by
        have h := (List.getElem?_eq_some_iff.mp q)
        obtain ⟨h1, h2⟩ := h
        rw [List.getElem_range] at h2
        exact h2.symm
      subst e2
      exact ⟨Hs1, Gr.refl, r, .int _⟩
def RgB (i : Int) : Prop := -(2 ^ 62) ≤ i ∧ i < 2 ^ 62
def fRg1 (f : ME) : MA := fun ρ q qe => f ρ (fun d => match d with
  | .int j => RgB j ∧ q (rgD 0 j)
  | _ => False) qe
theorem rg0 (j : Int) : rgD 0 j = (List.range j.toNat).map fun i => D.int (0 + (i : Nat)) := by
  unfold rgD
  rw [Int.sub_zero]
theorem di_rg1 {t : TE} {f : ME} (h : DT C t f) : DI C (iRng1 (tCons t tNil)) (fRg1 f) := by
  refine ⟨fun Hs ρ σ H q qe R l r w k => ?_⟩
  refine h.run Hs ρ σ H _ qe _ l r w fun d v Hs1 H1 w1 g1 r1 p1 => ?_
  split at w1
  · cases p1
    rw [rg0] at w1
    exact ⟨_, rfl, w1.1.1, w1.1.2, k _ _ Hs1 H1 w1.2 g1 r1 walk_range⟩
  · exact w1.elim
def fRg2 (f g : ME) : MA := fun ρ q qe => f ρ (fun d => g ρ (fun e => match d, e with
  | .int i, .int j => (RgB i ∧ RgB j) ∧ q (rgD i j)
  | _, _ => False) qe) qe
theorem di_rg2 {t u : TE} {f g : ME} (h : DT C t f) (h' : DT C u g) : DI C (iRng2 (tCons t (tCons u tNil))) (fRg2 f g) := by
  refine ⟨fun Hs ρ σ H q qe R l r w k => ?_⟩
  refine h.run Hs ρ σ H _ qe _ l r w fun d v Hs1 H1 w1 g1 r1 p1 => ?_
  refine h'.run Hs1 ρ σ H1 _ qe _ l r1 w1 fun d' v' Hs2 H2 w2 g2 r2 p2 => ?_
  split at w2
  · cases p1
    cases p2
    exact ⟨_, _, rfl, ⟨w2.1.1.1, w2.1.1.2, w2.1.2.1, w2.1.2.2⟩, k _ _ Hs2 H2 w2.2 (g1.trans g2) r2 walk_range⟩
  · exact w2.elim

/-! ### [e for x in xs if t] -/
def lcL (g : MG) (tt : MT) (te : ME) (ρ : List En) : List D → (List D → Prop) → QE → Prop
  | [], q, _ => q []
  | d :: ds, q, qe => g d ρ fun ρ1 => tt ρ1 (fun b => if b = true then te ρ1 (fun y => lcL g tt te ρ ds (fun ys => q (y :: ys)) qe) qe else lcL g tt te ρ ds q qe) qe
def fLc (f : MA) (g : MG) (tt : MT) (te : ME) (vs : List Nat) : MA := fun ρ q qe => f ρ (fun items => items.length ≤ sizeLine ∧ lcL g tt te (wipeE ρ vs) items q qe) qe
def mYes : MT := fun _ q _ => q true
theorem dtt_yes : DTt C tYes mYes := ⟨fun Hs ρ σ H q qe Q l r w k => k true Hs H w Gr.refl r⟩
theorem df_lc {wi : TI} {t : TG} {tt : TT} {te : TE} {vs S : List Nat} {f : MA} {g : MG} {mt : MT} {me : ME} (hi : DIB C wi f) (hg : DG C S t g) (hS : ∀ i ∈ S, i ∈ vs) (ht : DTt C tt mt) (he : DT C te me) :
    DF C (tLc wi t tt te vs) (fLc f g mt me vs) := by
  refine ⟨fun Hs ρ σ H q qe Q l r w k => ?_⟩
  refine hi.run Hs ρ σ H _ qe _ l r w fun items J Hs1 H1 w1 g1 r1 wk => ?_
  obtain ⟨hsz, w1⟩ := w1
  intro L hL
  have nL : ∀ {Hs2 : Hp}, True := fun {_} => trivial
  refine ⟨fun i m H2 => m = items.length - i ∧ i ≤ items.length ∧ ∃ Hs2 H3 acc accD, H2 = upd H3 L (.lst acc) ∧ H3 L = none ∧ Gr C.a Hs1 H1 Hs2 H3 ∧ RS C Hs2 ρ σ H3 ∧ RepL C.K C.a Hs2 accD acc ∧ acc.length ≤ i ∧
      lcL g mt me (wipeE ρ vs) (items.drop i) (fun ys => q (accD ++ ys)) qe,
    ⟨items.length, by simp, Nat.zero_le _, Hs1, H1, [], [], rfl, hL, Gr.refl, r1, .nil, Nat.le_refl _, w1⟩, ?_⟩
  rintro i m H2 ⟨rfl, hle, Hs2, H3, acc, accD, rfl, hL3, g2, r2, rl, hacc, w2⟩
  have rU : RS C Hs2 ρ σ (upd H3 L (.lst acc)) := r2.side hL3
  have bU : SB C.a H1 (upd H3 L (.lst acc)) := g2.b.trans (SB.of (same_upd hL3))
  by_cases hlt : i < items.length
  · refine .inr ⟨wk.go i Hs2 ρ σ _ g2.s bU rU hlt, ?_⟩
    have hd : items[i]? = some items[i] := List.getElem?_eq_getElem hlt
    have ed : items.drop i = items[i] :: items.drop (i + 1) := List.drop_eq_getElem_cons hlt
    rw [ed] at w2
    refine ⟨fun H' => ∃ Hs2 H3 acc accD, H' = upd H3 L (.lst acc) ∧ H3 L = none ∧ Gr C.a Hs1 H1 Hs2 H3 ∧ RS C Hs2 ρ σ H3 ∧ RepL C.K C.a Hs2 accD acc ∧ acc.length ≤ i + 1 ∧
      lcL g mt me (wipeE ρ vs) (items.drop (i + 1)) (fun ys => q (accD ++ ys)) qe, fun H' h' => ⟨items.length - (i + 1), by omega, rfl, hlt, h'⟩, fun x H' hy => ?_⟩
    obtain ⟨Hs3, g3, r3, px⟩ := wk.yld i Hs2 ρ σ _ _ x H' g2.s bU rU hd hy
    have rw3 : RS C Hs3 (wipeE ρ vs) (L2.wipe σ vs) H' := r3.wipe vs
    -- the list L is no longer known to H': taken out of it
    refine hg.run Hs3 _ _ H' _ _ _ _ rw3 px w2 fun ρ4 σ4 w4 r4 e4 => ⟨?_, ?_⟩
    · rw [e4 vs hS]
      have ww : ∀ us : List Nat, (∀ i ∈ us, i ∈ vs) → L2.wipe (L2.wipe σ us) vs = L2.wipe σ vs := by
        intro us
        induction us with
        | nil => intro _; rfl
        | cons u us ih =>
          intro hu
          show L2.wipe ((L2.wipe σ us).set u none) vs = _
          rw [wipe_set_in (hu u (List.mem_cons_self ..))]
          exact ih fun i hi => hu i (List.mem_cons_of_mem _ hi)
      exact ww vs fun _ h => h
    · refine ht.run Hs3 ρ4 σ4 H' _ qe _ l r4 w4 fun b Hs5 H5 w5 g5 r5 => ?_
      -- what H' and its like say at L
      have atL : ∀ {Hs6 H6 : Hp} {ρ6 : List En} {σ6 : L2.St}, Gr C.a Hs2 (upd H3 L (.lst acc)) Hs6 H6 → RS C Hs6 ρ6 σ6 H6 → H6 L = some (.lst acc) ∧ ∃ H7, H6 = upd H7 L (.lst acc) ∧ H7 L = none ∧ Gr C.a Hs1 H1 Hs6 H7 ∧ RS C Hs6 ρ σ H7 := fun {Hs6 H6 ρ6 σ6} g6 r6 => by
        have na : C.a ≠ some L := r1.fresh_a hL
        have eL : H6 L = some (.lst acc) := g6.b _ _ na upd_same
        have nLs : Hs6 L = none := by
          cases z : Hs6 L with
          | none => rfl
          | some o =>
            rcases g6.n L o z with y | ⟨y, _⟩
            · rw [r2.fresh_s hL3] at y
              cases y
            · rw [upd_same] at y
              cases y
        refine ⟨eL, fun b => if b = L then none else H6 b, ?_, ?_, ?_, ?_⟩
        · funext b
          by_cases z : b = L
          · subst z
            rw [upd_same, eL]
          · rw [upd_ne z]
            show _ = if b = L then none else H6 b
            rw [if_neg z]
        · show (if L = L then none else H6 L) = none
          rw [if_pos rfl]
        · refine ⟨g2.s.trans g6.s, fun b o nb hb => ?_, fun b o hb => ?_⟩
          · have z : b ≠ L := ne_of_none hb hL
            show (if b = L then none else H6 b) = some o
            rw [if_neg z]
            refine g6.b _ _ nb ?_
            rw [upd_ne z]
            exact g2.b _ _ nb hb
          · rcases g6.n b o hb with y | ⟨y, n⟩
            · exact g2.n b o y
            · have z : b ≠ L := fun q => by
                rw [q, upd_same] at y
                cases y
              rw [upd_ne z] at y
              exact .inr ⟨g2.b.free n y, n⟩
        · refine r2.grow ⟨g6.s, fun b o nb hb => ?_, fun b o hb => ?_⟩ (fun b o hb => ?_) (fun x e => ?_)
          · have z : b ≠ L := ne_of_none hb hL3
            show (if b = L then none else H6 b) = some o
            rw [if_neg z]
            refine g6.b _ _ nb ?_
            rw [upd_ne z]
            exact hb
          · rcases g6.n b o hb with y | ⟨y, n⟩
            · exact .inl y
            · have z : b ≠ L := fun q => by
                rw [q, upd_same] at y
                cases y
              rw [upd_ne z] at y
              exact .inr ⟨y, n⟩
          · have z : b ≠ L := fun q => by
              rw [q, nLs] at hb
              cases hb
            show (if b = L then none else H6 b) = some o
            rw [if_neg z]
            exact r6.sh _ _ hb
          · obtain ⟨h0, c, i1, b1, s1, n1, cells, h1, h2, h3⟩ := r6.hd x e
            refine ⟨h0, c, i1, b1, s1, n1, cells, ?_, h2, h3⟩
            have z : x ≠ L := fun q => by
              rw [q] at e
              exact na e
            show (if x = L then none else H6 x) = _
            rw [if_neg z]
            exact h1
      cases b with
      | false =>
        show ∃ _, _
        obtain ⟨_, H7, e7, h7, g7, r7⟩ := atL (g3.trans g5) r5
        exact ⟨Hs5, H7, acc, accD, e7, h7, g7, r7, rl.mono (g3.s.trans g5.s), Nat.le_succ_of_le hacc, w5⟩
      | true =>
        refine he.run Hs5 ρ4 σ4 H5 _ qe _ l r5 w5 fun y vy Hs6 H6 w6 g6 r6 p6 => ?_
        obtain ⟨eL, H7, e7, h7, g7, r7⟩ := atL (g3.trans (g5.trans g6)) r6
        refine ⟨acc, eL, by omega, Hs6, H7, acc ++ [vy], accD ++ [y], ?_, h7, g7, r7, (rl.mono (g3.s.trans (g5.s.trans g6.s))).append (.cons p6 .nil), ?_, ?_⟩
        · rw [e7, upd_upd]
        · rw [List.length_append, List.length_singleton]
          omega
        · have e : (fun ys => q (accD ++ [y] ++ ys)) = fun ys => q (accD ++ y :: ys) := by
            funext ys
            rw [List.append_assoc]
            rfl
          rw [e]
          exact w6
  · refine .inl ⟨wk.stop i Hs2 ρ σ _ g2.s bU rU (by omega), ?_⟩
    have e : items.drop i = [] := List.drop_eq_nil_of_le (by omega)
    rw [e] at w2
    have w3 : q (accD ++ []) := w2
    rw [List.append_nil] at w3
    exact k accD L acc Hs2 H3 w3 (g1.trans g2) r2 hL3 rl
end
end Fd
namespace Fd
open PySem PySem.Spec L2
section
variable {C : Ctx}

/-! ### slots that own a list, a dict -/
theorem RS.other {Hs H : Hp} {ρ : List En} {σ : L2.St} (r : RS C Hs ρ σ H) {i : Nat} {e0 : En} {p : Addr} (h0 : ρ[i]? = some e0) (o0 : e0.own = true) (s0 : σ[i]? = some (some (.ref p)))
    {j : Nat} {e : En} (hj : j ≠ i) (he : ρ[j]? = some e) (Hs' H' : Hp) (s : Same Hs Hs') (hn : ∀ b, b ≠ p → Hs b = none → Hs' b = none) (hm : ∀ b o, b ≠ p → H b = some o → H' b = some o) : EnOk C Hs' H' e (σ[j]?) := by
  have q := r.en j e he
  have nown : ∀ x, H p ≠ some (.own x) := fun x z => by
    have q0 := r.en i e0 h0
    rw [s0] at q0
    cases e0 with
    | no => cases o0
    | sh d => cases o0
    | ol ds => obtain ⟨p', vs, ev, h1, _⟩ := q0; cases ev; rw [z] at h1; cases h1
    | od ds => obtain ⟨p', vs, ev, h1, _⟩ := q0; cases ev; rw [z] at h1; cases h1
    | odl p' ob vs ds => obtain ⟨ev, h1, _⟩ := q0; cases ev; rw [z] at h1; cases h1
    | oh p' ds => obtain ⟨vs, ev, h1, _⟩ := q0; cases ev; rw [z] at h1; cases h1
    | oo c p' dx fs => obtain ⟨vs, ev, h1, _⟩ := q0; cases ev; rw [z] at h1; cases h1
  cases e with
  | no => trivial
  | sh d =>
    obtain ⟨v, ev, rp⟩ := q
    exact ⟨v, ev, rp.mono s⟩
  | ol ds =>
    obtain ⟨p', vs, ev, h1, h2, h3, h4, h5⟩ := q
    have ne : p' ≠ p := fun z => by
      subst z
      exact r.sep j i p' _ _ hj he h0 rfl o0 ev s0
    exact ⟨p', vs, ev, hm _ _ ne h1, h2.mono s, h3, hn _ ne h4, h5⟩
  | od ds =>
    obtain ⟨p', vs, ev, h1, h2, h3, h4, h5⟩ := q
    have ne : p' ≠ p := fun z => by
      subst z
      exact r.sep j i p' _ _ hj he h0 rfl o0 ev s0
    exact ⟨p', vs, ev, hm _ _ ne h1, h2.mono s, h3, hn _ ne h4, h5⟩
  | odl p' ob vs ds =>
    obtain ⟨ev, h1, h2, h3, h4, h5⟩ := q
    have ne : p' ≠ p := fun z => by
      subst z
      exact r.sep j i p' _ _ hj he h0 rfl o0 ev s0
    exact ⟨ev, hm _ _ ne h1, h2.mono s, h3, hn _ ne h4, h5⟩
  | oh p' ds =>
    obtain ⟨vs, ev, h1, h2, h3, h4, h5⟩ := q
    have ne : p' ≠ p := fun z => by
      subst z
      exact r.sep j i p' _ _ hj he h0 rfl o0 ev s0
    exact ⟨vs, ev, hm _ _ ne h1, h2.mono s, h3, hn _ ne h4, h5⟩
  | oo c p' dx fs =>
    obtain ⟨vs, ev, h1, hd, h2, h3, h4, h5, h6, h7⟩ := q
    have ne : p' ≠ p := fun z => by
      subst z
      exact r.sep j i p' _ _ hj he h0 rfl o0 ev s0
    have ne2 : dx ≠ p := fun z => by
      subst z
      exact nown _ hd
    exact ⟨vs, ev, hm _ _ ne h1, hm _ _ ne2 hd, h2.mono s, h3, hn _ ne h4, h5, hn _ ne2 h6, h7⟩
/-- the own object changes (o: what then stands there; e: what the slot then says) -/
theorem RS.change {Hs H : Hp} {ρ : List En} {σ : L2.St} (r : RS C Hs ρ σ H) {i : Nat} {e0 e : En} {p : Addr} {o : HO} (h0 : ρ[i]? = some e0) (o0 : e0.own = true) (s0 : σ[i]? = some (some (.ref p)))
    (f0 : C.H0 p = none) (fs : Hs p = none) (fa : C.a ≠ some p) (he : EnOk C Hs (upd H p o) e (some (some (.ref p)))) : RS C Hs (ρ.set i e) σ (upd H p o) where
  len := by rw [List.length_set, r.len]
  fr := fun b u n h => by
    have z : b ≠ p := fun q => by
      rw [q, f0] at h
      cases h
    rw [upd_ne z]
    exact r.fr b u n h
  sh := fun b u h => by
    have z : b ≠ p := fun q => by
      rw [q, fs] at h
      cases h
    rw [upd_ne z]
    exact r.sh b u h
  sh0 := r.sh0
  new := r.new
  hd := fun x e => by
    obtain ⟨a1, c, i1, b1, s1, n1, cells, a2, a3, a4⟩ := r.hd x e
    refine ⟨a1, c, i1, b1, s1, n1, cells, ?_, a3, a4⟩
    rw [upd_ne fun q => fa (by rw [← q]; exact e)]
    exact a2
  hd0 := r.hd0
  en := fun j e' hj => by
    by_cases z : i = j
    · subst z
      have hl : i < ρ.length := (List.getElem?_eq_some_iff.mp h0).1
      rw [List.getElem?_set_self hl] at hj
      cases hj
      rw [s0]
      exact he
    · rw [List.getElem?_set_ne z] at hj
      exact r.other h0 o0 s0 (Ne.symm z) hj Hs _ (Same.refl _) (fun _ _ h => h) fun b u n h => by
        rw [upd_ne n]
        exact h
  sep := fun j k q e1 e2 hjk h1 h2 o1 o2 s1 s2 => by
    have hl : i < ρ.length := (List.getElem?_eq_some_iff.mp h0).1
    by_cases z : i = j
    · subst z
      have y : i ≠ k := hjk
      rw [List.getElem?_set_ne y] at h2
      exact r.sep i k q e0 e2 hjk h0 h2 o0 o2 s1 s2
    · by_cases y : i = k
      · subst y
        rw [List.getElem?_set_ne z] at h1
        exact r.sep j i q e1 e0 hjk h1 h0 o1 o0 s1 s2
      · rw [List.getElem?_set_ne z] at h1
        rw [List.getElem?_set_ne y] at h2
        exact r.sep j k q e1 e2 hjk h1 h2 o1 o2 s1 s2
theorem lt_own {Hs H : Hp} {ρ : List En} {σ : L2.St} (r : RS C Hs ρ σ H) {i : Nat} {e0 : En} {p : Addr} (h0 : ρ[i]? = some e0) (o0 : e0.own = true) (s0 : σ[i]? = some (some (.ref p))) : C.H0 p = none ∧ Hs p = none ∧ C.a ≠ some p := by
  have q := r.en i e0 h0
  cases e0 with
  | no => cases o0
  | sh d => cases o0
  | ol ds =>
    obtain ⟨p', vs, ev, h1, h2, h3, h4, h5⟩ := q
    rw [s0] at ev
    cases ev
    exact ⟨h3, h4, h5⟩
  | od ds =>
    obtain ⟨p', vs, ev, h1, h2, h3, h4, h5⟩ := q
    rw [s0] at ev
    cases ev
    exact ⟨h3, h4, h5⟩
  | odl p' ob vs ds =>
    obtain ⟨ev, h1, h2, h3, h4, h5⟩ := q
    rw [s0] at ev
    cases ev
    exact ⟨h3, h4, h5⟩
  | oh p' ds =>
    obtain ⟨vs, ev, h1, h2, h3, h4, h5⟩ := q
    rw [s0] at ev
    cases ev
    exact ⟨h3, h4, h5⟩
  | oo c p' dx fs =>
    obtain ⟨vs, ev, h1, hd, h2, h3, h4, h5, h6, h7⟩ := q
    rw [s0] at ev
    cases ev
    exact ⟨h3, h4, h5⟩
/-- from now on the object at p stands still -/
theorem RS.still {Hs H : Hp} {ρ : List En} {σ : L2.St} (r : RS C Hs ρ σ H) {i : Nat} {e0 : En} {p : Addr} {d : D} {o : HO} (h0 : ρ[i]? = some e0) (o0 : e0.own = true) (s0 : σ[i]? = some (some (.ref p)))
    (hp : H p = some o) (hd : Rep C.K C.a (upd Hs p o) d (.ref p)) : Same Hs (upd Hs p o) ∧ RS C (upd Hs p o) (ρ.set i (.sh d)) σ H := by
  obtain ⟨f0, fs, fa⟩ := lt_own r h0 o0 s0
  have s := same_upd (o := o) fs
  refine ⟨s, ⟨by rw [List.length_set, r.len], r.fr, fun b u h => ?_, r.sh0.trans s, fun b u h => ?_, fun x e => ?_, r.hd0, fun j e' hj => ?_, fun j k q e1 e2 hjk h1 h2 o1 o2 s1 s2 => ?_⟩⟩
  · by_cases z : b = p
    · subst z
      rw [upd_same] at h
      cases h
      exact hp
    · rw [upd_ne z] at h
      exact r.sh b u h
  · by_cases z : b = p
    · subst z
      exact .inr f0
    · rw [upd_ne z] at h
      exact r.new b u h
  · obtain ⟨a1, c, i1, b1, s1, n1, cells, a2, a3, a4⟩ := r.hd x e
    refine ⟨?_, c, i1, b1, s1, n1, cells, a2, s _ _ a3, a4⟩
    rw [upd_ne fun q => fa (by rw [← q]; exact e)]
    exact a1
  · have hl : i < ρ.length := (List.getElem?_eq_some_iff.mp h0).1
    by_cases z : i = j
    · subst z
      rw [List.getElem?_set_self hl] at hj
      cases hj
      exact ⟨_, s0, hd⟩
    · rw [List.getElem?_set_ne z] at hj
      exact r.other h0 o0 s0 (Ne.symm z) hj _ H s (fun b n h => by rw [upd_ne n]; exact h) fun b u n h => h
  · have hl : i < ρ.length := (List.getElem?_eq_some_iff.mp h0).1
    by_cases z : i = j
    · subst z
      rw [List.getElem?_set_self hl] at h1
      cases h1
      cases o1
    · by_cases y : i = k
      · subst y
        rw [List.getElem?_set_self hl] at h2
        cases h2
        cases o2
      · rw [List.getElem?_set_ne z] at h1
        rw [List.getElem?_set_ne y] at h2
        exact r.sep j k q e1 e2 hjk h1 h2 o1 o2 s1 s2
/-- a new object that a slot owns -/
theorem RS.take {Hs H : Hp} {ρ : List En} {σ : L2.St} (r : RS C Hs ρ σ H) {i : Nat} {e : En} {p : Addr} {o : HO} (hp : H p = none) (he : EnOk C Hs (upd H p o) e (some (some (.ref p)))) :
    RS C Hs (ρ.set i e) (σ.set i (some (.ref p))) (upd H p o) := by
  have r1 := r.side (o := o) hp
  have np : ∀ (j : Nat) (e' : En), ρ[j]? = some e' → e'.own = true → σ[j]? ≠ some (some (.ref p)) := fun j e' hj oj sj => by
    have q := r.en j e' hj
    cases e' with
    | no => cases oj
    | sh d => cases oj
    | ol ds =>
      obtain ⟨p', vs, ev, h1, _⟩ := q
      rw [sj] at ev
      cases ev
      rw [hp] at h1
      cases h1
    | od ds =>
      obtain ⟨p', vs, ev, h1, _⟩ := q
      rw [sj] at ev
      cases ev
      rw [hp] at h1
      cases h1
    | odl p' ob vs ds =>
      obtain ⟨ev, h1, _⟩ := q
      rw [sj] at ev
      cases ev
      rw [hp] at h1
      cases h1
    | oh p' ds =>
      obtain ⟨vs, ev, h1, _⟩ := q
      rw [sj] at ev
      cases ev
      rw [hp] at h1
      cases h1
    | oo c p' dx fs =>
      obtain ⟨vs, ev, h1, _⟩ := q
      rw [sj] at ev
      cases ev
      rw [hp] at h1
      cases h1
  refine ⟨by rw [List.length_set, List.length_set, r.len], r1.fr, r1.sh, r1.sh0, r1.new, r1.hd, r1.hd0, fun j e' hj => ?_, fun j k q e1 e2 hjk h1 h2 o1 o2 s1 s2 => ?_⟩
  · by_cases z : i = j
    · subst z
      have hl : i < ρ.length := by
        have q := (List.getElem?_eq_some_iff.mp hj).1
        rwa [List.length_set] at q
      rw [List.getElem?_set_self hl] at hj
      cases hj
      rw [List.getElem?_set_self (by rw [← r.len]; exact hl)]
      exact he
    · rw [List.getElem?_set_ne z] at hj ⊢
      exact r1.en j e' hj
  · by_cases z : i = j
    · subst z
      have y : i ≠ k := hjk
      have hl : i < ρ.length := by
        have q := (List.getElem?_eq_some_iff.mp h1).1
        rwa [List.length_set] at q
      rw [List.getElem?_set_self (by rw [← r.len]; exact hl)] at s1
      cases s1
      rw [List.getElem?_set_ne y] at h2 s2
      exact np k e2 h2 o2 s2
    · by_cases y : i = k
      · subst y
        have hl : i < ρ.length := by
          have q := (List.getElem?_eq_some_iff.mp h2).1
          rwa [List.length_set] at q
        rw [List.getElem?_set_self (by rw [← r.len]; exact hl)] at s2
        cases s2
        rw [List.getElem?_set_ne z] at h1 s1
        exact np j e1 h1 o1 s1
      · rw [List.getElem?_set_ne z] at h1 s1
        rw [List.getElem?_set_ne y] at h2 s2
        exact r.sep j k q e1 e2 hjk h1 h2 o1 o2 s1 s2

/-! ### blocks, small statements -/
def sNext : MS := fun ρ sq _ => sq.nx ρ
def sSeq (f g : MS) : MS := fun ρ sq qe => f ρ { sq with nx := fun ρ' => g ρ' sq qe } qe
theorem ds_next : DS C tNext sNext := ⟨fun Hs ρ σ H sq qe E l r w k => k.nx ρ σ Hs H w (Same.refl _) r⟩
theorem ds_seq {t u : TS} {f g : MS} (h1 : DS C t f) (h2 : DS C u g) : DS C (tSeq t u) (sSeq f g) := by
  refine ⟨fun Hs ρ σ H sq qe E l r w k => ?_⟩
  exact h1.run Hs ρ σ H _ qe _ l r w ⟨fun ρ' σ' Hs' H' w' s r' => h2.run Hs' ρ' σ' H' sq qe E l r' w' (k.mono s), k.rt, k.bk, k.ct⟩
def sNever : MS := fun _ _ _ => False
theorem ds_never : DS C tNever sNever := ⟨fun Hs ρ σ H sq qe E l r w k => w.elim⟩
def sBreak : MS := fun ρ sq _ => sq.bk ρ
def sCont : MS := fun ρ sq _ => sq.ct ρ
theorem ds_break : DS C tBreak sBreak := ⟨fun Hs ρ σ H sq qe E l r w k => k.bk ρ σ Hs H w (Same.refl _) r⟩
theorem ds_cont : DS C tCont sCont := ⟨fun Hs ρ σ H sq qe E l r w k => k.ct ρ σ Hs H w (Same.refl _) r⟩
def sDrop (f : ME) : MS := fun ρ sq qe => f ρ (fun _ => sq.nx ρ) qe
theorem ds_drop {t : TE} {f : ME} (h : DT C t f) : DS C (tDrop t) (sDrop f) :=
  ⟨fun Hs ρ σ H sq qe E l r w k => h.run Hs ρ σ H _ qe _ l r w fun d v Hs1 H1 w1 g1 r1 p1 => k.nx ρ σ Hs1 H1 w1 g1.s r1⟩
def sRet (f : ME) : MS := fun ρ sq qe => f ρ (sq.rt ρ) qe
theorem ds_ret {t : TE} {f : ME} (h : DT C t f) : DS C (tRet t) (sRet f) :=
  ⟨fun Hs ρ σ H sq qe E l r w k => h.run Hs ρ σ H _ qe _ l r w fun d v Hs1 H1 w1 g1 r1 p1 => k.rt d v ρ σ Hs1 H1 w1 g1.s r1 p1⟩
def sRetN : MS := fun ρ sq _ => sq.rt ρ .non
theorem ds_retN : DS C tRetN sRetN := ⟨fun Hs ρ σ H sq qe E l r w k => k.rt .non .non ρ σ Hs H w (Same.refl _) r .non⟩
def sIf (c : MT) (f g : MS) : MS := fun ρ sq qe => c ρ (fun b => if b = true then f ρ sq qe else g ρ sq qe) qe
theorem ds_if {c : TT} {t u : TS} {mc : MT} {f g : MS} (hc : DTt C c mc) (h1 : DS C t f) (h2 : DS C u g) : DS C (tIfS c t u) (sIf mc f g) := by
  refine ⟨fun Hs ρ σ H sq qe E l r w k => ?_⟩
  refine hc.run Hs ρ σ H _ qe _ l r w fun b Hs1 H1 w1 g1 r1 => ?_
  cases b with
  | true => exact h1.run Hs1 ρ σ H1 sq qe E l r1 w1 (k.mono g1.s)
  | false => exact h2.run Hs1 ρ σ H1 sq qe E l r1 w1 (k.mono g1.s)
/-- target = e -/
def sAsg (f : ME) (g : MG) : MS := fun ρ sq qe => f ρ (fun d => g d ρ sq.nx) qe
theorem ds_asg {t : TE} {f : ME} {S : List Nat} {tg : TG} {g : MG} (h : DT C t f) (hg : DG C S tg g) : DS C (tAsg t tg) (sAsg f g) :=
  ⟨fun Hs ρ σ H sq qe E l r w k => h.run Hs ρ σ H _ qe _ l r w fun d v Hs1 H1 w1 g1 r1 p1 => hg.run Hs1 ρ σ H1 d v _ _ r1 p1 w1 fun ρ' σ' w' r' _ => k.nx ρ' σ' Hs1 H1 w' g1.s r'⟩
/-- x = a new list, its own -/
def sOwn (i : Nat) (f : MA) : MS := fun ρ sq qe => f ρ (fun ds => sq.nx (ρ.set i (.ol ds))) qe
theorem ds_own {i : Nat} {t : TE} {f : MA} (h : DF C t f) : DS C (tAsg t (gName i)) (sOwn i f) := by
  refine ⟨fun Hs ρ σ H sq qe E l r w k => h.run Hs ρ σ H _ qe _ l r w fun ds p vs Hs1 H1 w1 g1 r1 hp rl => ?_⟩
  exact k.nx _ _ Hs1 _ w1 g1.s (r1.take hp ⟨p, vs, rfl, upd_same, rl, r1.fresh_0 hp, r1.fresh_s hp, r1.fresh_a hp⟩)
/-- x = {}, its own -/
def sOwnD (i : Nat) : MS := fun ρ sq _ => sq.nx (ρ.set i (.od []))
theorem ds_ownD {i : Nat} : DS C (tAsg tDNewK (gName i)) (sOwnD i) := by
  refine ⟨fun Hs ρ σ H sq qe E l r w k => fun p hp => ?_⟩
  exact k.nx _ _ Hs _ w (Same.refl _) (r.take hp ⟨p, [], rfl, upd_same, .nil, r.fresh_0 hp, r.fresh_s hp, r.fresh_a hp⟩)
/-- the own list (dict) of the slot stands still from here on -/
def sStill (i : Nat) (f : MS) : MS := fun ρ sq qe => match ρ[i]? with
  | some (.ol ds) => f (ρ.set i (.sh (.lst ds))) sq qe
  | some (.od ds) => f (ρ.set i (.sh (.dct ds))) sq qe
  | _ => f ρ sq qe
theorem ds_still {i : Nat} {t : TS} {f : MS} (h : DS C t f) : DS C t (sStill i f) := by
  refine ⟨fun Hs ρ σ H sq qe E l r w k => ?_⟩
  unfold sStill at w
  split at w
  · rename_i ds e
    obtain ⟨p, vs, ev, h1, h2, h3, h4, h5⟩ := r.en i _ e
    obtain ⟨s, r'⟩ := r.still (d := .lst ds) e rfl ev h1 (.lst upd_same (h2.mono (same_upd h4)))
    exact h.run _ _ σ H sq qe E l r' w (k.mono s)
  · rename_i ds e
    obtain ⟨p, vs, ev, h1, h2, h3, h4, h5⟩ := r.en i _ e
    obtain ⟨s, r'⟩ := r.still (d := .dct ds) e rfl ev h1 (.dct upd_same (h2.mono (same_upd h4)))
    exact h.run _ _ σ H sq qe E l r' w (k.mono s)
  · exact h.run Hs ρ σ H sq qe E l r w k
/-- a, b = e1, e2 -/
def sPar (i j : Nat) (g : MA) : MS := fun ρ sq qe => g ρ (fun ds => match ds with
  | [d, e] => sq.nx ((ρ.set i (.sh d)).set j (.sh e))
  | _ => False) qe
theorem ds_par {i j : Nat} {t : TA} {g : MA} (h : DA C t g) : DS C (tPar i j t) (sPar i j g) := by
  refine ⟨fun Hs ρ σ H sq qe E l r w k => h.run Hs ρ σ H _ qe _ l r w fun ds vs Hs1 H1 w1 g1 r1 p1 => ?_⟩
  split at w1
  · cases p1 with
    | cons p q =>
      cases q with
      | cons p' q' =>
        cases q'
        exact ⟨_, _, rfl, k.nx _ _ Hs1 H1 w1 g1.s ((r1.set p).set p')⟩
  · exact w1.elim
/-- x op= e, of ints -/
def sAugI (i : Nat) (op : Int → Int → Int) (f : ME) : MS := fun ρ sq qe => match ρ[i]? with
  | some (.sh (.int x)) => f ρ (fun d => match d with
    | .int y => sq.nx (ρ.set i (.sh (.int (op x y))))
    | _ => False) qe
  | _ => False
theorem ds_augI {i : Nat} {op : Int → Int → Int} {t : TE} {f : ME} (h : DT C t f) : DS C (tAug i t (ipI op)) (sAugI i op f) := by
  refine ⟨fun Hs ρ σ H sq qe E l r w k => ?_⟩
  unfold sAugI at w
  split at w
  · rename_i x e
    obtain ⟨v, ev, rp⟩ := r.en i _ e
    cases rp
    refine ⟨_, ev, h.run Hs ρ σ H _ qe _ l r w fun d v Hs1 H1 w1 g1 r1 p1 => ?_⟩
    split at w1
    · cases p1
      exact ⟨_, _, rfl, rfl, k.nx _ _ Hs1 H1 w1 g1.s (r1.set (.int _))⟩
    · exact w1.elim
  · exact w.elim

/-! ### an own list changes -/
/-- x.append(e) -/
def sApp (i : Nat) (f : ME) : MS := fun ρ sq qe => match ρ[i]? with
  | some (.ol ds) => f ρ (fun d => ds.length < sizeLine ∧ sq.nx (ρ.set i (.ol (ds ++ [d])))) qe
  | _ => False
theorem ds_app {i : Nat} {t : TE} {f : ME} (h : DT C t f) : DS C (tDrop (tBM C.K "list" rAppend (tVar i) (tCons t tNil))) (sApp i f) := by
  refine ⟨fun Hs ρ σ H sq qe E l r w k => ?_⟩
  unfold sApp at w
  split at w
  · rename_i ds e
    obtain ⟨p, vs, ev, h1, h2, h3, h4, h5⟩ := r.en i _ e
    refine ⟨_, ev, .inl ⟨rfl, _, SqL.of h1⟩, h.run Hs ρ σ H _ qe _ l r w fun d v Hs1 H1 w1 g1 r1 p1 => ?_⟩
    obtain ⟨p', vs', ev', h1', h2', h3', h4', h5'⟩ := r1.en i _ e
    rw [ev] at ev'
    cases ev'
    refine ⟨p, vs', v, rfl, rfl, h1', by rw [← h2'.length]; exact w1.1, ?_⟩
    exact k.nx _ _ Hs1 _ w1.2 g1.s (r1.change e rfl ev h3' h4' h5' ⟨p, _, rfl, upd_same, h2'.append (.cons p1 .nil), h3', h4', h5'⟩)
  · exact w.elim
/-- x.extend(e) -/
def sExt (i : Nat) (f : ME) : MS := fun ρ sq qe => match ρ[i]? with
  | some (.ol ds) => f ρ (fun d => match d with
    | .lst es => ds.length + es.length ≤ sizeLine ∧ sq.nx (ρ.set i (.ol (ds ++ es)))
    | _ => False) qe
  | _ => False
theorem ds_ext {i : Nat} {t : TE} {f : ME} (h : DB C t f) : DS C (tDrop (tBM C.K "list" rExtend (tVar i) (tCons t tNil))) (sExt i f) := by
  refine ⟨fun Hs ρ σ H sq qe E l r w k => ?_⟩
  unfold sExt at w
  split at w
  · rename_i ds e
    obtain ⟨p, vs, ev, h1, h2, h3, h4, h5⟩ := r.en i _ e
    refine ⟨_, ev, .inl ⟨rfl, _, SqL.of h1⟩, h.run Hs ρ σ H _ qe _ l r w fun d v Hs1 H1 w1 g1 r1 p1 => ?_⟩
    split at w1
    · obtain ⟨b, us, rfl, b1, b2⟩ := p1.lst r1.sh
      obtain ⟨p', vs', ev', h1', h2', h3', h4', h5'⟩ := r1.en i _ e
      rw [ev] at ev'
      cases ev'
      refine ⟨p, b, vs', us, rfl, rfl, h1', b1, by rw [← h2'.length, ← b2.length]; exact w1.1, ?_⟩
      exact k.nx _ _ Hs1 _ w1.2 g1.s (r1.change e rfl ev h3' h4' h5' ⟨p, _, rfl, upd_same, h2'.append b2, h3', h4', h5'⟩)
    · exact w1.elim
  · exact w.elim
/-- x.remove(e), of ints -/
def sRem (i : Nat) (f : ME) : MS := fun ρ sq qe => match ρ[i]? with
  | some (.ol ds) => f ρ (fun d => match d, D.ints ds with
    | .int k, some ns => k ∈ ns ∧ sq.nx (ρ.set i (.ol ((ns.erase k).map .int)))
    | _, _ => False) qe
  | _ => False
theorem erase_at : ∀ {ns : List Int} {k : Int}, k ∈ ns → ∃ j : Nat, ns[j]? = some k ∧ (∀ m : Nat, m < j → ns[m]? ≠ some k) ∧ ns.erase k = ns.eraseIdx j
  | [], _, h => by cases h
  | n :: ns, k, h => by
    by_cases e : n = k
    · subst e
      exact ⟨0, rfl, fun m hm => absurd hm (Nat.not_lt_zero _), by rw [List.erase_cons_head]; rfl⟩
    · have h2 : k ∈ ns := by
        rcases List.mem_cons.mp h with h | h
        · exact absurd h.symm e
        · exact h
      obtain ⟨j, h3, h4, h5⟩ := erase_at h2
      refine ⟨j + 1, by simpa using h3, fun m hm q => ?_, ?_⟩
      · cases m with
        | zero => exact e (Option.some.inj q)
        | succ m => exact h4 m (Nat.lt_of_succ_lt_succ hm) (by simpa using q)
      · rw [List.erase_cons_tail (by simpa using e), h5]
        rfl
theorem ds_rem {i : Nat} {t : TE} {f : ME} (h : DT C t f) : DS C (tDrop (tBM C.K "list" rRemI (tVar i) (tCons t tNil))) (sRem i f) := by
  refine ⟨fun Hs ρ σ H sq qe E l r w k => ?_⟩
  unfold sRem at w
  split at w
  · rename_i ds e
    obtain ⟨p, vs, ev, h1, h2, h3, h4, h5⟩ := r.en i _ e
    refine ⟨_, ev, .inl ⟨rfl, _, SqL.of h1⟩, h.run Hs ρ σ H _ qe _ l r w fun d v Hs1 H1 w1 g1 r1 p1 => ?_⟩
    split at w1
    · rename_i kk ns en
      cases p1
      obtain ⟨p', vs', ev', h1', h2', h3', h4', h5'⟩ := r1.en i _ e
      rw [ev] at ev'
      cases ev'
      have e2 := ints_eq en
      subst e2
      obtain rfl := h2'.ints
      obtain ⟨j, j1, j2, j3⟩ := erase_at w1.1
      refine ⟨p, ns, kk, j, rfl, rfl, h1', j1, j2, ?_⟩
      have w2 := w1.2
      rw [j3] at w2
      exact k.nx _ _ Hs1 _ w2 g1.s (r1.change e rfl ev h3' h4' h5' ⟨p, _, rfl, upd_same, RepL.ofInts _, h3', h4', h5'⟩)
    · exact w1.elim
  · exact w.elim
/-- x[j] = e -/
def sSetI (i : Nat) (fj fe : ME) : MS := fun ρ sq qe => fe ρ (fun d => match ρ[i]? with
  | some (.ol ds) => fj ρ (fun j => match j with
    | .int j => (match ixN ds.length j with
      | some n => sq.nx (ρ.set i (.ol (ds.set n d)))
      | none => False)
    | _ => False) qe
  | _ => False) qe
theorem ds_setI {i : Nat} {tj te : TE} {fj fe : ME} (hj : DT C tj fj) (he : DT C te fe) : DS C (tAsg te (gSub (tVar i) tj rSetL)) (sSetI i fj fe) := by
  refine ⟨fun Hs ρ σ H sq qe E l r w k => he.run Hs ρ σ H _ qe _ l r w fun d v Hs1 H1 w1 g1 r1 p1 => ?_⟩
  split at w1
  · rename_i ds e
    obtain ⟨p, vs, ev, h1, h2, h3, h4, h5⟩ := r1.en i _ e
    refine ⟨_, ev, hj.run Hs1 ρ σ H1 _ qe _ l r1 w1 fun j vj Hs2 H2 w2 g2 r2 p2 => ?_⟩
    split at w2
    · split at w2
      · rename_i n en
        cases p2
        obtain ⟨p', vs', ev', h1', h2', h3', h4', h5'⟩ := r2.en i _ e
        rw [ev] at ev'
        cases ev'
        refine ⟨p, vs', _, n, rfl, rfl, h1', by rw [← h2'.length]; exact en, ?_⟩
        exact k.nx _ _ Hs2 _ w2 (g1.s.trans g2.s) (r2.change e rfl ev h3' h4' h5' ⟨p, _, rfl, upd_same, RepL.set (p1.mono g2.s) n h2', h3', h4', h5'⟩)
      · exact w2.elim
    · exact w2.elim
  · exact w1.elim
/-- y = x.pop(e) -/
def sPopI (j i : Nat) (f : ME) : MS := fun ρ sq qe => match ρ[i]? with
  | some (.ol ds) => f ρ (fun d => match d with
    | .int n => (-(2 ^ 63) ≤ n ∧ n < 2 ^ 63) ∧ (match seqIndex? n ds.length with
      | some m => (match ds[m]? with
        | some x => sq.nx ((ρ.set i (.ol (ds.eraseIdx m))).set j (.sh x))
        | none => False)
      | none => False)
    | _ => False) qe
  | _ => False
theorem ds_popI {j i : Nat} {t : TE} {f : ME} (h : DT C t f) : DS C (tAsg (tBM C.K "list" rPopAt (tVar i) (tCons t tNil)) (gName j)) (sPopI j i f) := by
  refine ⟨fun Hs ρ σ H sq qe E l r w k => ?_⟩
  unfold sPopI at w
  split at w
  · rename_i ds e
    obtain ⟨p, vs, ev, h1, h2, h3, h4, h5⟩ := r.en i _ e
    refine ⟨_, ev, .inl ⟨rfl, _, SqL.of h1⟩, h.run Hs ρ σ H _ qe _ l r w fun d v Hs1 H1 w1 g1 r1 p1 => ?_⟩
    split at w1
    · obtain ⟨⟨a1, a2⟩, w1⟩ := w1
      split at w1
      · rename_i m em
        split at w1
        · rename_i x ex
          cases p1
          obtain ⟨p', vs', ev', h1', h2', h3', h4', h5'⟩ := r1.en i _ e
          rw [ev] at ev'
          cases ev'
          obtain ⟨v, hv, rv⟩ := h2'.getD ex
          refine ⟨p, vs', _, m, v, rfl, rfl, h1', a1, a2, by rw [← h2'.length]; exact em, hv, ?_⟩
          exact k.nx _ _ Hs1 _ w1 g1.s ((r1.change (e := .ol (ds.eraseIdx m)) (o := .lst (vs'.eraseIdx m)) e rfl ev h3' h4' h5' ⟨p, _, rfl, upd_same, h2'.eraseIdx m, h3', h4', h5'⟩).set rv)
        · exact w1.elim
      · exact w1.elim
    · exact w1.elim
  · exact w.elim
/-- y = x.pop() -/
def sPop (j i : Nat) : MS := fun ρ sq _ => match ρ[i]? with
  | some (.ol ds) => (match ds[ds.length - 1]? with
    | some x => sq.nx ((ρ.set i (.ol ds.dropLast)).set j (.sh x))
    | none => False)
  | _ => False
theorem ds_pop {j i : Nat} : DS C (tAsg (tBM0 C.K "list" rPop (tVar i)) (gName j)) (sPop j i) := by
  refine ⟨fun Hs ρ σ H sq qe E l r w k => ?_⟩
  unfold sPop at w
  split at w
  · rename_i ds e
    obtain ⟨p, vs, ev, h1, h2, h3, h4, h5⟩ := r.en i _ e
    split at w
    · rename_i x ex
      obtain ⟨v, hv, rv⟩ := h2.getD ex
      rw [h2.length] at hv
      refine ⟨_, ev, .inl ⟨rfl, _, SqL.of h1⟩, p, vs, v, rfl, rfl, h1, hv, ?_⟩
      exact k.nx _ _ Hs _ w (Same.refl _) ((r.change (e := .ol ds.dropLast) (o := .lst vs.dropLast) e rfl ev h3 h4 h5 ⟨p, _, rfl, upd_same, h2.dropLast, h3, h4, h5⟩).set rv)
    · exact w.elim
  · exact w.elim

/-! ### for, while -/
def forL (g : MG) (body : MS) : List D → List En → SQ → QE → Prop
  | [], ρ, sq, _ => sq.nx ρ
  | d :: ds, ρ, sq, qe => g d ρ fun ρ1 => body ρ1 { nx := fun ρ2 => forL g body ds ρ2 sq qe, rt := sq.rt, bk := sq.nx, ct := fun ρ2 => forL g body ds ρ2 sq qe } qe
def sFor (f : MA) (g : MG) (body : MS) : MS := fun ρ sq qe => f ρ (fun items => forL g body items ρ sq qe) qe
theorem ds_for {wi : TI} {tg : TG} {tb : TS} {f : MA} {S : List Nat} {g : MG} {body : MS} (hi : DI C wi f) (hg : DG C S tg g) (hb : DS C tb body) : DS C (tFor wi tg tb) (sFor f g body) := by
  refine ⟨fun Hs ρ σ H sq qe E l r w k => ?_⟩
  refine hi.run Hs ρ σ H _ qe _ l r w fun items J Hs1 H1 w1 g1 r1 wk => ?_
  refine ⟨fun i m σ2 H2 => m = items.length - i ∧ i ≤ items.length ∧ ∃ Hs2 ρ2, Same Hs1 Hs2 ∧ RS C Hs2 ρ2 σ2 H2 ∧ forL g body (items.drop i) ρ2 sq qe, ⟨items.length, by simp, Nat.zero_le _, Hs1, ρ, Same.refl _, r1, w1⟩, ?_⟩
  rintro i m σ2 H2 ⟨rfl, hle, Hs2, ρ2, s2, r2, w2⟩
  by_cases hlt : i < items.length
  · refine .inr ⟨wk.go i Hs2 ρ2 σ2 H2 s2 r2 hlt, ?_⟩
    rw [List.drop_eq_getElem_cons hlt] at w2
    refine ⟨fun σ' H' => ∃ Hs' ρ', Same Hs1 Hs' ∧ RS C Hs' ρ' σ' H' ∧ forL g body (items.drop (i + 1)) ρ' sq qe, fun σ' H' h' => ⟨items.length - (i + 1), by omega, rfl, hlt, h'⟩, fun x H' hy => ?_⟩
    obtain ⟨Hs3, g3, r3, px⟩ := wk.yld i Hs2 ρ2 σ2 H2 _ x H' s2 r2 (List.getElem?_eq_getElem hlt) hy
    refine hg.run Hs3 ρ2 σ2 H' _ _ _ _ r3 px w2 fun ρ4 σ4 w4 r4 _ => ?_
    have s13 := s2.trans g3.s
    refine hb.run Hs3 ρ4 σ4 H' _ qe _ l r4 w4 ⟨fun ρ' σ' Hs' H' w' s' r' => ⟨Hs', ρ', s13.trans s', r', w'⟩, fun d v ρ' σ' Hs' H' w' s' => k.rt d v ρ' σ' Hs' H' w' (g1.s.trans (s13.trans s')),
      fun ρ' σ' Hs' H' w' s' => k.nx ρ' σ' Hs' H' w' (g1.s.trans (s13.trans s')), fun ρ' σ' Hs' H' w' s' r' => ⟨Hs', ρ', s13.trans s', r', w'⟩⟩
  · rw [List.drop_eq_nil_of_le (by omega)] at w2
    exact .inl ⟨wk.stop i Hs2 ρ2 σ2 H2 s2 r2 (by omega), k.nx ρ2 σ2 Hs2 H2 w2 (g1.s.trans s2) r2⟩
def whN (c : MT) (body : MS) : Nat → List En → SQ → QE → Prop
  | 0, _, _, _ => False
  | n + 1, ρ, sq, qe => c ρ (fun b => if b = true then body ρ { nx := fun ρ2 => whN c body n ρ2 sq qe, rt := sq.rt, bk := sq.nx, ct := fun ρ2 => whN c body n ρ2 sq qe } qe else sq.nx ρ) qe
def sWhile (c : MT) (body : MS) : MS := fun ρ sq qe => ∃ n, whN c body n ρ sq qe
theorem ds_while {tc : TT} {tb : TS} {c : MT} {body : MS} (hc : DTt C tc c) (hb : DS C tb body) : DS C (tWhile tc tb) (sWhile c body) := by
  refine ⟨fun Hs ρ σ H sq qe E l r w k => ?_⟩
  obtain ⟨n, w⟩ := w
  refine ⟨fun m σ2 H2 => ∃ Hs2 ρ2, Same Hs Hs2 ∧ RS C Hs2 ρ2 σ2 H2 ∧ whN c body m ρ2 sq qe, ⟨n, Hs, ρ, Same.refl _, r, w⟩, ?_⟩
  rintro m σ2 H2 ⟨Hs2, ρ2, s2, r2, w2⟩
  cases m with
  | zero => exact w2.elim
  | succ m =>
    refine hc.run Hs2 ρ2 σ2 H2 _ qe _ l r2 w2 fun b Hs3 H3 w3 g3 r3 => ?_
    cases b with
    | false => exact k.nx ρ2 σ2 Hs3 H3 w3 (s2.trans g3.s) r3
    | true =>
      have s13 := s2.trans g3.s
      rw [if_pos rfl]
      refine ⟨fun σ' H' => ∃ Hs' ρ', Same Hs Hs' ∧ RS C Hs' ρ' σ' H' ∧ whN c body m ρ' sq qe, fun σ' H' h' => ⟨m, Nat.lt_succ_self _, h'⟩, ?_⟩
      refine hb.run Hs3 ρ2 σ2 H3 _ qe _ l r3 w3 ⟨fun ρ' σ' Hs' H' w' s' r' => ⟨Hs', ρ', s13.trans s', r', w'⟩, fun d v ρ' σ' Hs' H' w' s' => k.rt d v ρ' σ' Hs' H' w' (s13.trans s'),
        fun ρ' σ' Hs' H' w' s' => k.nx ρ' σ' Hs' H' w' (s13.trans s'), fun ρ' σ' Hs' H' w' s' r' => ⟨Hs', ρ', s13.trans s', r', w'⟩⟩

/-! ### defs and their calls -/
/-- what a def does, by its slots: n parameters, k more names -/
def mBody (k : Nat) (f : MS) : M := fun ds q qe => f (ds.map .sh ++ List.replicate k .no) ⟨fun _ => q .non, fun _ => q, fun _ => False, fun _ => False⟩ qe
/-- the promise of a def that raises nothing -/
def spOf (K : PySem.W.Frag) (n : Nat) (m : M) : Sp := fun vs H Q _ => ∃ (a : Hd) (Hs : Hp) (ds : List D) (q : D → Prop), vs.length = n ∧ Same Hs H ∧ HandOk a Hs H ∧ RepL K a Hs ds vs ∧ m ds q (fun _ => False) ∧
  ∀ d v Hs' H', q d → Gr a Hs H Hs' H' → Same Hs' H' → HandOk a Hs' H' → Rep K a Hs' d v → Q v H'
def eCall (m : M) (g : MA) : ME := fun ρ q qe => g ρ (fun ds => m ds q qe) qe
/-- the number of the arguments -/
structure DAn (C : Ctx) (n : Nat) (t : TA) (f : MA) : Prop where
  run : ∀ Hs ρ σ H q qe Q, (∀ x, qe x → C.W x) → RS C Hs ρ σ H → f ρ q qe →
    (∀ ds vs Hs' H', q ds → Gr C.a Hs H Hs' H' → RS C Hs' ρ σ H' → RepL C.K C.a Hs' ds vs → vs.length = n → Q vs H') → t σ H Q
theorem dan_nil : DAn C 0 tNil aNil := ⟨fun Hs ρ σ H q qe Q l r w k => k [] [] Hs H w Gr.refl r .nil rfl⟩
theorem dan_cons {n : Nat} {t : TE} {u : TA} {f : ME} {g : MA} (h : DT C t f) (h2 : DAn C n u g) : DAn C (n + 1) (tCons t u) (aCons f g) := by
  refine ⟨fun Hs ρ σ H q qe Q l r w k => ?_⟩
  refine h.run Hs ρ σ H _ qe _ l r w fun d v Hs1 H1 w1 g1 r1 p1 => ?_
  exact h2.run Hs1 ρ σ H1 _ qe _ l r1 w1 fun ds vs Hs2 H2 w2 g2 r2 p2 e => k _ _ Hs2 H2 w2 (g1.trans g2) r2 (.cons (p1.mono g2.s) p2) (congrArg (· + 1) e)
theorem dt_call {n : Nat} {m : M} {t : TA} {g : MA} (hW : ∀ x, ¬ C.W x) (h : DAn C n t g) : DT C (tCall (spOf C.K n m) [] E0 t) (eCall m g) := by
  refine ⟨fun Hs ρ σ H q qe Q l r w k => ?_⟩
  have e : qe = fun _ => False := by
    funext x
    exact propext ⟨fun h => hW x (l x h), fun h => h.elim⟩
  subst e
  refine h.run Hs ρ σ H _ _ _ l r w fun ds vs Hs1 H1 w1 g1 r1 p1 hl => ?_
  rw [List.append_nil]
  refine ⟨C.a, Hs1, ds, q, hl, r1.sh, r1.hd, p1, w1, fun d v Hs2 H2 e g2 s2 h2 p2 => ?_⟩
  exact k d v Hs2 H2 e (g1.trans g2) (r1.grow g2 s2 h2) p2
theorem start_get {N : List Str} {vs : List V} {i : Nat} : (L2.start N vs)[i]? = if i < vs.length then (vs[i]?).map some else if i < N.length then some none else none := by
  unfold L2.start
  by_cases h : i < vs.length
  · rw [if_pos h, List.getElem?_append_left (by rw [List.length_map]; exact h), List.getElem?_map]
  · rw [if_neg h, List.getElem?_append_right (by rw [List.length_map]; omega), List.length_map, List.getElem?_replicate]
    by_cases h2 : i < N.length
    · rw [if_pos h2, if_pos (by omega)]
    · rw [if_neg h2, if_neg (by omega)]
theorem rs_start {K : PySem.W.Frag} {a : Hd} {Hs H : Hp} {ds : List D} {vs : List V} {N : List Str} {k : Nat} {W : EX → Prop} (s : Same Hs H) (hd : HandOk a Hs H) (r : RepL K a Hs ds vs) (hN : N.length = vs.length + k) :
    RS ⟨K, a, H, Hs, W⟩ Hs (ds.map .sh ++ List.replicate k .no) (L2.start N vs) H where
  len := by
    unfold L2.start
    rw [List.length_append, List.length_append, List.length_map, List.length_map, List.length_replicate, List.length_replicate, r.length]
    omega
  fr := SB.refl
  sh := s
  sh0 := Same.refl _
  new := fun b o h => .inl h
  hd := hd
  hd0 := fun x e => by
    obtain ⟨_, c, i, b, z, n, cells, h1, _⟩ := hd x e
    show H x ≠ none
    rw [h1]
    exact fun q => by cases q
  en := fun i e he => by
    by_cases h : i < ds.length
    · rw [List.getElem?_append_left (by rw [List.length_map]; exact h), List.getElem?_map, List.getElem?_eq_getElem h] at he
      cases he
      obtain ⟨v, hv, rv⟩ := r.getD (List.getElem?_eq_getElem h)
      rw [start_get, if_pos (by rw [← r.length]; exact h), hv]
      exact ⟨v, rfl, rv⟩
    · rw [List.getElem?_append_right (by rw [List.length_map]; omega), List.length_map, List.getElem?_replicate] at he
      split at he
      · cases he
        trivial
      · cases he
  sep := fun i j p e e' hij h1 h2 o1 o2 s1 s2 => by
    have no : ∀ (i : Nat) (e : En), (ds.map En.sh ++ List.replicate k .no)[i]? = some e → e.own = false := fun i e he => by
      by_cases h : i < ds.length
      · rw [List.getElem?_append_left (by rw [List.length_map]; exact h), List.getElem?_map, List.getElem?_eq_getElem h] at he
        cases he
        rfl
      · rw [List.getElem?_append_right (by rw [List.length_map]; omega), List.length_map, List.getElem?_replicate] at he
        split at he
        · cases he
          rfl
        · cases he
    rw [no i e h1] at o1
    cases o1
/-- a def's body does what its functional reading says -/
theorem body_ok {K : PySem.W.Frag} {t : TS} {f : MS} {n k : Nat} {N : List Str} {vs : List V} {H : Hp} {Q : VK} {E : XK} (hN : N.length = n + k) (ht : ∀ C : Ctx, C.K = K → (∀ x, ¬ C.W x) → DS C t f)
    (h : spOf K n (mBody k f) vs H Q E) : t { nx := fun _ H' => Q .non H', rt := Q } (L2.start N vs) H := by
  obtain ⟨a, Hs, ds, q, hl, s, hd, r, w, kk⟩ := h
  have rs : RS ⟨K, a, H, Hs, fun _ => False⟩ Hs (ds.map .sh ++ List.replicate k .no) (L2.start N vs) H := rs_start s hd r (by rw [hl]; exact hN)
  have fin : ∀ {d : D} {v : V} {ρ' : List En} {σ' : L2.St} {Hs' H' : Hp}, q d → Same Hs Hs' → RS ⟨K, a, H, Hs, fun _ => False⟩ Hs' ρ' σ' H' → Rep K a Hs' d v → Q v H' := fun {d v ρ' σ' Hs' H'} hq s' r' p' =>
    kk d v Hs' H' hq ⟨s', r'.fr, fun b o hb => by
      rcases r'.new b o hb with z | z
      · exact .inl z
      · refine .inr ⟨z, fun e => ?_⟩
        exact r'.hd0 b e z⟩ r'.sh r'.hd p'
  exact (ht ⟨K, a, H, Hs, fun _ => False⟩ rfl fun _ z => z).run Hs _ _ H ⟨fun _ => q .non, fun _ => q, fun _ => False, fun _ => False⟩ (fun _ => False) _ (fun _ z => z) rs w
    ⟨fun ρ' σ' Hs' H' w' s' r' => fin w' s' r' .non, fun d v ρ' σ' Hs' H' w' s' r' p' => fin w' s' r' p', fun _ _ _ _ z => z.elim, fun _ _ _ _ z => z.elim⟩
end
end Fd
/-! enumerate and zip over lists and tuples alike -/
namespace Fd
open PySem PySem.Spec L2

/-- a list (true) or a tuple (false) that is read -/
def SqK (b : Bool) (K : PySem.W.Frag) (H : Hp) (a : Addr) (xs : List V) : Prop := if b = true then SqL K H a xs else SqT K H a xs
def ItK (b : Bool) (h : Heap) (it a : Addr) (i : Nat) : Prop := if b = true then h.IsListIter it a i else h.IsTupleIter it a i
def SrcK (b : Bool) (h : Heap) (a : Addr) (its : Array Value) : Prop := if b = true then h.IsList a its else h.IsTuple a its
def itT (b : Bool) : String := if b = true then "list_iterator" else "tuple_iterator"
theorem ItK.get {b : Bool} {h : Heap} {it a : Addr} {i : Nat} (x : ItK b h it a i) : ∃ o, h.get? it = some o ∧ o.cls = .type (itT b) ∧ ∀ v, o.data ≠ .cell v := by
  cases b with
  | true =>
    obtain ⟨o, e, c, d⟩ := (show h.IsListIter it a i from x)
    exact ⟨o, e, c, fun v z => by rw [d] at z; cases z⟩
  | false =>
    obtain ⟨o, e, c, d⟩ := (show h.IsTupleIter it a i from x)
    exact ⟨o, e, c, fun v z => by rw [d] at z; cases z⟩
theorem ItK.at {b : Bool} {h h' : Heap} {it a : Addr} {i : Nat} (x : ItK b h it a i) (k : ∀ o, h.get? it = some o → h'.get? it = some o) : ItK b h' it a i := by
  cases b with
  | true => exact (show h.IsListIter it a i from x).at k
  | false => exact (show h.IsTupleIter it a i from x).at k
theorem SrcK.get {b : Bool} {h : Heap} {a : Addr} {its : Array Value} (x : SrcK b h a its) : ∃ o, h.get? a = some o ∧ o.cls = .type (if b = true then "list" else "tuple") := by
  cases b with
  | true =>
    obtain ⟨o, e, c, _⟩ := (show h.IsList a its from x)
    exact ⟨o, e, c⟩
  | false =>
    obtain ⟨o, e, c, _⟩ := (show h.IsTuple a its from x)
    exact ⟨o, e, c⟩
theorem src_ne {b : Bool} {h : Heap} {it a : Addr} {i : Nat} {its : Array Value} (x : ItK b h it a i) (y : SrcK b h a its) : a ≠ it := by
  intro e
  subst e
  obtain ⟨o, e1, c1, _⟩ := x.get
  obtain ⟨o2, e2, c2⟩ := y.get
  rw [e1] at e2
  cases e2
  rw [c1] at c2
  cases b with
  | true => exact absurd c2 (by decide)
  | false => exact absurd c2 (by decide)
theorem srcK_of {X : Cx} {pins : List (Addr × Obj)} {σ : L2.St} {H : Hp} {s : Shared} {b : Bool} {a : Addr} {xs : List V} (I : Inv X pins σ H s) (h : SqK b X.K H a xs) : ∃ its : List Value, Vals xs its ∧ SrcK b s.heap a its.toArray := by
  cases b with
  | true =>
    obtain ⟨its, rv, p, _⟩ := I.list (show SqL X.K H a xs from h)
    exact ⟨its, rv, p.isList⟩
  | false =>
    obtain ⟨its, rv, p, _⟩ := I.tuple (show SqT X.K H a xs from h)
    exact ⟨its, rv, p⟩
theorem sqK_inj {X : Cx} {pins : List (Addr × Obj)} {σ : L2.St} {H : Hp} {s : Shared} {b : Bool} {a : Addr} {xs ys : List V} (I : Inv X pins σ H s) (h : SqK b X.K H a xs) (h' : SqK b X.K H a ys) : xs = ys := by
  cases b with
  | true => exact I.list_inj h h'
  | false => exact I.tuple_inj h h'
theorem drawsK {prog : Program} {w : World} {A : Around} (hh : A.handled = none) (b : Bool) (it a : Addr) (hne : a ≠ it) (its : Array Value) :
    Draws prog w A it [it, a] its.size (fun i v => its[i]? = some v) (fun i h => ItK b h it a i ∧ SrcK b h a its) := by
  cases b with
  | true => exact Draws.list hh it a hne its
  | false => exact Draws.tuple hh it a hne its

/-! ### enumerate -/
def IteK (b : Bool) (K : PySem.W.Frag) (a : Addr) : It where
  go := fun i H => ∃ (xs : List V) (x : V), SqK b K H a xs ∧ xs[i]? = some x
  yld := fun i H v H' => ∃ T x, v = .ref T ∧ H T = none ∧ H' = upd H T (.tup [.int (i : Nat), x]) ∧ ∀ xs, SqK b K H a xs → xs[i]? = some x
  stop := fun i H => ∃ xs : List V, SqK b K H a xs ∧ xs.length ≤ i
theorem turn_enumK {P : Program} {w : World} {K : PySem.W.Frag} {elts : List Expr} {kk : Nat} {tpos : Pos} (b : Bool) (a e it : Addr) :
    Turn P w K (.Tuple elts kk tpos) (IteK b K a) [e, it] e (fun i h => (∃ old, IsEnum h e it ((i : Nat) : Int) old) ∧ ItK b h it a i ∧ e ≠ it) where
  mem := by simp
  obj := fun i h st c hb => by
    obtain ⟨⟨old, he⟩, hit, _⟩ := st
    have e' : c = e ∨ c = it := by simpa using hb
    rcases e' with z | z
    · rw [z]; exact ⟨_, he, fun v q => nomatch q⟩
    · rw [z]
      obtain ⟨o, e1, _, e2⟩ := hit.get
      exact ⟨o, e1, e2⟩
  keep := fun i h h' st k => by
    obtain ⟨⟨old, he⟩, hi, hne⟩ := st
    exact ⟨⟨old, k e (by simp) _ he⟩, hi.at fun o q => k it (by simp) o q, hne⟩
  item := by
    intro X hP hw hK hc i pins s σ H E I hf st hg
    subst hP hw hK
    obtain ⟨⟨old, he⟩, hit, hne⟩ := st
    obtain ⟨xs, x, hq, hx⟩ := hg
    obtain ⟨its, rv, p⟩ := srcK_of I hq
    obtain ⟨u, hu, ru⟩ := rv.get hx
    have hel : e < s.heap.objs.size := Heap.lt_size he
    have hil : it < s.heap.objs.size := by obtain ⟨_, q, _⟩ := hit.get; exact Heap.lt_size q
    have nai := src_ne hit p
    have hlt : i < its.toArray.size := by
      have q := (List.getElem?_eq_some_iff.mp hu).1
      simpa using q
    have nea : e ∉ [it, a] := fun z => by
      have e' : e = it ∨ e = a := by simpa using z
      rcases e' with z | z
      · exact hne z
      · obtain ⟨o, h1, h2⟩ := p.get
        rw [← z, he] at h1
        cases h1
        cases b with
        | true => exact absurd h2 (by show ¬ (Value.type "enumerate" = Value.type "list"); decide)
        | false => exact absurd h2 (by show ¬ (Value.type "enumerate" = Value.type "tuple"); decide)
    refine wpAny_pyNext_enum_itemD (drawsK (A := X.A.in1) (I.ok.hd hc) b it a nai its.toArray) he ⟨hit, p⟩ hlt hne nea fun y h' tk hy ho st' hT hsz hk => ?_
    have ey : y = u := by
      have q : its.toArray[i]? = some u := by simpa using hu
      rw [hy] at q
      exact Option.some.inj q
    subst ey
    refine ⟨_, rfl, wpAny_letOwnedTupleGo_enum (s := { s with heap := h', toks := tk + 1 }) ho fun h'' he' sb => ?_⟩
    have hT2 : h''.get? s.heap.objs.size = some { cls := .type "tuple", data := .seq #[.int i tk, y] } := (sb.2 _ (Nat.ne_of_gt hel)).trans hT
    have new : ObjOk X.prog X.w (upd H s.heap.objs.size (.tup [.int (i : Nat), x])) h'' s.heap.objs.size (.tup [.int (i : Nat), x]) :=
      ⟨by show 2 ≤ sizeLine; decide, [.int i tk, y], .cons ⟨_, rfl⟩ (.cons ru .nil), ⟨_, hT2, rfl, _, rfl⟩⟩
    have I1 : Inv X pins σ (upd H s.heap.objs.size (.tup [.int (i : Nat), x])) { s with heap := h'', toks := tk + 1 } :=
      I.turnedNew (ch := [e, it]) (fun c ob hb q => (sb.2 c (fun z => hb (by simp [z]))).trans (hk c ob (fun z => hb (by simp [z])) (fun z => hb (by simp [z])) q)) hf (Nat.le_refl _) new
    refine ⟨.ref s.heap.objs.size, _, I1, rfl, ⟨_, x, rfl, I.hok.fresh (Nat.le_refl _), rfl, fun ys hy => by rw [sqK_inj I hy hq]; exact hx⟩, ⟨⟨y, ?_⟩, st'.1.at fun o q => (sb.2 it (Ne.symm hne)).trans q, hne⟩, fun c hb => ?_⟩
    · have e1 : ((i + 1 : Nat) : Int) = (i : Int) + 1 := by omega
      rw [e1]; exact he'
    · have hb' : c < s.heap.objs.size := by
        have e' : c = e ∨ c = it := by simpa using hb
        rcases e' with z | z
        · rw [z]; exact hel
        · rw [z]; exact hil
      rw [upd_ne (Nat.ne_of_lt hb')]
      exact (hf c hb).1
  done := by
    intro X hP hw hK hc i pins s σ H E I hf st hg
    subst hP hw hK
    obtain ⟨⟨old, he⟩, hit, hne⟩ := st
    obtain ⟨xs, hq, hx⟩ := hg
    obtain ⟨its, rv, p⟩ := srcK_of I hq
    obtain ⟨f0, f1, f2, f3, f4, f5⟩ := hf it (by simp)
    have hl := rv.length
    cases b with
    | true => exact wpAny_pyNext_enum_end (I.ok.hd hc) he hit p (by simp; omega) fun h' eb => ⟨rfl, I.turned (t' := s.toks) (fun c o hb q => eb c o hb q) f0 f1 f3 f4 f5⟩
    | false =>
      have hT : s.TypeIs (.ref e) "enumerate" := ⟨_, he, rfl⟩
      have hn : its.toArray[i]? = none := by simp; omega
      unfold pyNext
      refine wpAny_bind (wpAny_attempt (wpAny_callSpecial?_slot (name := Str.ofString "__next__") hT F.slot_enumerate_next
        (wpAny_call_entry F.slot_enumerate_next hT F.entry_enumerate_next ?_ (F.args_enumerate_next_1 _))))
      show wpAny _ _ (field (.ref e) 2 >>= _) _ _ _
      refine wpAny_bind (wpAny_field he rfl (x := .ref it) rfl ?_)
      refine wpAny_bind (RZ.nextOf_tuple_end (I.ok.hd hc) hit p hn fun h' x he' hx' => ?_)
      obtain ⟨o, ho, hcl⟩ := hx'
      refine wpAny_bind (wpAny_isInstance (T := "StopIteration") (b := true) ⟨o, ho, hcl⟩ isSubtype_stop ?_)
      exact wpAny_pure ⟨rfl, I.turned (t' := s.toks) (fun c o hb q => he' c o hb q) f0 f1 f3 f4 f5⟩
  self := fun A i s Q E st h => by
    obtain ⟨⟨_, he⟩, _⟩ := st
    exact wpAny_pyIter_enum he h
set_option maxHeartbeats 1000000 in
theorem meets_enumT (l : Addr) (items : Array Value) (n : Nat) (dct : Option Addr) (sl : Array (Option Value)) :
    Meets (Builtin.«enumerate.__new__» ⟨[.type "enumerate", .ref l], []⟩) (fun _ R s => s.heap.get? l = some { cls := .type "tuple", dict := dct, data := .seq items n, slots := sl } ∧
      R (.ok (.ret (.ref (s.heap.push { cls := .type "tuple_iterator", data := .fields #[.ref l, .int 0 0] }).objs.size)))
        { s with heap := (s.heap.push { cls := .type "tuple_iterator", data := .fields #[.ref l, .int 0 0] }).push { cls := .type "enumerate", data := .fields #[.none, .bool false, .ref s.heap.objs.size, rawInt 0, .none, .none] } }) :=
  .of_wp fun prog w A R s h => by
    obtain ⟨hp, g, d, tk, os⟩ := s
    obtain ⟨hl, h⟩ := h
    have hsub := sub_enumerate
    have hL : Heap.IsTuple (Shared.heap ⟨hp, g, d, tk, os⟩) l items := ⟨_, hl, rfl, n, rfl⟩
    wp_walk using AutoSeq1.wpAny_loadPart' hl
    refine wpAny_stack_any fun st => wpAny_pure ?_
    split
    · rename_i c _ _ _ _ _
      cases (c == Value.type "enumerate")
      · wp_walk using AutoSeq1.wpAny_loadPart' hl, wpAny_pyIter_tuple hL
        exact ⟨_, rfl, h⟩
      · wp_walk using AutoSeq1.wpAny_loadPart' hl, wpAny_pyIter_tuple hL
        exact ⟨_, rfl, h⟩
    · wp_walk using AutoSeq1.wpAny_loadPart' hl, wpAny_pyIter_tuple hL
      exact ⟨_, rfl, h⟩
theorem call_enumT {prog : Program} {w : World} {A : Around} {E : Value → Shared → Prop} {s : Shared} {l : Addr} {items : Array Value} {Q : Value → Shared → Prop} (hL : s.heap.IsTuple l items)
    (h : ∀ h', IsEnum h' (s.heap.objs.size + 1) s.heap.objs.size 0 .none → h'.IsTupleIter s.heap.objs.size l 0 → h'.objs.size = s.heap.objs.size + 2 →
      (∀ b o, s.heap.get? b = some o → h'.get? b = some o) → Q (.ref (s.heap.objs.size + 1)) { s with heap := h' }) :
    wpAny (model prog w) A (call (.type "enumerate") [.ref l]) Q E s := by
  obtain ⟨⟨c, dct, dt, sl⟩, hl, hc, n, hd⟩ := hL
  replace hc : c = .type "tuple" := hc
  replace hd : dt = .seq items n := hd
  subst hc hd
  refine callType_new F.called_enumerate (by decide) (F.typeCall_enumerate_1 _) (F.newCall_enumerate_1 _) (fun obj => F.args_object_init_2 obj _) F.entry_enumerate_new
    (meets_enumT l items n dct sl) ⟨hl, ?_⟩
  have hz : (s.heap.push { cls := .type "tuple_iterator", data := .fields #[.ref l, .int 0 0] }).objs.size = s.heap.objs.size + 1 := Heap.size_push ..
  show _ ∧ _
  rw [hz]
  have he : IsEnum ((s.heap.push { cls := .type "tuple_iterator", data := .fields #[.ref l, .int 0 0] }).push
      { cls := .type "enumerate", data := .fields #[.none, .bool false, .ref s.heap.objs.size, rawInt 0, .none, .none] }) (s.heap.objs.size + 1) s.heap.objs.size 0 .none := by
    have := Heap.get?_push_size (s.heap.push { cls := .type "tuple_iterator", data := .fields #[.ref l, .int 0 0] })
      (o := { cls := .type "enumerate", data := .fields #[.none, .bool false, .ref s.heap.objs.size, rawInt 0, .none, .none] }) rfl
    rw [hz] at this
    exact this
  refine ⟨⟨_, he, rfl⟩, h _ he ⟨_, Heap.get?_push_of_some _ (Heap.get?_push_size _ rfl), rfl, rfl⟩ (by rw [Heap.size_push, hz]) fun b o x => Heap.get?_push_of_some _ (Heap.get?_push_of_some _ x)⟩
def iEnumK (K : PySem.W.Frag) (te : TE) : TI := fun σ H R => te σ H fun v H1 => ∃ b a xs, v = .ref a ∧ SqK b K H1 a xs ∧ R (IteK b K a) H1
theorem pi_enumK {X : Cx} {e : Expr} {te : TE} {p pos tpos : Pos} {elts : List Expr} {kk : Nat} (hg : Gl X "enumerate") (hm : X.mg "enumerate" = none) (ha : PE X e te) (hs : starEach [e] X.env = (false, eval e X.env) :: starEach [] X.env := by rfl) :
    PI X (.Tuple elts kk tpos) (.Call (.Name "enumerate" p) [e] [] pos) (iEnumK X.K te) := by
  refine ⟨fun pins s σ H R I h => ?_⟩
  have ha2 : PA X [e] (tCons te tNil) := pa_cons ha pa_nil hs
  refine PyProof.Rows.Call_ (ld_blt I hg hm PyProof.Rows.boot_enumerate (PyProof.Rows.callWith_type1 (thn (ha2.run pos pins s σ H (fun vs H1 => ∃ v, vs = [v] ∧ ∃ b a xs, v = .ref a ∧ SqK b X.K H1 a xs ∧ R (IteK b X.K a) H1) I (show te σ H _ from ?_)) fun us s1 ⟨vs, H1, I1, r1, q1⟩ => ?_) hs rfl))
  · have mono : (fun v H1 => ∃ b a xs, v = V.ref a ∧ SqK b X.K H1 a xs ∧ R (IteK b X.K a) H1) = fun x H1 => (fun vs H1 => ∃ v, vs = [v] ∧ ∃ b a xs, v = V.ref a ∧ SqK b X.K H1 a xs ∧ R (IteK b X.K a) H1) [x] H1 := by
      funext x H1
      refine propext ⟨fun z => ⟨x, rfl, z⟩, fun ⟨v, e, z⟩ => ?_⟩
      cases e
      exact z
    unfold iEnumK at h
    rw [mono] at h
    exact h
  · obtain ⟨v, ev, b, a, xs, ex, hq, q⟩ := q1
    subst ev ex
    cases r1 with
    | cons r rr =>
      cases rr
      cases r
      obtain ⟨its, rv, p'⟩ := srcK_of I1 hq
      have fin : ∀ h', IsEnum h' (s1.heap.objs.size + 1) s1.heap.objs.size 0 .none → ItK b h' s1.heap.objs.size a 0 → (∀ c o, s1.heap.get? c = some o → h'.get? c = some o) →
          wpAny (model X.prog X.w) X.A (pyIter (.ref (s1.heap.objs.size + 1))) (PIE X pins σ (.Tuple elts kk tpos) R) X.xe { s1 with heap := h' } := fun h' he hit hk => by
        refine wpAny_pyIter_enum he ?_
        have I2 : Inv X pins σ H1 { s1 with heap := h' } := I1.kept (t' := s1.toks) hk
        refine ⟨s1.heap.objs.size + 1, [s1.heap.objs.size + 1, s1.heap.objs.size], _, _, H1, rfl, I2, turn_enumK b a (s1.heap.objs.size + 1) s1.heap.objs.size, ⟨⟨.none, he⟩, hit, Nat.succ_ne_self _⟩, fun c hb => ?_, q⟩
        have e' : c = s1.heap.objs.size + 1 ∨ c = s1.heap.objs.size := by simpa using hb
        have hle : s1.heap.objs.size ≤ c := by rcases e' with z | z <;> rw [z] <;> omega
        exact I1.fpOk hle (I1.hok.fresh hle)
      cases b with
      | true => exact call_enumerate_list p' fun h' he hit hsz hk => fin h' he hit hk
      | false => exact call_enumT p' fun h' he hit hsz hk => fin h' he hit hk

/-! ### zip -/
def ItzK (b c : Bool) (K : PySem.W.Frag) (a d : Addr) : It where
  go := fun i H => ∃ (xs ys : List V) (x y : V), SqK b K H a xs ∧ SqK c K H d ys ∧ xs[i]? = some x ∧ ys[i]? = some y
  yld := fun i H v H' => ∃ T x y, v = .ref T ∧ H T = none ∧ H' = upd H T (.tup [x, y]) ∧ (∀ xs, SqK b K H a xs → xs[i]? = some x) ∧ ∀ ys, SqK c K H d ys → ys[i]? = some y
  stop := fun i H => ∃ xs ys : List V, SqK b K H a xs ∧ SqK c K H d ys ∧ i ≤ xs.length ∧ i ≤ ys.length ∧ (xs.length = i ∨ ys.length = i)
structure Apart5 (z TI TO i1 i2 : Addr) : Prop where
  TIz : TI ≠ z
  TOz : TO ≠ z
  TITO : TI ≠ TO
  TIi1 : TI ≠ i1
  TIi2 : TI ≠ i2
  zi1 : z ≠ i1
  zi2 : z ≠ i2
  TOi1 : TO ≠ i1
  TOi2 : TO ≠ i2
  i12 : i1 ≠ i2
theorem src_type {b : Bool} {h : Heap} {a x : Addr} {its : Array Value} {o : Obj} {n : String} (y : SrcK b h a its) (e : h.get? x = some o) (c : o.cls = .type n) (n1 : n ≠ "list") (n2 : n ≠ "tuple") : x ≠ a := by
  intro z
  subst z
  obtain ⟨o2, e2, c2⟩ := y.get
  rw [e] at e2
  cases e2
  rw [c] at c2
  cases b with
  | true => exact n1 (by injection c2)
  | false => exact n2 (by injection c2)
theorem itT_ne (b : Bool) : itT b ≠ "list" ∧ itT b ≠ "tuple" := by cases b <;> exact ⟨by decide, by decide⟩
theorem turn_zipK {P : Program} {w : World} {K : PySem.W.Frag} {elts : List Expr} {kk : Nat} {tpos : Pos} (b c : Bool) {a d z TI TO i1 i2 : Addr} (D : Apart5 z TI TO i1 i2) (tos : TI ≠ a ∧ TO ≠ a ∧ TI ≠ d ∧ TO ≠ d) :
    Turn P w K (.Tuple elts kk tpos) (ItzK b c K a d) [z, TI, TO, i1, i2] z (fun i h => IsZip h z TI TO .none ∧ IsTupOf2 h TI (.ref i1) (.ref i2) ∧ (∃ x y, IsTupOf2 h TO x y) ∧ ItK b h i1 a i ∧ ItK c h i2 d i) where
  mem := by simp
  obj := fun i h st q hc => by
    obtain ⟨hz, hTI, ⟨x, y, hTO⟩, h1, h2⟩ := st
    have e' : q = z ∨ q = TI ∨ q = TO ∨ q = i1 ∨ q = i2 := by simpa using hc
    rcases e' with e | e | e | e | e
    · rw [e]; exact ⟨_, hz, fun v q => nomatch q⟩
    · rw [e]; exact ⟨_, hTI, fun v q => nomatch q⟩
    · rw [e]; exact ⟨_, hTO, fun v q => nomatch q⟩
    · rw [e]
      obtain ⟨o, e1, _, e2⟩ := h1.get
      exact ⟨o, e1, e2⟩
    · rw [e]
      obtain ⟨o, e1, _, e2⟩ := h2.get
      exact ⟨o, e1, e2⟩
  keep := fun i h h' st k => by
    obtain ⟨hz, hTI, ⟨x, y, hTO⟩, h1, h2⟩ := st
    exact ⟨k z (by simp) _ hz, k TI (by simp) _ hTI, ⟨x, y, k TO (by simp) _ hTO⟩, h1.at fun o q => k i1 (by simp) o q, h2.at fun o q => k i2 (by simp) o q⟩
  item := by
    intro X hP hw hK hc i pins s σ H E I hf st hg
    subst hP hw hK
    obtain ⟨hz, hTI, ⟨x0, y0, hTO⟩, h1, h2⟩ := st
    obtain ⟨xs, ys, x, y, hqx, hqy, hx, hy⟩ := hg
    obtain ⟨its, rv, p⟩ := srcK_of I hqx
    obtain ⟨its2, rv2, p2⟩ := srcK_of I hqy
    obtain ⟨u, hu, ru⟩ := rv.get hx
    obtain ⟨u2, hu2, ru2⟩ := rv2.get hy
    obtain ⟨o1, g1, t1, _⟩ := h1.get
    obtain ⟨o2, g2, t2, _⟩ := h2.get
    have za := src_type p hz rfl (by decide) (by decide)
    have zd := src_type p2 hz rfl (by decide) (by decide)
    have i1d := src_type p2 g1 t1 (itT_ne b).1 (itT_ne b).2
    have i2a := src_type p g2 t2 (itT_ne c).1 (itT_ne c).2
    have S : ZipSep2 z TI TO i1 i2 [i1, a] [i2, d] := by
      refine ⟨D.TIz, D.TOz, D.TITO, D.TIi1, by simp, ?_, ?_, D.TIi2, by simp, ?_, ?_, ?_, ?_⟩
      · simp [D.zi1, za]
      · simp [D.TOi1, tos.2.1]
      · simp [D.zi2, zd]
      · simp [D.TOi2, tos.2.2.2]
      · simp [D.i12, i1d]
      · simp [D.i12.symm, i2a]
    have hlt : i < its.toArray.size := by simpa using (List.getElem?_eq_some_iff.mp hu).1
    have hlt2 : i < its2.toArray.size := by simpa using (List.getElem?_eq_some_iff.mp hu2).1
    have hzl : z < s.heap.objs.size := Heap.lt_size hz
    refine wpAny_pyNext_zipD2_item S (drawsK (A := X.A.in1) (I.ok.hd hc) b i1 a (src_ne h1 p) its.toArray) (drawsK (A := X.A.in1) (I.ok.hd hc) c i2 d (src_ne h2 p2) its2.toArray) hz hTI hTO ⟨h1, p⟩ ⟨h2, p2⟩ hlt hlt2 fun v1 v2 h' tk hv1 hv2 z' TO' st1' st2' hT hsz hk => ?_
    have e1 : v1 = u := by
      have q : its.toArray[i]? = some u := by simpa using hu
      rw [hv1] at q
      exact Option.some.inj q
    have e2 : v2 = u2 := by
      have q : its2.toArray[i]? = some u2 := by simpa using hu2
      rw [hv2] at q
      exact Option.some.inj q
    subst e1 e2
    refine ⟨_, rfl, wpAny_letOwnedTupleGo_zip (s := { s with heap := h', toks := tk }) z' fun h'' z'' sb => ?_⟩
    have hT2 : h''.get? s.heap.objs.size = some { cls := .type "tuple", data := .seq #[v1, v2] } := (sb.2 _ (Nat.ne_of_gt hzl)).trans hT
    have new : ObjOk X.prog X.w (upd H s.heap.objs.size (.tup [x, y])) h'' s.heap.objs.size (.tup [x, y]) :=
      ⟨by show 2 ≤ sizeLine; decide, [v1, v2], .cons ru (.cons ru2 .nil), ⟨_, hT2, rfl, _, rfl⟩⟩
    have I1 : Inv X pins σ (upd H s.heap.objs.size (.tup [x, y])) { s with heap := h'', toks := tk } :=
      I.turnedNew (t' := tk) (ch := [z, TI, TO, i1, i2]) (fun q o hb e => (sb.2 q (fun q' => hb (by simp [q']))).trans (hk q o (fun q' => hb (by simp [q'])) (fun q' => hb (by simp [q'])) (fun q' => hb (by simp [q'])) (fun q' => hb (by simp [q'])) e)) hf (Nat.le_refl _) new
    refine ⟨.ref s.heap.objs.size, _, I1, rfl, ⟨_, x, y, rfl, I.hok.fresh (Nat.le_refl _), rfl, fun l hl => by rw [sqK_inj I hl hqx]; exact hx, fun l hl => by rw [sqK_inj I hl hqy]; exact hy⟩, ⟨z'', ?_, ⟨v1, v2, ?_⟩, ?_, ?_⟩, fun q hcm => ?_⟩
    · exact (sb.2 _ D.TIz).trans (hk _ _ D.TIz D.TITO D.TIi1 D.TIi2 hTI)
    · exact (sb.2 _ D.TOz).trans TO'
    · exact st1'.1.at fun o q => (sb.2 _ D.zi1.symm).trans q
    · exact st2'.1.at fun o q => (sb.2 _ D.zi2.symm).trans q
    · have hlt : q < s.heap.objs.size := by
        have e' : q = z ∨ q = TI ∨ q = TO ∨ q = i1 ∨ q = i2 := by simpa using hcm
        rcases e' with e | e | e | e | e
        · rw [e]; exact hzl
        · rw [e]; exact Heap.lt_size hTI
        · rw [e]; exact Heap.lt_size hTO
        · rw [e]; exact Heap.lt_size g1
        · rw [e]; exact Heap.lt_size g2
      rw [upd_ne (Nat.ne_of_lt hlt)]
      exact (hf q hcm).1
  done := by
    intro X hP hw hK hc i pins s σ H E I hf st hg
    subst hP hw hK
    obtain ⟨hz, hTI, ⟨x0, y0, hTO⟩, h1, h2⟩ := st
    obtain ⟨xs, ys, hqx, hqy, le1, le2, hend⟩ := hg
    obtain ⟨its, rv, p⟩ := srcK_of I hqx
    obtain ⟨its2, rv2, p2⟩ := srcK_of I hqy
    obtain ⟨o1, g1, t1, _⟩ := h1.get
    obtain ⟨o2, g2, t2, _⟩ := h2.get
    have za := src_type p hz rfl (by decide) (by decide)
    have zd := src_type p2 hz rfl (by decide) (by decide)
    have i1d := src_type p2 g1 t1 (itT_ne b).1 (itT_ne b).2
    have i2a := src_type p g2 t2 (itT_ne c).1 (itT_ne c).2
    have S : ZipSep2 z TI TO i1 i2 [i1, a] [i2, d] := by
      refine ⟨D.TIz, D.TOz, D.TITO, D.TIi1, by simp, ?_, ?_, D.TIi2, by simp, ?_, ?_, ?_, ?_⟩
      · simp [D.zi1, za]
      · simp [D.TOi1, tos.2.1]
      · simp [D.zi2, zd]
      · simp [D.TOi2, tos.2.2.2]
      · simp [D.i12, i1d]
      · simp [D.i12.symm, i2a]
    have l1 : its.toArray.size = xs.length := by simp [rv.length]
    have l2 : its2.toArray.size = ys.length := by simp [rv2.length]
    refine wpAny_pyNext_zipD2_end S (drawsK (A := X.A.in1) (I.ok.hd hc) b i1 a (src_ne h1 p) its.toArray) (drawsK (A := X.A.in1) (I.ok.hd hc) c i2 d (src_ne h2 p2) its2.toArray) hz hTI hTO ⟨h1, p⟩ ⟨h2, p2⟩ (by omega) (by omega) (by omega) fun h' tk hk => ?_
    exact ⟨rfl, I.turnedL (t' := tk) (ch := [z, TI, TO, i1, i2]) (fun q o hb e =>
      hk q o (fun q' => hb (by simp [q'])) (fun q' => hb (by simp [q'])) (fun q' => hb (by simp [q'])) (fun q' => hb (by simp [q'])) e) hf⟩
  self := fun A i s Q E st h => wpAny_pyIter_zip st.1 h

abbrev zh1 (b : Bool) (h : Heap) (a : Addr) : Heap := h.push { cls := .type (itT b), data := .fields #[.ref a, .int 0 0] }
abbrev zh2 (b c : Bool) (h : Heap) (a d : Addr) : Heap := (zh1 b h a).push { cls := .type (itT c), data := .fields #[.ref d, .int 0 0] }
abbrev zh3 (b c : Bool) (h : Heap) (a d : Addr) : Heap := (zh2 b c h a d).push { cls := .type "tuple", data := .seq #[.ref h.objs.size, .ref (zh1 b h a).objs.size] }
abbrev zh4 (b c : Bool) (h : Heap) (a d : Addr) : Heap := (zh3 b c h a d).push { cls := .type "tuple", data := .seq #[.none, .none] }
abbrev zh5 (b c : Bool) (h : Heap) (a d : Addr) : Heap := (zh4 b c h a d).push { cls := .type "zip", data := .fields #[.none, .bool false, .bool false, .ref (zh2 b c h a d).objs.size, .ref (zh3 b c h a d).objs.size] }
theorem iterK {prog : Program} {w : World} {A : Around} {E : Value → Shared → Prop} {s : Shared} {b : Bool} {a : Addr} {its : Array Value} {Q : Value → Shared → Prop} (h : SrcK b s.heap a its)
    (q : Q (.ref s.heap.objs.size) { s with heap := zh1 b s.heap a }) : wpAny (model prog w) A (pyIter (.ref a)) Q E s := by
  cases b with
  | true => exact wpAny_pyIter_list h q
  | false => exact wpAny_pyIter_tuple h q
theorem srcK_push {b : Bool} {h : Heap} {a : Addr} {its : Array Value} (x : SrcK b h a its) (o : Obj) : SrcK b (h.push o) a its := by
  cases b with
  | true => exact Heap.IsList.push x o
  | false => exact Heap.IsTuple.push x o
theorem meets_zipK (b c : Bool) (a d : Addr) (xs ys : Array Value) :
    Meets (Builtin.«zip.__new__» ⟨[.type "zip", .ref a, .ref d], []⟩) (fun _ R s => SrcK b s.heap a xs ∧ SrcK c s.heap d ys ∧
      R (.ok (.ret (.ref (zh4 b c s.heap a d).objs.size))) { s with heap := zh5 b c s.heap a d }) :=
  .of_wp fun prog w A R s h => by
    obtain ⟨hp, g, dr, tk, os⟩ := s
    obtain ⟨hl1, hl2, h⟩ := h
    have hsub := sub_zip
    have hL1 : SrcK b (Shared.heap ⟨hp, g, dr, tk, os⟩) a xs := hl1
    have hL2 : SrcK c (Shared.heap ⟨zh1 b hp a, g, dr, tk, os⟩) d ys := srcK_push hl2 _
    wp_walk using iterK hL1, iterK hL2
    exact ⟨_, rfl, h⟩
theorem itK_new {b : Bool} {h : Heap} {it a : Addr} (e : h.get? it = some { cls := .type (itT b), data := .fields #[.ref a, .int 0 0] }) : ItK b h it a 0 := by
  cases b with
  | true => exact ⟨_, e, rfl, rfl⟩
  | false => exact ⟨_, e, rfl, rfl⟩
theorem call_zipK {prog : Program} {w : World} {A : Around} {E : Value → Shared → Prop} {s : Shared} {b c : Bool} {a d : Addr} {xs ys : Array Value} {Q : Value → Shared → Prop} (hl1 : SrcK b s.heap a xs) (hl2 : SrcK c s.heap d ys)
    (h : ∀ h', IsZip h' (s.heap.objs.size + 4) (s.heap.objs.size + 2) (s.heap.objs.size + 3) .none → IsTupOf2 h' (s.heap.objs.size + 2) (.ref s.heap.objs.size) (.ref (s.heap.objs.size + 1)) →
      IsTupOf2 h' (s.heap.objs.size + 3) .none .none → ItK b h' s.heap.objs.size a 0 → ItK c h' (s.heap.objs.size + 1) d 0 →
      (∀ x o, s.heap.get? x = some o → h'.get? x = some o) → Q (.ref (s.heap.objs.size + 4)) { s with heap := h' }) :
    wpAny (model prog w) A (call (.type "zip") [.ref a, .ref d]) Q E s := by
  refine callType_new F.called_zip (by decide) (F.typeCall_zip_2 _ _) (F.newCall_zip_2 _ _) (fun obj => F.args_object_init_3 obj _ _) F.entry_zip_new
    (meets_zipK b c a d xs ys) ⟨hl1, hl2, ?_⟩
  have z1 : (zh1 b s.heap a).objs.size = s.heap.objs.size + 1 := Heap.size_push ..
  have z2 : (zh2 b c s.heap a d).objs.size = s.heap.objs.size + 2 := by rw [Heap.size_push, z1]
  have z3 : (zh3 b c s.heap a d).objs.size = s.heap.objs.size + 3 := by rw [Heap.size_push, z2]
  have z4 : (zh4 b c s.heap a d).objs.size = s.heap.objs.size + 4 := by rw [Heap.size_push, z3]
  have g5 : (zh5 b c s.heap a d).get? (zh4 b c s.heap a d).objs.size = some _ := Heap.get?_push_size _ rfl
  have g4 : (zh5 b c s.heap a d).get? (zh3 b c s.heap a d).objs.size = some _ := Heap.get?_push_of_some _ (Heap.get?_push_size _ rfl)
  have g3 : (zh5 b c s.heap a d).get? (zh2 b c s.heap a d).objs.size = some _ := Heap.get?_push_of_some _ (Heap.get?_push_of_some _ (Heap.get?_push_size _ rfl))
  have g2 : (zh5 b c s.heap a d).get? (zh1 b s.heap a).objs.size = some _ := Heap.get?_push_of_some _ (Heap.get?_push_of_some _ (Heap.get?_push_of_some _ (Heap.get?_push_size _ rfl)))
  have g1 : (zh5 b c s.heap a d).get? s.heap.objs.size = some _ := Heap.get?_push_of_some _ (Heap.get?_push_of_some _ (Heap.get?_push_of_some _ (Heap.get?_push_of_some _ (Heap.get?_push_size _ rfl))))
  show _ ∧ _
  rw [z2, z3, z4] at g5
  rw [z1, z2] at g3
  rw [z3] at g4
  rw [z1] at g2
  rw [z4]
  exact ⟨⟨_, g5, rfl⟩, h _ g5 g3 g4 (itK_new g1) (itK_new g2) fun x o y =>
    Heap.get?_push_of_some _ (Heap.get?_push_of_some _ (Heap.get?_push_of_some _ (Heap.get?_push_of_some _ (Heap.get?_push_of_some _ y))))⟩
theorem apart5 (n : Nat) : Apart5 (n + 4) (n + 2) (n + 3) n (n + 1) := by
  constructor <;> (show ¬ ((_ : Nat) = (_ : Nat))) <;> omega
theorem apart_src {n a d : Nat} (h : a < n) (h' : d < n) : n + 2 ≠ a ∧ n + 3 ≠ a ∧ n + 2 ≠ d ∧ n + 3 ≠ d := ⟨by omega, by omega, by omega, by omega⟩
def iZipK (K : PySem.W.Frag) (te tf : TE) : TI := fun σ H R => te σ H fun v H1 => tf σ H1 fun u H2 => ∃ b c a d xs ys, v = .ref a ∧ u = .ref d ∧ SqK b K H2 a xs ∧ SqK c K H2 d ys ∧ R (ItzK b c K a d) H2
theorem pi_zipK {X : Cx} {e f : Expr} {te tf : TE} {p pos tpos : Pos} {elts : List Expr} {kk : Nat} (hg : Gl X "zip") (hm : X.mg "zip" = none) (ha : PE X e te) (hb : PE X f tf)
    (hs : starEach [e, f] X.env = (false, eval e X.env) :: starEach [f] X.env := by rfl) (hs2 : starEach [f] X.env = (false, eval f X.env) :: starEach [] X.env := by rfl) (hpl : (backTo pos (starEach [f] X.env)).any (·.1) = false := by rfl) :
    PI X (.Tuple elts kk tpos) (.Call (.Name "zip" p) [e, f] [] pos) (iZipK X.K te tf) := by
  refine ⟨fun pins s σ H R I h => ?_⟩
  have ha2 : PA X [e, f] (tCons te (tCons tf tNil)) := pa_cons ha (pa_cons hb pa_nil hs2) hs
  have h2 : tCons te (tCons tf tNil) σ H (fun vs H2 => match vs with
    | [v, u] => ∃ b c a d xs ys, v = V.ref a ∧ u = V.ref d ∧ SqK b X.K H2 a xs ∧ SqK c X.K H2 d ys ∧ R (ItzK b c X.K a d) H2
    | _ => False) := h
  refine PyProof.Rows.Call_ (ld_blt I hg hm PyProof.Rows.boot_zip (PyProof.Rows.callWith_type1 (thn (ha2.run pos pins s σ H _ I h2) fun us s1 ⟨vs, H1, I1, r1, q1⟩ => ?_) hs hpl))
  dsimp only at q1
  split at q1
  · obtain ⟨b, c, a, d, xs, ys, rfl, rfl, hqx, hqy, q⟩ := q1
    cases r1 with
    | cons r rr =>
      cases rr with
      | cons r' rr =>
        cases rr
        cases r
        cases r'
        obtain ⟨its, rv, p1⟩ := srcK_of I1 hqx
        obtain ⟨its2, rv2, p2⟩ := srcK_of I1 hqy
        have la : a < s1.heap.objs.size := by
          obtain ⟨o, e, _⟩ := p1.get
          exact Heap.lt_size e
        have ld : d < s1.heap.objs.size := by
          obtain ⟨o, e, _⟩ := p2.get
          exact Heap.lt_size e
        refine call_zipK p1 p2 fun h' hz hTI hTO h1 h2 hk => wpAny_pyIter_zip hz ?_
        have I2 : Inv X pins σ H1 { s1 with heap := h' } := I1.kept (t' := s1.toks) hk
        refine ⟨s1.heap.objs.size + 4, [s1.heap.objs.size + 4, s1.heap.objs.size + 2, s1.heap.objs.size + 3, s1.heap.objs.size, s1.heap.objs.size + 1], _, _, H1, rfl, I2,
          turn_zipK b c (apart5 s1.heap.objs.size) (apart_src la ld), ⟨hz, hTI, ⟨_, _, hTO⟩, h1, h2⟩, fun x hx => ?_, q⟩
        have e' : x = s1.heap.objs.size + 4 ∨ x = s1.heap.objs.size + 2 ∨ x = s1.heap.objs.size + 3 ∨ x = s1.heap.objs.size ∨ x = s1.heap.objs.size + 1 := by simpa using hx
        have hle : s1.heap.objs.size ≤ x := by rcases e' with z | z | z | z | z <;> rw [z] <;> omega
        exact I1.fpOk hle (I1.hok.fresh hle)
  · exact q1.elim

/-! ### their functional readings -/
section
variable {C : Ctx}
/-- a list or a tuple, read where it is borrowed -/
theorem sqK_rep {Hs H : Hp} {d : D} {v : V} {xs : List D} (s : Same Hs H) (h : RepB C.K C.a Hs H d v) (e : d = .lst xs ∨ d = .tup xs) : ∃ b a vs, v = .ref a ∧ RepL C.K C.a Hs xs vs ∧ (∀ H', SB C.a H H' → Same Hs H' → SqK b C.K H' a vs) := by
  rcases e with e | e
  · subst e
    cases h with
    | sh h =>
      cases h with
      | lst h1 h2 => exact ⟨true, _, _, rfl, h2, fun H' _ s' => SqL.of (s' _ _ h1)⟩
    | ol h1 h2 h3 => exact ⟨true, _, _, rfl, h2, fun H' b _ => SqL.of (b _ _ h3 h1)⟩
  · subst e
    cases h with
    | sh h =>
      cases h with
      | tup h1 h2 => exact ⟨false, _, _, rfl, h2, fun H' _ s' => same_sqT s' h1⟩
def enumD : Nat → List D → List D
  | _, [] => []
  | n, x :: xs => .tup [.int (n : Nat), x] :: enumD (n + 1) xs
theorem enumD_length : ∀ (n : Nat) (xs : List D), (enumD n xs).length = xs.length
  | _, [] => rfl
  | n, _ :: xs => congrArg (· + 1) (enumD_length (n + 1) xs)
theorem enumD_get : ∀ (n : Nat) (xs : List D) (i : Nat), (enumD n xs)[i]? = (xs[i]?).map fun x => D.tup [.int ((n + i : Nat) : Nat), x]
  | _, [], i => by simp [enumD]
  | n, x :: xs, 0 => by simp [enumD]
  | n, x :: xs, i + 1 => by
    show (enumD (n + 1) xs)[i]? = (xs[i]?).map _
    rw [enumD_get (n + 1) xs i, show n + 1 + i = n + (i + 1) by omega]
def fEnum (f : ME) : MA := fun ρ q qe => f ρ (fun d => match d with
  | .lst xs => q (enumD 0 xs)
  | .tup xs => q (enumD 0 xs)
  | _ => False) qe
theorem dib_enum {t : TE} {f : ME} (h : DB C t f) : DIB C (iEnumK C.K t) (fEnum f) := by
  refine ⟨fun Hs ρ σ H q qe R l r w k => ?_⟩
  refine h.run Hs ρ σ H _ qe _ l r w fun d v Hs1 H1 w1 g1 r1 p1 => ?_
  have key : ∀ xs : List D, (d = .lst xs ∨ d = .tup xs) → q (enumD 0 xs) → ∃ b a vs, v = .ref a ∧ SqK b C.K H1 a vs ∧ R (IteK b C.K a) H1 := fun xs e w2 => by
    obtain ⟨b, a, vs, ev, rl, hk⟩ := sqK_rep r1.sh p1 e
    refine ⟨b, a, vs, ev, hk H1 SB.refl r1.sh, k (enumD 0 xs) _ Hs1 H1 w2 g1 r1 ⟨fun i Hs2 ρ2 σ2 H2 s b2 r2 hi => ?_, fun i Hs2 ρ2 σ2 H2 s b2 r2 hi => ?_, fun i Hs2 ρ2 σ2 H2 x y H' s b2 r2 hx hy => ?_⟩⟩
    · rw [enumD_length] at hi
      have h2 : i < vs.length := by rw [← rl.length]; exact hi
      exact ⟨vs, vs[i], hk H2 b2 (s.trans r2.sh), List.getElem?_eq_getElem h2⟩
    · rw [enumD_length] at hi
      exact ⟨vs, hk H2 b2 (s.trans r2.sh), by rw [← rl.length]; exact Nat.le_of_eq hi.symm⟩
    · obtain ⟨T, z, rfl, hT, rfl, hz⟩ := hy
      obtain ⟨x', e', rx⟩ := rl.get (hz vs (hk H2 b2 (s.trans r2.sh)))
      rw [enumD_get, e'] at hx
      cases hx
      refine ⟨_, r2.gr_new hT, r2.alloc hT, .tup (SqT.of upd_same) (.cons ?_ (.cons ((rx.mono s).mono (same_upd (r2.fresh_s hT))) .nil))⟩
      rw [Nat.zero_add]
      exact .int _
  split at w1
  · exact key _ (.inl rfl) w1
  · exact key _ (.inr rfl) w1
  · exact w1.elim
theorem di_enum {t : TE} {f : ME} (h : DT C t f) : DI C (iEnumK C.K t) (fEnum f) := by
  refine ⟨fun Hs ρ σ H q qe R l r w k => ?_⟩
  refine h.run Hs ρ σ H _ qe _ l r w fun d v Hs1 H1 w1 g1 r1 p1 => ?_
  have key : ∀ xs : List D, (d = .lst xs ∨ d = .tup xs) → q (enumD 0 xs) → ∃ b a vs, v = .ref a ∧ SqK b C.K H1 a vs ∧ R (IteK b C.K a) H1 := fun xs e w2 => by
    have key2 : ∃ b a vs, v = .ref a ∧ RepL C.K C.a Hs1 xs vs ∧ (∀ H', Same Hs1 H' → SqK b C.K H' a vs) := by
      rcases e with e | e
      · subst e
        cases p1 with
        | lst h1 h2 => exact ⟨true, _, _, rfl, h2, fun H' s' => SqL.of (s' _ _ h1)⟩
      · subst e
        cases p1 with
        | tup h1 h2 => exact ⟨false, _, _, rfl, h2, fun H' s' => same_sqT s' h1⟩
    obtain ⟨b, a, vs, ev, rl, hk⟩ := key2
    refine ⟨b, a, vs, ev, hk H1 r1.sh, k (enumD 0 xs) _ Hs1 H1 w2 g1 r1 ⟨fun i Hs2 ρ2 σ2 H2 s r2 hi => ?_, fun i Hs2 ρ2 σ2 H2 s r2 hi => ?_, fun i Hs2 ρ2 σ2 H2 x y H' s r2 hx hy => ?_⟩⟩
    · rw [enumD_length] at hi
      have h2 : i < vs.length := by rw [← rl.length]; exact hi
      exact ⟨vs, vs[i], hk H2 (s.trans r2.sh), List.getElem?_eq_getElem h2⟩
    · rw [enumD_length] at hi
      exact ⟨vs, hk H2 (s.trans r2.sh), by rw [← rl.length]; exact Nat.le_of_eq hi.symm⟩
    · obtain ⟨T, z, rfl, hT, rfl, hz⟩ := hy
      obtain ⟨x', e', rx⟩ := rl.get (hz vs (hk H2 (s.trans r2.sh)))
      rw [enumD_get, e'] at hx
      cases hx
      refine ⟨_, r2.gr_new hT, r2.alloc hT, .tup (SqT.of upd_same) (.cons ?_ (.cons ((rx.mono s).mono (same_upd (r2.fresh_s hT))) .nil))⟩
      rw [Nat.zero_add]
      exact .int _
  split at w1
  · exact key _ (.inl rfl) w1
  · exact key _ (.inr rfl) w1
  · exact w1.elim
def zipD (xs ys : List D) : List D := List.zipWith (fun x y => D.tup [x, y]) xs ys
def D.items : D → Option (List D)
  | .lst xs => some xs
  | .tup xs => some xs
  | _ => none
theorem items_eq {d : D} {xs : List D} (h : d.items = some xs) : d = .lst xs ∨ d = .tup xs := by
  cases d with
  | lst ys => cases h; exact .inl rfl
  | tup ys => cases h; exact .inr rfl
  | _ => cases h
def fZip (f g : ME) : MA := fun ρ q qe => f ρ (fun d => g ρ (fun e => match d.items, e.items with
  | some xs, some ys => q (zipD xs ys)
  | _, _ => False) qe) qe
theorem zipD_length (xs ys : List D) : (zipD xs ys).length = min xs.length ys.length := List.length_zipWith
theorem zipD_get {xs ys : List D} {i : Nat} {z : D} (h : (zipD xs ys)[i]? = some z) : ∃ x y, xs[i]? = some x ∧ ys[i]? = some y ∧ z = .tup [x, y] := by
  unfold zipD at h
  rw [List.getElem?_zipWith] at h
  cases hx : xs[i]? with
  | none => rw [hx] at h; cases hy : ys[i]? <;> rw [hy] at h <;> cases h
  | some x =>
    cases hy : ys[i]? with
    | none => rw [hx, hy] at h; cases h
    | some y =>
      rw [hx, hy] at h
      cases h
      exact ⟨x, y, rfl, rfl, rfl⟩
theorem dib_zip {t u : TE} {f g : ME} (h : DB C t f) (h' : DB C u g) : DIB C (iZipK C.K t u) (fZip f g) := by
  refine ⟨fun Hs ρ σ H q qe R l r w k => ?_⟩
  refine h.run Hs ρ σ H _ qe _ l r w fun d v Hs1 H1 w1 g1 r1 p1 => ?_
  refine h'.run Hs1 ρ σ H1 _ qe _ l r1 w1 fun e u Hs2 H2 w2 g2 r2 p2 => ?_
  split at w2
  · rename_i xs ys ex ey
    obtain ⟨b, a, vs, ev, rl, hk⟩ := sqK_rep r2.sh (p1.mono g2.s g2.b) (items_eq ex)
    obtain ⟨c, a', vs', ev', rl', hk'⟩ := sqK_rep r2.sh p2 (items_eq ey)
    refine ⟨b, c, a, a', vs, vs', ev, ev', hk H2 SB.refl r2.sh, hk' H2 SB.refl r2.sh, k _ _ Hs2 H2 w2 (g1.trans g2) r2 ⟨fun i Hs3 ρ3 σ3 H3 s b3 r3 hi => ?_, fun i Hs3 ρ3 σ3 H3 s b3 r3 hi => ?_, fun i Hs3 ρ3 σ3 H3 x y H' s b3 r3 hx hy => ?_⟩⟩
    · rw [zipD_length, rl.length, rl'.length] at hi
      have h1 : i < vs.length := by omega
      have h2 : i < vs'.length := by omega
      exact ⟨vs, vs', vs[i], vs'[i], hk H3 b3 (s.trans r3.sh), hk' H3 b3 (s.trans r3.sh), List.getElem?_eq_getElem h1, List.getElem?_eq_getElem h2⟩
    · rw [zipD_length, rl.length, rl'.length] at hi
      exact ⟨vs, vs', hk H3 b3 (s.trans r3.sh), hk' H3 b3 (s.trans r3.sh), by omega, by omega, by omega⟩
    · obtain ⟨T, z1, z2, rfl, hT, rfl, hz1, hz2⟩ := hy
      obtain ⟨x1, x2, e1, e2, rfl⟩ := zipD_get hx
      obtain ⟨y1, f1, ry1⟩ := rl.get (hz1 vs (hk H3 b3 (s.trans r3.sh)))
      obtain ⟨y2, f2, ry2⟩ := rl'.get (hz2 vs' (hk' H3 b3 (s.trans r3.sh)))
      rw [e1] at f1
      rw [e2] at f2
      cases f1
      cases f2
      have sm := same_upd (o := .tup [z1, z2]) (r3.fresh_s hT)
      exact ⟨_, r3.gr_new hT, r3.alloc hT, .tup (SqT.of upd_same) (.cons ((ry1.mono s).mono sm) (.cons ((ry2.mono s).mono sm) .nil))⟩
  · exact w2.elim
end
end Fd
/-! dicts of one's own; several stores at once -/
namespace Fd
open PySem PySem.Spec L2
section
variable {C : Ctx}
def keyD : D → Option Key
  | .int i => some (.inl i)
  | .str s => some (.inr s)
  | _ => none
theorem keyD_v {K : PySem.W.Frag} {a : Hd} {H : Hp} {d : D} {v : V} {k : Key} (h : Rep K a H d v) (e : keyD d = some k) : v = kV k := by
  cases h <;> first | (cases e; rfl) | cases e
def getD' (kvs : List (Key × D)) (k : Key) : Option D := (kvs.find? fun kv => decide (kv.1 = k)).map (·.2)
def putD (kvs : List (Key × D)) (k : Key) (d : D) : List (Key × D) :=
  if (kvs.any fun kv => decide (kv.1 = k)) = true then kvs.map (fun kv => if kv.1 = k then (kv.1, d) else kv) else kvs ++ [(k, d)]
theorem repK_get {K : PySem.W.Frag} {a : Hd} {H : Hp} {k : Key} : ∀ {kvs : List (Key × D)} {vs : List (Key × V)}, RepK K a H kvs vs → (∀ d, getD' kvs k = some d → ∃ v, valV vs k = some v ∧ Rep K a H d v) ∧ (getD' kvs k = none → valV vs k = none)
  | _, _, .nil => ⟨fun d e => (by cases e), fun _ => rfl⟩
  | _, _, .cons (k := k') (d := d') (v := v') (ds := ds) (vs := vs) h r => by
    obtain ⟨i1, i2⟩ := repK_get (k := k) r
    by_cases e : k' = k
    · have e1 : getD' ((k', d') :: ds) k = some d' := by simp [getD', List.find?_cons, e]
      have e2 : valV ((k', v') :: vs) k = some v' := by simp [valV, List.find?_cons, e]
      rw [e1, e2]
      exact ⟨fun d q => by cases q; exact ⟨v', rfl, h⟩, fun q => by cases q⟩
    · have e1 : getD' ((k', d') :: ds) k = getD' ds k := by simp [getD', List.find?_cons, e]
      have e2 : valV ((k', v') :: vs) k = valV vs k := by simp [valV, List.find?_cons, e]
      rw [e1, e2]
      exact ⟨i1, i2⟩
theorem repK_any {K : PySem.W.Frag} {a : Hd} {H : Hp} {k : Key} : ∀ {kvs : List (Key × D)} {vs : List (Key × V)}, RepK K a H kvs vs → (kvs.any fun kv => decide (kv.1 = k)) = vs.any fun kv => decide (kv.1 = k)
  | _, _, .nil => rfl
  | _, _, .cons h r => by rw [List.any_cons, List.any_cons, repK_any r]
theorem repK_map {K : PySem.W.Frag} {a : Hd} {H : Hp} {k : Key} {d : D} {v : V} (q : Rep K a H d v) : ∀ {kvs : List (Key × D)} {vs : List (Key × V)}, RepK K a H kvs vs → RepK K a H (kvs.map fun kv => if kv.1 = k then (kv.1, d) else kv) (vs.map fun kv => if kv.1 = k then (kv.1, v) else kv)
  | _, _, .nil => .nil
  | _, _, .cons (k := k') h r => by
    rw [List.map_cons, List.map_cons]
    by_cases e : k' = k
    · rw [if_pos e, if_pos e]
      exact .cons q (repK_map q r)
    · rw [if_neg e, if_neg e]
      exact .cons h (repK_map q r)
theorem repK_app {K : PySem.W.Frag} {a : Hd} {H : Hp} : ∀ {kvs es : List (Key × D)} {vs ws : List (Key × V)}, RepK K a H kvs vs → RepK K a H es ws → RepK K a H (kvs ++ es) (vs ++ ws)
  | _, _, _, _, .nil, q => q
  | _, _, _, _, .cons h r, q => .cons h (repK_app r q)
theorem repK_put {K : PySem.W.Frag} {a : Hd} {H : Hp} {k : Key} {d : D} {v : V} (q : Rep K a H d v) {kvs : List (Key × D)} {vs : List (Key × V)} (r : RepK K a H kvs vs) : RepK K a H (putD kvs k d) (putK vs k v) := by
  unfold putD putK
  rw [← repK_any (k := k) r]
  split
  · exact repK_map q r
  · exact repK_app r (.cons q .nil)
theorem repK_key {K : PySem.W.Frag} {a : Hd} {H : Hp} : ∀ {kvs : List (Key × D)} {vs : List (Key × V)} {i : Nat} {k : Key} {v : V}, RepK K a H kvs vs → vs[i]? = some (k, v) → ∃ d, kvs[i]? = some (k, d)
  | _, _, i, _, _, .nil, e => by simp at e
  | _, _, 0, k, v, .cons h r, e => by
    have e2 := Option.some.inj e
    cases e2
    exact ⟨_, rfl⟩
  | _, _, i + 1, k, v, .cons h r, e => by
    obtain ⟨d, h2⟩ := repK_key (i := i) r (by simpa using e)
    exact ⟨d, by simpa using h2⟩
def Key.d : Key → D
  | .inl i => .int i
  | .inr s => .str s
theorem key_rep {K : PySem.W.Frag} {a : Hd} {H : Hp} : ∀ k : Key, Rep K a H (Key.d k) (kV k)
  | .inl i => .int i
  | .inr s => .str s

/-- x[k] = e, x a dict of one's own -/
def sPutD (i : Nat) (fk fe : ME) : MS := fun ρ sq qe => fe ρ (fun d => match ρ[i]? with
  | some (.od kvs) => fk ρ (fun k => match keyD k with
    | some k => kvs.length < sizeLine ∧ sq.nx (ρ.set i (.od (putD kvs k d)))
    | none => False) qe
  | _ => False) qe
theorem ds_putD {i : Nat} {tk te : TE} {fk fe : ME} (hk : DT C tk fk) (he : DT C te fe) : DS C (sDPut (tVar i) tk te) (sPutD i fk fe) := by
  refine ⟨fun Hs ρ σ H sq qe E l r w k => he.run Hs ρ σ H _ qe _ l r w fun d v Hs1 H1 w1 g1 r1 p1 => ?_⟩
  split at w1
  · rename_i kvs e
    obtain ⟨p, vs, ev, h1, h2, h3, h4, h5⟩ := r1.en i _ e
    refine ⟨_, ev, hk.run Hs1 ρ σ H1 _ qe _ l r1 w1 fun kd vk Hs2 H2 w2 g2 r2 p2 => ?_⟩
    split at w2
    · rename_i kk ek
      obtain rfl := keyD_v p2 ek
      obtain ⟨p', vs', ev', h1', h2', h3', h4', h5'⟩ := r2.en i _ e
      rw [ev] at ev'
      cases ev'
      refine ⟨p, _, rfl, DPut.k h1' (by rw [← h2'.length]; exact w2.1), ?_⟩
      exact k.nx _ _ Hs2 _ w2.2 (g1.s.trans g2.s) (r2.change e rfl ev h3' h4' h5' ⟨p, _, rfl, upd_same, repK_put (p1.mono g2.s) h2', h3', h4', h5'⟩)
    · exact w2.elim
  · exact w1.elim
/-- x[k], x a dict in a slot -/
def dOf (ρ : List En) (i : Nat) : Option (List (Key × D)) := match ρ[i]? with
  | some (.od kvs) => some kvs
  | some (.odl _ _ _ kvs) => some kvs
  | some (.sh (.dct kvs)) => some kvs
  | _ => none
theorem dOf_rd {Hs H : Hp} {ρ : List En} {σ : L2.St} (r : RS C Hs ρ σ H) {i : Nat} {kvs : List (Key × D)} (e : dOf ρ i = some kvs) : ∃ p vs, σ[i]? = some (some (.ref p)) ∧ (∀ Hs' H', Gr C.a Hs H Hs' H' → RS C Hs' ρ σ H' → Rd H' p (.dK vs)) ∧ RepK C.K C.a Hs kvs vs := by
  unfold dOf at e
  split at e
  · rename_i ks en
    cases e
    obtain ⟨p, vs, ev, h1, h2, h3, h4, h5⟩ := r.en i _ en
    exact ⟨p, vs, ev, fun Hs' H' g r' => .inl (g.b _ _ h5 h1), h2⟩
  · rename_i p ob vs ks en
    cases e
    obtain ⟨ev, h1, h2, h3, h4, h5⟩ := r.en i _ en
    exact ⟨p, vs, ev, fun Hs' H' g r' => .inr ⟨ob, g.b _ _ h5 h1⟩, h2⟩
  · rename_i ks en
    cases e
    obtain ⟨v, ev, rp⟩ := r.en i _ en
    cases rp with
    | dct h1 h2 => exact ⟨_, _, ev, fun Hs' H' g r' => .inl (r'.sh _ _ (g.s _ _ h1)), h2⟩
  · cases e
def eGetD (i : Nat) (fk : ME) : ME := fun ρ q qe => match dOf ρ i with
  | some kvs => fk ρ (fun k => match keyD k with
    | some k => (match getD' kvs k with
      | some d => q d
      | none => False)
    | none => False) qe
  | none => False
theorem dt_getD {i : Nat} {tk : TE} {fk : ME} (hk : DT C tk fk) : DT C (tDGet (tVar i) tk) (eGetD i fk) := by
  refine ⟨fun Hs ρ σ H q qe Q l r w k => ?_⟩
  unfold eGetD at w
  split at w
  · rename_i kvs e
    obtain ⟨p, vs, ev, rd, rk⟩ := dOf_rd r e
    refine ⟨_, ev, hk.run Hs ρ σ H _ qe _ l r w fun kd vk Hs1 H1 w1 g1 r1 p1 => ?_⟩
    split at w1
    · rename_i kk ek
      split at w1
      · rename_i d ed
        obtain rfl := keyD_v p1 ek
        obtain ⟨v, e1, h2⟩ := (repK_get rk).1 d ed
        exact ⟨p, v, rfl, .inl ⟨vs, kk, rd Hs1 H1 g1 r1, rfl, e1.symm⟩, k d v Hs1 H1 w1 g1 r1 (h2.mono g1.s)⟩
      · exact w1.elim
    · exact w1.elim
  · exact w.elim
/-- k in x, k not in x -/
def eInD (neg : Bool) (i : Nat) (fk : ME) : ME := fun ρ q qe => fk ρ (fun k => match keyD k, dOf ρ i with
  | some k, some kvs => q (.bl (if neg then !(getD' kvs k).isSome else (getD' kvs k).isSome))
  | _, _ => False) qe
theorem dt_inD {i : Nat} {tk : TE} {fk : ME} (hk : DT C tk fk) : DT C (tDIn tk (tVar i)) (eInD false i fk) := by
  refine ⟨fun Hs ρ σ H q qe Q l r w k => ?_⟩
  refine hk.run Hs ρ σ H _ qe _ l r w fun kd vk Hs1 H1 w1 g1 r1 p1 => ?_
  split at w1
  · rename_i kk kvs ek e
    obtain rfl := keyD_v p1 ek
    obtain ⟨p, vs, ev, rd, rk⟩ := dOf_rd r1 e
    refine ⟨_, ev, p, valV vs kk, rfl, .inl ⟨vs, kk, rd Hs1 H1 Gr.refl r1, rfl, rfl⟩, ?_⟩
    have e2 : (valV vs kk).isSome = (getD' kvs kk).isSome := by
      cases h : getD' kvs kk with
      | none => rw [(repK_get rk).2 h]; rfl
      | some d =>
        obtain ⟨v, e1, _⟩ := (repK_get rk).1 d h
        rw [e1]; rfl
    rw [e2]
    exact k _ _ Hs1 H1 w1 g1 r1 (.bl _)
  · exact w1.elim
theorem dt_notInD {i : Nat} {tk : TE} {fk : ME} (hk : DT C tk fk) : DT C (tDNotIn tk (tVar i)) (eInD true i fk) := by
  refine ⟨fun Hs ρ σ H q qe Q l r w k => ?_⟩
  refine hk.run Hs ρ σ H _ qe _ l r w fun kd vk Hs1 H1 w1 g1 r1 p1 => ?_
  split at w1
  · rename_i kk kvs ek e
    obtain rfl := keyD_v p1 ek
    obtain ⟨p, vs, ev, rd, rk⟩ := dOf_rd r1 e
    refine ⟨_, ev, p, valV vs kk, rfl, .inl ⟨vs, kk, rd Hs1 H1 Gr.refl r1, rfl, rfl⟩, ?_⟩
    have e2 : (valV vs kk).isSome = (getD' kvs kk).isSome := by
      cases h : getD' kvs kk with
      | none => rw [(repK_get rk).2 h]; rfl
      | some d =>
        obtain ⟨v, e1, _⟩ := (repK_get rk).1 d h
        rw [e1]; rfl
    rw [e2]
    exact k _ _ Hs1 H1 w1 g1 r1 (.bl _)
  · exact w1.elim
/-- a dict as a test in a comparison: (pt_cmp) -/
theorem dtt_valB {t : TE} {f : ME} (h : DT C t f) : DTt C (tB t) (mVal f) := by
  refine ⟨fun Hs ρ σ H q qe Q l r w k => ?_⟩
  refine h.run Hs ρ σ H _ qe _ l r w fun d v Hs1 H1 w1 g1 r1 p1 => ?_
  split at w1
  · cases p1
    exact ⟨_, rfl, k _ Hs1 H1 w1 g1 r1⟩
  · exact w1.elim

def keysD (kvs : List (Key × D)) : List D := kvs.map fun kv => Key.d kv.1
/-- the loop's body keeps the dict's slot (looked at in every turn) -/
def forKL (g : MG) (body : MS) (i : Nat) (e : En) : List D → List En → SQ → QE → Prop
  | [], ρ, sq, _ => sq.nx ρ
  | d :: ds, ρ, sq, qe => g d ρ fun ρ1 => body ρ1 { nx := fun ρ2 => ρ2[i]? = some e ∧ forKL g body i e ds ρ2 sq qe, rt := fun _ _ => False, bk := fun _ => False, ct := fun ρ2 => ρ2[i]? = some e ∧ forKL g body i e ds ρ2 sq qe } qe
def sForD (i : Nat) (g : MG) (body : MS) : MS := fun ρ sq qe => match ρ[i]? with
  | some (.od kvs) => ∀ p ob vs, forKL g body i (.odl p ob vs kvs) (keysD kvs) (ρ.set i (.odl p ob vs kvs))
    { nx := fun ρ' => sq.nx (ρ'.set i (.od kvs)), rt := fun _ _ => False, bk := fun _ => False, ct := fun _ => False } qe
  | _ => False
theorem RS.relock {Hs H : Hp} {ρ : List En} {σ : L2.St} (r : RS C Hs ρ σ H) {i : Nat} {e0 e : En} {p : Addr} {o : HO} (h0 : ρ[i]? = some e0) (o0 : e0.own = true) (s0 : σ[i]? = some (some (.ref p)))
    (he : EnOk C Hs (upd H p o) e (some (some (.ref p)))) : RS C Hs (ρ.set i e) σ (upd H p o) := by
  obtain ⟨a, b, c⟩ := lt_own r h0 o0 s0
  exact r.change h0 o0 s0 a b c he
theorem set_get {ρ : List En} {i : Nat} {e e' : En} (h : ρ[i]? = some e) : (ρ.set i e')[i]? = some e' := List.getElem?_set_self (List.getElem?_eq_some_iff.mp h).1
theorem ds_forD {i : Nat} {tg : TG} {tb : TS} {S : List Nat} {g : MG} {body : MS} (hg : DG C S tg g) (hS : i ∉ S) (hb : DS C tb body) : DS C (tLock (tFor (iKeys (tVar i)) tg tb)) (sForD i g body) := by
  refine ⟨fun Hs ρ σ H sq qe E l r w k => ?_⟩
  unfold sForD at w
  split at w
  · rename_i kvs e
    obtain ⟨p, vs, ev, h1, h2, h3, h4, h5⟩ := r.en i _ e
    refine ⟨p, .dK vs, h1, trivial, fun ob => ?_⟩
    have w := w p ob vs
    have r1 : RS C Hs (ρ.set i (.odl p ob vs kvs)) σ (upd H p (.frz ob (.dK vs))) := r.relock e rfl ev ⟨rfl, upd_same, h2, h3, h4, h5⟩
    refine ⟨_, ev, p, ob, rfl, .inl ⟨vs, upd_same, ?_⟩⟩
    have hl : (keysD kvs).length = vs.length := by
      unfold keysD
      rw [List.length_map, h2.length]
    refine ⟨fun n m σ2 H2 => m = vs.length - n ∧ n ≤ vs.length ∧ ∃ Hs2 ρ2, Same Hs Hs2 ∧ RS C Hs2 ρ2 σ2 H2 ∧ ρ2[i]? = some (.odl p ob vs kvs) ∧ forKL g body i (.odl p ob vs kvs) ((keysD kvs).drop n) ρ2
      { nx := fun ρ' => sq.nx (ρ'.set i (.od kvs)), rt := fun _ _ => False, bk := fun _ => False, ct := fun _ => False } qe, ⟨vs.length, by simp, Nat.zero_le _, Hs, _, Same.refl _, r1, set_get e, w⟩, ?_⟩
    rintro n m σ2 H2 ⟨rfl, hle, Hs2, ρ2, s2, r2, e2, w2⟩
    obtain ⟨ev2, k1, k2, k3, k4, k5⟩ := r2.en i _ e2
    by_cases hlt : n < vs.length
    · refine .inr ⟨⟨k1, hlt⟩, ?_⟩
      rw [List.drop_eq_getElem_cons (by rw [hl]; exact hlt)] at w2
      refine ⟨fun σ' H' => ∃ Hs' ρ', Same Hs Hs' ∧ RS C Hs' ρ' σ' H' ∧ ρ'[i]? = some (.odl p ob vs kvs) ∧ forKL g body i (.odl p ob vs kvs) ((keysD kvs).drop (n + 1)) ρ'
        { nx := fun ρ' => sq.nx (ρ'.set i (.od kvs)), rt := fun _ _ => False, bk := fun _ => False, ct := fun _ => False } qe, fun σ' H' h' => ⟨vs.length - (n + 1), by omega, rfl, hlt, h'⟩, fun x H' hy => ?_⟩
      obtain ⟨rfl, kk, vv, hkk, rfl⟩ := hy
      obtain ⟨dd, hdd⟩ := repK_key k2 hkk
      have ed : (keysD kvs)[n]'(by rw [hl]; exact hlt) = Key.d kk := by
        obtain ⟨h7, h8⟩ := List.getElem?_eq_some_iff.mp hdd
        unfold keysD
        rw [List.getElem_map, h8]
      rw [ed] at w2
      refine hg.run Hs2 ρ2 σ2 H' _ _ _ _ r2 (key_rep kk) w2 fun ρ4 σ4 w4 r4 _ => ?_
      exact hb.run Hs2 ρ4 σ4 H' _ qe _ l r4 w4 ⟨fun ρ' σ' Hs' H' w' s' r' => ⟨Hs', ρ', s2.trans s', r', w'.1, w'.2⟩, fun _ _ _ _ _ _ w' => w'.elim, fun _ _ _ _ w' => w'.elim, fun ρ' σ' Hs' H' w' s' r' => ⟨Hs', ρ', s2.trans s', r', w'.1, w'.2⟩⟩
    · rw [List.drop_eq_nil_of_le (by rw [hl]; omega)] at w2
      refine .inl ⟨⟨k1, by omega⟩, k1, ?_⟩
      exact k.nx _ _ Hs2 _ w2 s2 (r2.relock e2 rfl ev2 ⟨p, vs, rfl, upd_same, k2, k3, k4, k5⟩)
  · exact w.elim

/-! ### several stores at once -/
/-- a value that comes to a slot -/
abbrev MN := List En → (List En → Prop) → QE → Prop
structure DN (C : Ctx) (n : Nat) (t : TA) (f : MN) : Prop where
  run : ∀ Hs ρ σ H q qe Q, (∀ x, qe x → C.W x) → RS C Hs ρ σ H → f ρ q qe →
    (∀ es vs Hs' H', q es → Gr C.a Hs H Hs' H' → RS C Hs' ρ σ H' → es.length = n → vs.length = n →
      (∀ (i : Nat) (e : En) (v : V), es[i]? = some e → vs[i]? = some v → EnOk C Hs' H' e (some (some v)) ∧ (e.own = true → ∃ p, v = .ref p ∧ H p = none)) →
      (∀ (i j : Nat) (e e' : En) (v : V), i ≠ j → es[i]? = some e → es[j]? = some e' → e.own = true → e'.own = true → vs[i]? = some v → vs[j]? = some v → False) → Q vs H') → t σ H Q
def nNil : MN := fun _ q _ => q []
def nSh (f : ME) (g : MN) : MN := fun ρ q qe => f ρ (fun d => g ρ (fun es => q (.sh d :: es)) qe) qe
def nOl (f : MA) (g : MN) : MN := fun ρ q qe => f ρ (fun ds => g ρ (fun es => q (.ol ds :: es)) qe) qe
def nOd (g : MN) : MN := fun ρ q qe => g ρ (fun es => q (.od [] :: es)) qe
theorem dn_nil : DN C 0 tNil nNil := ⟨fun Hs ρ σ H q qe Q l r w k => k [] [] Hs H w Gr.refl r rfl rfl (fun i e v h => by simp at h) fun i j e e' v _ h => by simp at h⟩
theorem dn_sh {n : Nat} {t : TE} {u : TA} {f : ME} {g : MN} (h : DT C t f) (h2 : DN C n u g) : DN C (n + 1) (tCons t u) (nSh f g) := by
  refine ⟨fun Hs ρ σ H q qe Q l r w k => ?_⟩
  refine h.run Hs ρ σ H _ qe _ l r w fun d v Hs1 H1 w1 g1 r1 p1 => ?_
  refine h2.run Hs1 ρ σ H1 _ qe _ l r1 w1 fun es vs Hs2 H2 w2 g2 r2 l1 l2 ok ne => ?_
  refine k _ _ Hs2 H2 w2 (g1.trans g2) r2 (congrArg (· + 1) l1) (congrArg (· + 1) l2) (fun i e v' he hv => ?_) fun i j e e' v' hij he he' o o' hv hv' => ?_
  · cases i with
    | zero =>
      cases Option.some.inj he
      cases Option.some.inj hv
      exact ⟨⟨v, rfl, p1.mono g2.s⟩, fun z => by cases z⟩
    | succ i =>
      obtain ⟨a, b⟩ := ok i e v' (by simpa using he) (by simpa using hv)
      refine ⟨a, fun z => ?_⟩
      obtain ⟨p, e1, e2⟩ := b z
      refine ⟨p, e1, ?_⟩
      subst e1
      have na : C.a ≠ some p := r1.fresh_a e2
      exact g1.b.free na e2
  · cases i with
    | zero =>
      cases Option.some.inj he
      cases o
    | succ i =>
      cases j with
      | zero =>
        cases Option.some.inj he'
        cases o'
      | succ j => exact ne i j e e' v' (by omega) (by simpa using he) (by simpa using he') o o' (by simpa using hv) (by simpa using hv')
theorem dn_own {n : Nat} {t : TE} {u : TA} {en : En} {v : V} {o : HO} {Hs1 H1 Hs2 H2 Hs H : Hp} {ρ : List En} {σ : L2.St} {p : Addr} (hv : v = .ref p) (hp : H1 p = none) (g1 : Gr C.a Hs H Hs1 H1) (r1 : RS C Hs1 ρ σ H1) (g2 : Gr C.a Hs1 (upd H1 p o) Hs2 H2)
    (ok : EnOk C Hs1 (upd H1 p o) en (some (some (.ref p)))) (ow : en.own = true) (r2 : RS C Hs2 ρ σ H2) {es : List En} {vs : List V}
    (ok2 : ∀ (i : Nat) (e : En) (v : V), es[i]? = some e → vs[i]? = some v → EnOk C Hs2 H2 e (some (some v)) ∧ (e.own = true → ∃ p', v = .ref p' ∧ (upd H1 p o) p' = none))
    (ne : ∀ (i j : Nat) (e e' : En) (v : V), i ≠ j → es[i]? = some e → es[j]? = some e' → e.own = true → e'.own = true → vs[i]? = some v → vs[j]? = some v → False) :
    (∀ (i : Nat) (e : En) (v' : V), (en :: es)[i]? = some e → (v :: vs)[i]? = some v' → EnOk C Hs2 H2 e (some (some v')) ∧ (e.own = true → ∃ p', v' = .ref p' ∧ H p' = none)) ∧
    (∀ (i j : Nat) (e e' : En) (v' : V), i ≠ j → (en :: es)[i]? = some e → (en :: es)[j]? = some e' → e.own = true → e'.own = true → (v :: vs)[i]? = some v' → (v :: vs)[j]? = some v' → False) := by
  subst hv
  have na : C.a ≠ some p := r1.fresh_a hp
  have up : ∀ q, (upd H1 p o) q = none → H1 q = none ∧ q ≠ p := fun q h => by
    by_cases z : q = p
    · rw [z, upd_same] at h
      cases h
    · rw [upd_ne z] at h
      exact ⟨h, z⟩
  have ok3 : EnOk C Hs2 H2 en (some (some (.ref p))) := ok.mono g2.s g2.b fun q _ h3 h4 => by
    cases z : Hs2 q with
    | none => rfl
    | some u =>
      rcases g2.n q u z with y | y
      · rw [h4] at y
        cases y
      · exact absurd y.1 h3
  refine ⟨fun i e v' he hv => ?_, fun i j e e' v' hij he he' o o' hv hv' => ?_⟩
  · cases i with
    | zero =>
      cases Option.some.inj he
      cases Option.some.inj hv
      exact ⟨ok3, fun _ => ⟨p, rfl, g1.b.free na hp⟩⟩
    | succ i =>
      obtain ⟨a, b⟩ := ok2 i e v' (by simpa using he) (by simpa using hv)
      refine ⟨a, fun z => ?_⟩
      obtain ⟨q, e1, e2⟩ := b z
      exact ⟨q, e1, g1.b.free (r1.fresh_a (up q e2).1) (up q e2).1⟩
  · cases i with
    | zero =>
      cases j with
      | zero => exact hij rfl
      | succ j =>
        cases Option.some.inj hv
        obtain ⟨q, e1, e2⟩ := (ok2 j e' _ (by simpa using he') (by simpa using hv')).2 o'
        cases e1
        exact (up p e2).2 rfl
    | succ i =>
      cases j with
      | zero =>
        cases Option.some.inj hv'
        obtain ⟨q, e1, e2⟩ := (ok2 i e _ (by simpa using he) (by simpa using hv)).2 o
        cases e1
        exact (up p e2).2 rfl
      | succ j => exact ne i j e e' v' (by omega) (by simpa using he) (by simpa using he') o o' (by simpa using hv) (by simpa using hv')
theorem dn_ol {n : Nat} {t : TE} {u : TA} {f : MA} {g : MN} (h : DF C t f) (h2 : DN C n u g) : DN C (n + 1) (tCons t u) (nOl f g) := by
  refine ⟨fun Hs ρ σ H q qe Q l r w k => ?_⟩
  refine h.run Hs ρ σ H _ qe _ l r w fun ds p vs1 Hs1 H1 w1 g1 r1 hp rl => ?_
  have r1' := r1.side (o := .lst vs1) hp
  have gs := r1.gr_side (o := .lst vs1) hp
  refine h2.run Hs1 ρ σ _ _ qe _ l r1' w1 fun es vs Hs2 H2 w2 g2 r2 l1 l2 ok ne => ?_
  obtain ⟨a, b⟩ := dn_own (n := n) (t := t) (u := u) (en := .ol ds) rfl hp g1 r1 g2 ⟨p, vs1, rfl, upd_same, rl, r1.fresh_0 hp, r1.fresh_s hp, r1.fresh_a hp⟩ rfl r2 ok ne
  exact k _ _ Hs2 H2 w2 (g1.trans (gs.trans g2)) r2 (congrArg (· + 1) l1) (congrArg (· + 1) l2) a b
theorem dn_od {n : Nat} {u : TA} {g : MN} (h2 : DN C n u g) : DN C (n + 1) (tCons tDNewK u) (nOd g) := by
  refine ⟨fun Hs ρ σ H q qe Q l r w k => fun p hp => ?_⟩
  have r1' := r.side (o := .dK []) hp
  have gs := r.gr_side (o := .dK []) hp
  refine h2.run Hs ρ σ _ _ qe _ l r1' w fun es vs Hs2 H2 w2 g2 r2 l1 l2 ok ne => ?_
  obtain ⟨a, b⟩ := dn_own (n := n) (t := tDNewK) (u := u) (en := .od []) rfl hp Gr.refl r g2 ⟨p, [], rfl, upd_same, .nil, r.fresh_0 hp, r.fresh_s hp, r.fresh_a hp⟩ rfl r2 ok ne
  exact k _ _ Hs2 H2 w2 (gs.trans g2) r2 (congrArg (· + 1) l1) (congrArg (· + 1) l2) a b
theorem RS.put {Hs H : Hp} {ρ : List En} {σ : L2.St} (r : RS C Hs ρ σ H) {i : Nat} {e : En} {v : V} (he : EnOk C Hs H e (some (some v)))
    (hn : e.own = true → ∀ (k : Nat) (e' : En), k ≠ i → ρ[k]? = some e' → e'.own = true → σ[k]? ≠ some (some v)) : RS C Hs (ρ.set i e) (σ.set i (some v)) H where
  len := by rw [List.length_set, List.length_set, r.len]
  fr := r.fr
  sh := r.sh
  sh0 := r.sh0
  new := r.new
  hd := r.hd
  hd0 := r.hd0
  en := fun j e' hj => by
    by_cases z : i = j
    · subst z
      have hl : i < ρ.length := by
        have q := (List.getElem?_eq_some_iff.mp hj).1
        rwa [List.length_set] at q
      rw [List.getElem?_set_self hl] at hj
      cases hj
      rw [List.getElem?_set_self (by rw [← r.len]; exact hl)]
      exact he
    · rw [List.getElem?_set_ne z] at hj ⊢
      exact r.en j e' hj
  sep := fun j k p e1 e2 hjk h1 h2 o1 o2 s1 s2 => by
    by_cases z : i = j
    · subst z
      have y : i ≠ k := hjk
      have hl : i < ρ.length := by
        have q := (List.getElem?_eq_some_iff.mp h1).1
        rwa [List.length_set] at q
      rw [List.getElem?_set_self hl] at h1
      cases h1
      rw [List.getElem?_set_self (by rw [← r.len]; exact hl)] at s1
      cases s1
      rw [List.getElem?_set_ne y] at h2 s2
      exact hn o1 k e2 (Ne.symm y) h2 o2 s2
    · by_cases y : i = k
      · subst y
        have hl : i < ρ.length := by
          have q := (List.getElem?_eq_some_iff.mp h2).1
          rwa [List.length_set] at q
        rw [List.getElem?_set_self hl] at h2
        cases h2
        rw [List.getElem?_set_self (by rw [← r.len]; exact hl)] at s2
        cases s2
        rw [List.getElem?_set_ne z] at h1 s1
        exact hn o2 j e1 (Ne.symm z) h1 o1 s1
      · rw [List.getElem?_set_ne z] at h1 s1
        rw [List.getElem?_set_ne y] at h2 s2
        exact r.sep j k p e1 e2 hjk h1 h2 o1 o2 s1 s2
def setAll {α : Type} : List α → List Nat → List α → List α
  | xs, i :: is, e :: es => setAll (xs.set i e) is es
  | xs, _, _ => xs
theorem RS.putAll {Hs H : Hp} : ∀ {is : List Nat} {es : List En} {vs : List V} {ρ : List En} {σ : L2.St}, RS C Hs ρ σ H → es.length = is.length → vs.length = is.length → is.Nodup →
    (∀ (i : Nat) (e : En) (v : V), es[i]? = some e → vs[i]? = some v → EnOk C Hs H e (some (some v)) ∧ (e.own = true → ∀ (k : Nat) (e' : En), ρ[k]? = some e' → e'.own = true → σ[k]? ≠ some (some v))) →
    (∀ (i j : Nat) (e e' : En) (v : V), i ≠ j → es[i]? = some e → es[j]? = some e' → e.own = true → e'.own = true → vs[i]? = some v → vs[j]? = some v → False) →
    RS C Hs (setAll ρ is es) (setAll σ is (vs.map some)) H
  | [], es, vs, ρ, σ, r, _, _, _, _, _ => by
    cases es <;> cases vs <;> exact r
  | i :: is, [], vs, ρ, σ, r, h, _, _, _, _ => by cases h
  | i :: is, e :: es, [], ρ, σ, r, _, h, _, _, _ => by cases h
  | i :: is, e :: es, v :: vs, ρ, σ, r, h1, h2, nd, ok, ne => by
    have nd' := List.nodup_cons.mp nd
    show RS C Hs (setAll (ρ.set i e) is es) (setAll (σ.set i (some v)) is (vs.map some)) H
    refine RS.putAll (r.put (ok 0 e v rfl rfl).1 fun o k e' hk => (ok 0 e v rfl rfl).2 o k e') (by simpa using h1) (by simpa using h2) nd'.2 (fun j ej vj hj hvj => ?_) fun j k ej ek vj hjk hj hk oj ok' hvj hvk =>
      ne (j + 1) (k + 1) ej ek vj (by omega) (by simpa using hj) (by simpa using hk) oj ok' (by simpa using hvj) (by simpa using hvk)
    obtain ⟨a, b⟩ := ok (j + 1) ej vj (by simpa using hj) (by simpa using hvj)
    refine ⟨a, fun o k e' hk ok' hs => ?_⟩
    by_cases z : i = k
    · subst z
      have hl : i < ρ.length := by
        have q := (List.getElem?_eq_some_iff.mp hk).1
        rwa [List.length_set] at q
      rw [List.getElem?_set_self hl] at hk
      cases hk
      rw [List.getElem?_set_self (by rw [← r.len]; exact hl)] at hs
      cases hs
      exact ne 0 (j + 1) e ej v (by omega) rfl (by simpa using hj) ok' o rfl (by simpa using hvj)
    · rw [List.getElem?_set_ne z] at hk hs
      exact b o k e' hk ok' hs
def sMany (is : List Nat) (f : MN) : MS := fun ρ sq qe => f ρ (fun es => sq.nx (setAll ρ is es)) qe
def gNames : List Nat → TGs
  | [] => gNil
  | i :: is => gCons (gName i) (gNames is)
theorem gNames_run : ∀ {is : List Nat} {vs : List V} {σ : L2.St} {H : Hp} {Q : L2.St → Hp → Prop}, vs.length = is.length → Q (setAll σ is (vs.map some)) H → gNames is vs σ H Q
  | [], [], _, _, _, _, h => ⟨rfl, h⟩
  | [], _ :: _, _, _, _, h, _ => by cases h
  | i :: is, [], _, _, _, h, _ => by cases h
  | i :: is, v :: vs, σ, H, Q, h, q => ⟨v, vs, rfl, gNames_run (is := is) (vs := vs) (by simpa using h) q⟩
theorem many_ok {n : Nat} {Hs H Hs' H' : Hp} {ρ : List En} {σ : L2.St} {is : List Nat} {es : List En} {vs : List V} (r : RS C Hs ρ σ H) (r' : RS C Hs' ρ σ H') (hi : is.length = n) (nd : is.Nodup) (l1 : es.length = n) (l2 : vs.length = n)
    (ok : ∀ (i : Nat) (e : En) (v : V), es[i]? = some e → vs[i]? = some v → EnOk C Hs' H' e (some (some v)) ∧ (e.own = true → ∃ p, v = .ref p ∧ H p = none))
    (ne : ∀ (i j : Nat) (e e' : En) (v : V), i ≠ j → es[i]? = some e → es[j]? = some e' → e.own = true → e'.own = true → vs[i]? = some v → vs[j]? = some v → False) : RS C Hs' (setAll ρ is es) (setAll σ is (vs.map some)) H' := by
  refine r'.putAll (l1.trans hi.symm) (l2.trans hi.symm) nd (fun i e v he hv => ⟨(ok i e v he hv).1, fun o k e' hk ok' hs => ?_⟩) ne
  obtain ⟨p, e1, e2⟩ := (ok i e v he hv).2 o
  subst e1
  have q := r.en k e' hk
  cases e' with
  | no => cases ok'
  | sh d => cases ok'
  | ol ds =>
    obtain ⟨p', us, ev, h1, _⟩ := q
    rw [hs] at ev
    cases ev
    rw [e2] at h1
    cases h1
  | od ds =>
    obtain ⟨p', us, ev, h1, _⟩ := q
    rw [hs] at ev
    cases ev
    rw [e2] at h1
    cases h1
  | odl p' ob us ds =>
    obtain ⟨ev, h1, _⟩ := q
    rw [hs] at ev
    cases ev
    rw [e2] at h1
    cases h1
  | oh p' ds =>
    obtain ⟨us, ev, h1, _⟩ := q
    rw [hs] at ev
    cases ev
    rw [e2] at h1
    cases h1
  | oo c p' dx fs =>
    obtain ⟨us, ev, h1, _⟩ := q
    rw [hs] at ev
    cases ev
    rw [e2] at h1
    cases h1
/-- a, b, .. = (e1, e2, ..), by a tuple -/
theorem ds_many {n : Nat} {is : List Nat} {t : TA} {f : MN} (h : DN C n t f) (hi : is.length = n) (nd : is.Nodup) (hz : n ≤ sizeLine) : DS C (tAsg (tTup t) (gTup C.K n (gNames is))) (sMany is f) := by
  refine ⟨fun Hs ρ σ H sq qe E l r w k => ?_⟩
  refine h.run Hs ρ σ H _ qe _ l r w fun es vs Hs1 H1 w1 g1 r1 l1 l2 ok ne => ⟨by rw [l2]; exact hz, fun p hp => ?_⟩
  have r2 := r1.side (o := .tup vs) hp
  have g2 := r1.gr_side (o := .tup vs) hp
  refine ⟨p, vs, rfl, SqT.of upd_same, l2, gNames_run (l2.trans hi.symm) ?_⟩
  refine k.nx _ _ Hs1 _ w1 g1.s (many_ok r r2 hi nd l1 l2 (fun i e v he hv => ⟨?_, (ok i e v he hv).2⟩) ne)
  exact (ok i e v he hv).1.mono (Same.refl _) g2.b fun _ _ _ h => h
/-- .. without one -/
def tParN (is : List Nat) (ta : TA) : TS := fun E σ H => ta σ H fun vs H1 => vs.length = is.length ∧ E.nx (setAll σ is (vs.map some)) H1
theorem ds_parN {n : Nat} {is : List Nat} {t : TA} {f : MN} (h : DN C n t f) (hi : is.length = n) (nd : is.Nodup) : DS C (tParN is t) (sMany is f) := by
  refine ⟨fun Hs ρ σ H sq qe E l r w k => ?_⟩
  refine h.run Hs ρ σ H _ qe _ l r w fun es vs Hs1 H1 w1 g1 r1 l1 l2 ok ne => ⟨l2.trans hi.symm, ?_⟩
  exact k.nx _ _ Hs1 _ w1 g1.s (many_ok r r1 hi nd l1 l2 ok ne)
end
end Fd
/-! defs by their names, objects made, the hand of draws, the law's end -/
namespace Fd
open PySem PySem.Spec L2

/-- a def that may be called: x's promise is spOf of m -/
structure Cal (P : Program) (w : World) (K : PySem.W.Frag) (mg : Str → Option Value) (base : Heap) (k : Nat) (x : Str) (n : Nat) (m : M) : Prop where
  ex : ∃ fd ps, FnOk P w K mg base CX0 k (He.ga K x) fd ps (spOf K n m) ∧ Binds K fd ps []
  kp : PySem.W.keepIn K (.ref (He.ga K x)) = true
  g : mg x = some (.ref (He.ga K x))
theorem pe_cal {X : Cx} {k n : Nat} {m : M} {x : Str} {p pos : Pos} {e : Expr} {es : List Expr} {t : TA} (c : Cal X.prog X.w X.K X.mg X.base k x n m) (hr : Room k X.A) (hg : Gl X x) (ha : PA X (e :: es) t)
    (hdb : (x == ("__debug__" : Str)) = false := by decide) (he : starEach (e :: es) X.env = (false, eval e X.env) :: starEach es X.env := by rfl) (hpl : (backTo pos (starEach es X.env)).any (·.1) = false := by rfl) :
    PE X (.Call (.Name x p) (e :: es) [] pos) (tCall (spOf X.K n m) [] E0 t) := by
  obtain ⟨fd, ps, F, b⟩ := c.ex
  exact pe_call F hr hg c.g c.kp b .nil pass0 ha hdb he hpl
/-- a def's text does what its functional reading says -/
theorem cal_of {P : Program} {w : World} {K : PySem.W.Frag} {mg : Str → Option Value} {base : Heap} {x : Str} {st : Stmt} {N ps : List Str} {n k j : Nat} {f : MS}
    (F : ∃ fd, FunD K x x (defArgs st) (defBody st) (defScope st) [] [] (He.ga K x) fd) (g : mg x = some (.ref (He.ga K x))) (S : FnScope N ps (defScope st)) (hn : ps.length = n) (hN : N.length = n + j)
    (hb : ∀ (cdv : Value) (A : Around) (outer : List Env) (s : Shared) (H : Hp) (E : XK), Room k (A.deeper (PyProof.Rows.envOfC x (defScope st) s.heap.objs.size (He.ga K x) cdv)) →
      ∃ t, PSs (cxOf CX0 P w K mg base N x (defScope st) (He.ga K x) cdv A outer s H E).nox (defBody st) t ∧ ∀ C : Ctx, C.K = K → (∀ x, ¬ C.W x) → DS C t f)
    (bd : ∀ (kV doc pm : Value) (an : Option Addr) (cdv ct : Value) (us : List Value), us.length = ps.length → bindArgs (PySem.W.fnOf x x (defArgs st) (defBody st) (defScope st) .none kV doc pm an cdv ct) ⟨us, []⟩ = pure (ps.zip us)) :
    Cal P w K mg base (k + 1) x n (mBody j f) := by
  obtain ⟨fd, F⟩ := F
  refine ⟨⟨fd, ps, F.ok S (fun vs H Q E h => ?_) (fun cdv A outer s H vs Q E hr h => ?_), F.bindsN bd⟩, F.kp, g⟩
  · obtain ⟨a, Hs, ds, q, hl, _⟩ := h
    rw [hl, hn]
  · obtain ⟨t, h1, h2⟩ := hb cdv A outer s H E hr
    exact ⟨t, h1.nox, body_ok hN h2 h⟩
/-- two readings that agree -/
theorem Cal.imp {P : Program} {w : World} {K : PySem.W.Frag} {mg : Str → Option Value} {base : Heap} {k n : Nat} {x : Str} {m m' : M} (c : Cal P w K mg base k x n m) (h : ∀ ds q, m' ds q (fun _ => False) → m ds q (fun _ => False)) : Cal P w K mg base k x n m' := by
  obtain ⟨fd, ps, F, b⟩ := c.ex
  refine ⟨⟨fd, ps, F.imp fun vs H Q E z => ?_, b⟩, c.kp, c.g⟩
  obtain ⟨a, Hs, ds, q, h1, h2, h3, h4, h5, h6⟩ := z
  exact ⟨a, Hs, ds, q, h1, h2, h3, h4, h ds q h5, h6⟩
theorem Cal.mono {P : Program} {w : World} {K : PySem.W.Frag} {mg : Str → Option Value} {base : Heap} {k l n : Nat} {x : Str} {m : M} (c : Cal P w K mg base k x n m) (h : k ≤ l) : Cal P w K mg base l x n m := by
  obtain ⟨fd, ps, F, b⟩ := c.ex
  exact ⟨⟨fd, ps, F.mono h, b⟩, c.kp, c.g⟩

/-! ### fields stored, objects made -/
def putFD (f : Str) (d : D) : List (Str × D) → List (Str × D)
  | [] => [(f, d)]
  | (g, w) :: r => if g = f then (g, d) :: r else (g, w) :: putFD f d r
theorem repF_put {K : PySem.W.Frag} {a : Hd} {H : Hp} {f : Str} {d : D} {v : V} (q : Rep K a H d v) : ∀ {ds : List (Str × D)} {vs : List (Str × V)}, RepF K a H ds vs → RepF K a H (putFD f d ds) (putF f v vs)
  | _, _, .nil => .cons q .nil
  | _, _, .cons (k := k) h r => by
    unfold putFD putF
    by_cases e : k = f
    · rw [if_pos e, if_pos e]
      exact .cons q r
    · rw [if_neg e, if_neg e]
      exact .cons h (repF_put q r)
theorem RepF.length {K : PySem.W.Frag} {a : Hd} {H : Hp} : ∀ {ds : List (Str × D)} {vs : List (Str × V)}, RepF K a H ds vs → ds.length = vs.length
  | _, _, .nil => rfl
  | _, _, .cons _ r => congrArg (· + 1) (RepF.length r)
def gFld (K : PySem.W.Frag) (ta : TE) (f : Str) : TG := fun v σ H Q => ta σ H fun x H1 => ∃ a C dx fs, x = .ref a ∧ H1 a = some (.ins C dx fs) ∧ Cls K C ∧ NoAttr K C f ∧ fs.length < 1000 ∧ Q σ (upd H1 a (.ins C dx (putF f v fs)))
theorem pg_fld {X : Cx} {o : Expr} {f : Str} {pos : Pos} {ta : TE} (ho : PE X o ta) : PG X (.Attribute o f pos) (gFld X.K ta f) := by
  refine ⟨fun pins s σ H v u Q I r h => ?_⟩
  rw [assign_Attribute]
  refine wpAny_bind (wpAny_holding (thn (ho.run pins s σ H _ I h) fun ov s1 ⟨x, H1, I1, rx, a, C, dx, fs, ex, ea, c, n, l, q⟩ => ?_))
  subst ex
  obtain rfl : ov = Value.ref a := rx
  refine wpAny_bind (wpAny_standAt (wpAny_bind (wpAny_holding (setattr_ok I1 ea c n l r fun s3 I3 => ?_))))
  exact wpAny_release ⟨σ, _, I3, q⟩
section
variable {C : Ctx}
theorem RS.fld {Hs H : Hp} {ρ : List En} {σ : L2.St} (r : RS C Hs ρ σ H) {i : Nat} {c f : Str} {p dx : Addr} {fs : List (Str × D)} {d : D} {v : V} (e : ρ[i]? = some (.oo c p dx fs)) (h : Rep C.K C.a Hs d v) :
    ∃ vs, σ[i]? = some (some (.ref p)) ∧ H p = some (.ins (He.ga C.K c) dx vs) ∧ vs.length = fs.length ∧ RS C Hs (ρ.set i (.oo c p dx (putFD f d fs))) σ (upd H p (.ins (He.ga C.K c) dx (putF f v vs))) := by
  obtain ⟨vs, ev, h1, hd, h2, h3, h4, h5, h6, h7⟩ := r.en i _ e
  refine ⟨vs, ev, h1, h2.length.symm, r.change e rfl ev h3 h4 h5 ⟨_, rfl, upd_same, ?_, repF_put h h2, h3, h4, h5, h6, h7⟩⟩
  rw [upd_ne fun z => by rw [z, h1] at hd; cases hd]
  exact hd
/-- self.f = e -/
def sSelf (c : Str) (i : Nat) (f : Str) (fe : ME) : MS := fun ρ sq qe => fe ρ (fun d => match ρ[i]? with
  | some (.oo c' p dx fs) => c' = c ∧ fs.length < 1000 ∧ sq.nx (ρ.set i (.oo c p dx (putFD f d fs)))
  | _ => False) qe
theorem ds_self {i : Nat} {f c : Str} {te : TE} {fe : ME} (ok : FldOk C.K [c] f) (he : DT C te fe) : DS C (sFld C.K (tVar i) te f) (sSelf c i f fe) := by
  refine ⟨fun Hs ρ σ H sq qe E l r w k => he.run Hs ρ σ H _ qe _ l r w fun d v Hs1 H1 w1 g1 r1 p1 => ?_⟩
  split at w1
  · rename_i c' p dx fs e
    obtain ⟨rfl, w1⟩ := w1
    obtain ⟨vs, ev, h1, hl, r2⟩ := r1.fld (f := f) e p1
    exact ⟨_, ev, p, _, dx, vs, rfl, h1, (ok _ (List.mem_singleton.mpr rfl)).1, (ok _ (List.mem_singleton.mpr rfl)).2, by rw [hl]; exact w1.1, k.nx _ _ Hs1 _ w1.2 g1.s r2⟩
  · exact w1.elim
/-- self.f, self.g = (e1, e2) -/
def sSelf2 (c : Str) (i : Nat) (f1 f2 : Str) (g : MA) : MS := fun ρ sq qe => g ρ (fun ds => match ds with
  | [d1, d2] => (match ρ[i]? with
    | some (.oo c' p dx fs) => c' = c ∧ fs.length < 1000 ∧ (putFD f1 d1 fs).length < 1000 ∧ sq.nx (ρ.set i (.oo c p dx (putFD f2 d2 (putFD f1 d1 fs))))
    | _ => False)
  | _ => False) qe
theorem ds_self2 {i : Nat} {f1 f2 c : Str} {t : TA} {g : MA} (ok1 : FldOk C.K [c] f1) (ok2 : FldOk C.K [c] f2) (h : DA C t g) :
    DS C (tAsg (tTup t) (gTup C.K 2 (gCons (gFld C.K (tVar i) f1) (gCons (gFld C.K (tVar i) f2) gNil)))) (sSelf2 c i f1 f2 g) := by
  refine ⟨fun Hs ρ σ H sq qe E l r w k => h.run Hs ρ σ H _ qe _ l r w fun ds vs Hs1 H1 w1 g1 r1 p1 => ?_⟩
  split at w1
  · cases p1 with
    | cons p1 q =>
      cases q with
      | cons p2 q =>
        cases q
        refine ⟨by show 2 ≤ sizeLine; decide, fun a ha => ?_⟩
        rename_i v1 v2
        split at w1
        · rename_i c' p dx fs e
          obtain ⟨rfl, l1, l2, w2⟩ := w1
          have ra : RS C Hs1 ρ σ (upd H1 a (.tup [v1, v2])) := r1.side ha
          obtain ⟨us, ev, h1, hl, r2⟩ := ra.fld (f := f1) e p1
          obtain ⟨us', ev', h1', hl', r3⟩ := r2.fld (i := i) (f := f2) (List.getElem?_set_self (List.getElem?_eq_some_iff.mp e).1) p2
          have e3 : us' = putF f1 v1 us := by
            rw [upd_same] at h1'
            injection h1' with h1'
            injection h1' with _ _ h1'
            exact h1'.symm
          subst e3
          refine ⟨a, _, rfl, SqT.of upd_same, rfl, v1, _, rfl, ⟨_, ev, p, _, dx, us, rfl, h1, (ok1 _ (List.mem_singleton.mpr rfl)).1, (ok1 _ (List.mem_singleton.mpr rfl)).2, by rw [hl]; exact l1, ?_⟩⟩
          refine ⟨v2, [], rfl, ⟨_, ev, p, _, dx, _, rfl, h1', (ok2 _ (List.mem_singleton.mpr rfl)).1, (ok2 _ (List.mem_singleton.mpr rfl)).2, by rw [hl']; exact l2, ⟨rfl, ?_⟩⟩⟩
          rw [List.set_set] at r3
          exact k.nx _ _ Hs1 _ w2 g1.s r3
        · exact w1.elim
  · exact w1.elim
end
/-- the promise of an __init__ -/
abbrev MI := List D → (List (Str × D) → Prop) → QE → Prop
def spInit (K : PySem.W.Frag) (c : Str) (n : Nat) (m : MI) : Sp := fun vs H Q _ => ∃ (a : Hd) (Hs H1 : Hp) (x dx : Addr) (us : List V) (ds : List D) (q : List (Str × D) → Prop), vs = .ref x :: us ∧ us.length = n ∧ H = upd (upd H1 dx (.own x)) x (.ins (He.ga K c) dx []) ∧
  H1 x = none ∧ H1 dx = none ∧ dx ≠ x ∧ Same Hs H1 ∧ HandOk a Hs H1 ∧ RepL K a Hs ds us ∧ m ds q (fun _ => False) ∧
  ∀ fs fs' Hs' H', q fs → Gr a Hs H1 Hs' H' → Same Hs' H' → HandOk a Hs' H' → H' x = some (.ins (He.ga K c) dx fs') → H' dx = some (.own x) → RepF K a Hs' fs fs' → Hs' x = none → Hs' dx = none → Q .non H'
def mInit (c : Str) (k : Nat) (f : MS) : MI := fun ds q qe => ∀ x dx : Addr, f (.oo c x dx [] :: (ds.map .sh ++ List.replicate k .no)) ⟨fun ρ => ∃ fs, ρ[0]? = some (.oo c x dx fs) ∧ q fs, fun _ _ => False, fun _ => False, fun _ => False⟩ qe
theorem init_ok {K : PySem.W.Frag} {t : TS} {f : MS} {c : Str} {n k : Nat} {N : List Str} {vs : List V} {H : Hp} {Q : VK} {E : XK} (hN : N.length = n + 1 + k) (ht : ∀ C : Ctx, C.K = K → (∀ x, ¬ C.W x) → DS C t f)
    (h : spInit K c n (mInit c k f) vs H Q E) : t { nx := fun _ H' => Q .non H', rt := Q } (L2.start N vs) H := by
  obtain ⟨a, Hs, H1, x, dx, us, ds, q, rfl, hl, rfl, hx, hdx, ne, s, hd, r, w, kk⟩ := h
  have r0 : RS ⟨K, a, H1, Hs, fun _ => False⟩ Hs (ds.map .sh ++ List.replicate k .no) (us.map some ++ List.replicate k none) H1 := by
    have z := rs_start (N := N.drop 1) (k := k) (W := fun _ => False) s hd r (by rw [List.length_drop, hN, hl]; omega)
    have e : L2.start (N.drop 1) us = us.map some ++ List.replicate k none := by
      unfold L2.start
      rw [List.length_drop, hN, hl, show n + 1 + k - 1 - n = k by omega]
    rw [e] at z
    exact z
  have hx' : (upd H1 dx (.own x)) x = none := by rw [upd_ne (Ne.symm ne)]; exact hx
  have r1 : RS ⟨K, a, H1, Hs, fun _ => False⟩ Hs (ds.map .sh ++ List.replicate k .no) (us.map some ++ List.replicate k none) (upd (upd H1 dx (.own x)) x (.ins (He.ga K c) dx [])) := (r0.side hdx).side hx'
  have ax : a ≠ some x := r0.fresh_a hx
  have adx : a ≠ some dx := r0.fresh_a hdx
  have e1 : L2.start N (.ref x :: us) = some (.ref x) :: (us.map some ++ List.replicate k none) := by
    unfold L2.start
    rw [List.map_cons, List.length_cons, hN, hl, show n + 1 + k - (n + 1) = k by omega]
    rfl
  have nold : ∀ (j : Nat) (e : En), (ds.map En.sh ++ List.replicate k .no)[j]? = some e → e.own = false := fun j e he => by
    by_cases h : j < ds.length
    · rw [List.getElem?_append_left (by rw [List.length_map]; exact h), List.getElem?_map, List.getElem?_eq_getElem h] at he
      cases he
      rfl
    · rw [List.getElem?_append_right (by rw [List.length_map]; omega), List.length_map, List.getElem?_replicate] at he
      split at he
      · cases he
        rfl
      · cases he
  have r2 : RS ⟨K, a, H1, Hs, fun _ => False⟩ Hs (.oo c x dx [] :: (ds.map .sh ++ List.replicate k .no)) (some (.ref x) :: (us.map some ++ List.replicate k none)) (upd (upd H1 dx (.own x)) x (.ins (He.ga K c) dx [])) := by
    refine ⟨congrArg (· + 1) r1.len, r1.fr, r1.sh, r1.sh0, r1.new, r1.hd, r1.hd0, fun i e he => ?_, fun i j p e e' hij he he' o o' hs hs' => ?_⟩
    · cases i with
      | zero =>
        cases he
        exact ⟨[], rfl, upd_same, by rw [upd_ne ne, upd_same], .nil, hx, r0.fresh_s hx, ax, r0.fresh_s hdx, adx⟩
      | succ i => exact r1.en i e he
    · cases i with
      | zero =>
        cases j with
        | zero => exact hij rfl
        | succ j => rw [nold j e' he'] at o'; cases o'
      | succ i => rw [nold i e he] at o; cases o
  rw [e1]
  refine (ht ⟨K, a, H1, Hs, fun _ => False⟩ rfl fun _ z => z).run Hs _ _ _ _ (fun _ => False) _ (fun _ z => z) r2 (w x dx) ⟨fun ρ' σ' Hs' H' w' s' r' => ?_, fun _ _ _ _ _ _ z => z.elim, fun _ _ _ _ z => z.elim, fun _ _ _ _ z => z.elim⟩
  obtain ⟨fs, e2, hq⟩ := w'
  obtain ⟨vs, ev, h1, h2, h3, h4, h5, h6, h7, h8⟩ := r'.en 0 _ e2
  refine kk fs vs Hs' H' hq ⟨s', r'.fr, fun b o hb => ?_⟩ r'.sh r'.hd h1 h2 h3 h5 h7
  rcases r'.new b o hb with z | z
  · exact .inl z
  · exact .inr ⟨z, fun e => r'.hd0 b e z⟩
/-- C(..) of such a class -/
def eMake (c : Str) (m : MI) (g : MA) : ME := fun ρ q qe => g ρ (fun ds => m ds (fun fs => q (.obj c fs)) qe) qe
theorem dt_make {C : Ctx} {c : Str} {n : Nat} {m : MI} {t : TA} {g : MA} (hW : ∀ x, ¬ C.W x) (h : DAn C n t g) : DT C (tMake (He.ga C.K c) (spInit C.K c n m) [] E0 t) (eMake c m g) := by
  refine ⟨fun Hs ρ σ H q qe Q l r w k => ?_⟩
  have e : qe = fun _ => False := by
    funext x
    exact propext ⟨fun h => hW x (l x h), fun h => h.elim⟩
  subst e
  refine h.run Hs ρ σ H _ _ _ l r w fun ds vs Hs1 H1 w1 g1 r1 p1 hl x dx hx hdx ne => ?_
  rw [List.append_nil]
  refine ⟨C.a, Hs1, H1, x, dx, vs, ds, fun fs => q (.obj c fs), rfl, hl, rfl, hx, hdx, ne, r1.sh, r1.hd, p1, w1, fun fs fs' Hs2 H2 hq g2 s2 h2 hX hD hF nX nD => ⟨rfl, ?_⟩⟩
  have ax := r1.fresh_a hx
  have ad := r1.fresh_a hdx
  have r2 := r1.grow g2 s2 h2
  have nX2 : (upd Hs2 dx (.own x)) x = none := by rw [upd_ne (Ne.symm ne)]; exact nX
  have sm : Same Hs2 (upd (upd Hs2 dx (.own x)) x (.ins (He.ga C.K c) dx fs')) := (same_upd nD).trans (same_upd nX2)
  have gg : Gr C.a Hs1 H1 (upd (upd Hs2 dx (.own x)) x (.ins (He.ga C.K c) dx fs')) H2 := ⟨g2.s.trans sm, g2.b, fun b o hb => by
    by_cases z : b = x
    · rw [z]; exact .inr ⟨hx, ax⟩
    · rw [upd_ne z] at hb
      by_cases y : b = dx
      · rw [y]; exact .inr ⟨hdx, ad⟩
      · rw [upd_ne y] at hb
        exact g2.n b o hb⟩
  have s3 : Same (upd (upd Hs2 dx (.own x)) x (.ins (He.ga C.K c) dx fs')) H2 := fun b o hb => by
    by_cases z : b = x
    · subst z
      rw [upd_same] at hb
      cases hb
      exact hX
    · rw [upd_ne z] at hb
      by_cases y : b = dx
      · subst y
        rw [upd_same] at hb
        cases hb
        exact hD
      · rw [upd_ne y] at hb
        exact s2 b o hb
  have h3 : HandOk C.a (upd (upd Hs2 dx (.own x)) x (.ins (He.ga C.K c) dx fs')) H2 := fun y e => by
    obtain ⟨a1, cc, i1, b1, s1, n1, cells, a2, a3, a4⟩ := h2 y e
    refine ⟨?_, cc, i1, b1, s1, n1, cells, a2, sm _ _ a3, a4⟩
    rw [upd_ne fun z => ax (by rw [← z]; exact e), upd_ne fun z => ad (by rw [← z]; exact e)]
    exact a1
  exact k (.obj c fs) (.ref x) _ H2 hq (g1.trans gg) (r1.grow gg s3 h3) (.obj upd_same (by rw [upd_ne ne, upd_same]) (hF.mono sm))
/-- a class that may be made -/
structure Mak (P : Program) (w : World) (K : PySem.W.Frag) (mg : Str → Option Value) (base : Heap) (k : Nat) (c : Str) (n : Nat) (m : MI) : Prop where
  ex : ∃ f fd ps, Mk K (He.ga K c) f ∧ FnOk P w K mg base CX0 k f fd ps (spInit K c n m) ∧ Binds K fd ps []
  g : mg c = some (.ref (He.ga K c))
theorem pe_mak {X : Cx} {k n : Nat} {m : MI} {c : Str} {p pos : Pos} {e : Expr} {es : List Expr} {t : TA} (cc : Mak X.prog X.w X.K X.mg X.base k c n m) (hr : Room (k + 1) X.A) (hg : Gl X c) (ha : PA X (e :: es) t)
    (hdb : (c == ("__debug__" : Str)) = false := by decide) (he : starEach (e :: es) X.env = (false, eval e X.env) :: starEach es X.env := by rfl) (hpl : (backTo pos (starEach es X.env)).any (·.1) = false := by rfl) :
    PE X (.Call (.Name c p) (e :: es) [] pos) (tMake (He.ga X.K c) (spInit X.K c n m) [] E0 t) := by
  obtain ⟨f, fd, ps, M, F, b⟩ := cc.ex
  exact pe_make M F hr hg cc.g b .nil pass0 ha hdb he hpl
theorem mak_of {P : Program} {w : World} {K : PySem.W.Frag} {mg : Str → Option Value} {base : Heap} {c q : Str} {fa : Addr} {st : Stmt} {N ps : List Str} {n k j : Nat} {f : MS}
    (M : Mk K (He.ga K c) fa) (F : ∃ fd, FunD K "__init__" q (defArgs st) (defBody st) (defScope st) [] [] fa fd) (g : mg c = some (.ref (He.ga K c))) (S : FnScope N ps (defScope st)) (hn : ps.length = n + 1) (hN : N.length = n + 1 + j)
    (hb : ∀ (cdv : Value) (A : Around) (outer : List Env) (s : Shared) (H : Hp) (E : XK), Room k (A.deeper (PyProof.Rows.envOfC q (defScope st) s.heap.objs.size fa cdv)) →
      ∃ t, PSs (cxOf CX0 P w K mg base N q (defScope st) fa cdv A outer s H E).nox (defBody st) t ∧ ∀ C : Ctx, C.K = K → (∀ x, ¬ C.W x) → DS C t f)
    (bd : ∀ (kV doc pm : Value) (an : Option Addr) (cdv ct : Value) (us : List Value), us.length = ps.length → bindArgs (PySem.W.fnOf "__init__" q (defArgs st) (defBody st) (defScope st) .none kV doc pm an cdv ct) ⟨us, []⟩ = pure (ps.zip us)) :
    Mak P w K mg base (k + 1) c n (mInit c j f) := by
  obtain ⟨fd, F⟩ := F
  refine ⟨⟨fa, fd, ps, M, F.ok S (fun vs H Q E h => ?_) (fun cdv A outer s H vs Q E hr h => ?_), F.bindsN bd⟩, g⟩
  · obtain ⟨a, Hs, H1, x, dx, us, ds, q, rfl, hl, _⟩ := h
    rw [List.length_cons, hl, hn]
  · obtain ⟨t, h1, h2⟩ := hb cdv A outer s H E hr
    exact ⟨t, h1.nox, init_ok hN h2 h⟩
end Fd
/-! the hand that draws numbers; the law -/
namespace Fd
open PySem PySem.Spec L2
section
variable {C : Ctx}
/-- hand[j] = e -/
def sSetH (i : Nat) (fj fe : ME) : MS := fun ρ sq qe => fe ρ (fun d => match ρ[i]? with
  | some (.oh p ds) => fj ρ (fun j => match j with
    | .int j => (match ixN ds.length j with
      | some n => sq.nx (ρ.set i (.oh p (ds.set n d)))
      | none => False)
    | _ => False) qe
  | _ => False) qe
theorem ds_setH {i : Nat} {tj te : TE} {fj fe : ME} (hj : DT C tj fj) (he : DT C te fe) : DS C (tAsg te (gSub (tVar i) tj rSetL)) (sSetH i fj fe) := by
  refine ⟨fun Hs ρ σ H sq qe E l r w k => he.run Hs ρ σ H _ qe _ l r w fun d v Hs1 H1 w1 g1 r1 p1 => ?_⟩
  split at w1
  · rename_i p ds e
    obtain ⟨vs, ev, h1, h2, h3, h4, h5⟩ := r1.en i _ e
    refine ⟨_, ev, hj.run Hs1 ρ σ H1 _ qe _ l r1 w1 fun j vj Hs2 H2 w2 g2 r2 p2 => ?_⟩
    split at w2
    · split at w2
      · rename_i n en
        cases p2
        obtain ⟨vs', ev', h1', h2', h3', h4', h5'⟩ := r2.en i _ e
        refine ⟨p, vs', _, n, rfl, rfl, h1', by rw [← h2'.length]; exact en, ?_⟩
        exact k.nx _ _ Hs2 _ w2 (g1.s.trans g2.s) (r2.change e rfl ev h3' h4' h5' ⟨_, rfl, upd_same, RepL.set (p1.mono g2.s) n h2', h3', h4', h5'⟩)
      · exact w2.elim
    · exact w2.elim
  · exact w1.elim
end
/-- a draw: any number below -/
def mDraw : M := fun ds q _ => match ds with
  | [.hand, .int k] => (0 < k ∧ k < 1073741824) ∧ ∀ j : Int, 0 ≤ j → j < k → q (.int j)
  | _ => False
/-- the hand's five items -/
def handD (cells : List Int) (i b s n : Int) : List D := [.lst (cells.map .int), .int i, .int b, .int s, .int n]
def HandEnd (x : Addr) (k : Int) (ρ : List En) (d : D) : Prop := (∃ j, d = .int j ∧ 0 ≤ j ∧ j < k) ∧ ∃ cells i b s n, ρ[0]? = some (.oh x (handD cells i b s n)) ∧ 0 ≤ i ∧ cells.length ≤ 63
theorem draw_ok {K : PySem.W.Frag} {t : TS} {f : MS} {j : Nat} {N : List Str} {vs : List V} {H : Hp} {Q : VK} {E : XK} (hN : N.length = 2 + j) (ht : ∀ C : Ctx, C.K = K → (∀ x, ¬ C.W x) → DS C t f)
    (hf : ∀ (x : Addr) (cells : List Int) (i b s n k : Int), 0 ≤ i → cells.length ≤ 63 → 0 < k → k < 1073741824 →
      f (.oh x (handD cells i b s n) :: .sh (.int k) :: List.replicate j .no) ⟨fun _ => False, HandEnd x k, fun _ => False, fun _ => False⟩ (fun _ => False))
    (h : spOf K 2 mDraw vs H Q E) : t { nx := fun _ H' => Q .non H', rt := Q } (L2.start N vs) H := by
  obtain ⟨a, Hs, ds, q, hl, s, hd, r, w, kk⟩ := h
  unfold mDraw at w
  split at w
  · rename_i k
    obtain ⟨⟨k0, k1⟩, w⟩ := w
    cases r with
    | cons r1 r =>
      cases r with
      | cons r2 r =>
        cases r
        cases r2
        cases r1 with
        | hand ea =>
          rename_i x
          obtain ⟨hx, c, i, b, z, n, cells, h1, h2, h3, h4⟩ := hd x ea
          have est : L2.start N [V.ref x, V.int k] = some (.ref x) :: some (.int k) :: List.replicate j none := by
            unfold L2.start
            rw [hN]
            show _ = [some (V.ref x), some (V.int k)] ++ List.replicate j none
            rw [show 2 + j - [V.ref x, V.int k].length = j by show 2 + j - 2 = j; omega]
            rfl
          rw [est]
          have cx : c ≠ x := fun z => by
            rw [z, hx] at h2
            cases h2
          have rs : RS ⟨K, none, fun b => if b = x then none else H b, Hs, fun _ => False⟩ Hs (.oh x (handD cells i b z n) :: .sh (.int k) :: List.replicate j .no) (some (.ref x) :: some (.int k) :: List.replicate j none) H := by
            refine ⟨by simp, fun b' o _ hb => ?_, s, Same.refl _, fun b' o hb => .inl hb, fun y e => (by cases e), fun y e => (by cases e), fun m e he => ?_, fun m m' p e e' hm he he' o o' hs hs' => ?_⟩
            · have hb2 : (if b' = x then none else H b') = some o := hb
              split at hb2
              · cases hb2
              · exact hb2
            · cases m with
              | zero =>
                cases he
                exact ⟨_, rfl, h1, .cons (.lst h2 (RepL.ofInts _)) (.cons (.int _) (.cons (.int _) (.cons (.int _) (.cons (.int _) .nil)))), (by show (if x = x then none else H x) = none; rw [if_pos rfl]), hx, fun z => by cases z⟩
              | succ m =>
                cases m with
                | zero =>
                  cases he
                  exact ⟨_, rfl, .int _⟩
                | succ m =>
                  have he2 : (List.replicate j En.no)[m]? = some e := he
                  rw [List.getElem?_replicate] at he2
                  split at he2
                  · cases he2; trivial
                  · cases he2
            · have no : ∀ (m : Nat) (e : En), m ≠ 0 → (En.oh x (handD cells i b z n) :: En.sh (.int k) :: List.replicate j En.no)[m]? = some e → e.own = false := fun m e hm he => by
                cases m with
                | zero => exact absurd rfl hm
                | succ m =>
                  cases m with
                  | zero => cases he; rfl
                  | succ m =>
                    have he2 : (List.replicate j En.no)[m]? = some e := he
                    rw [List.getElem?_replicate] at he2
                    split at he2
                    · cases he2; rfl
                    · cases he2
              by_cases y : m = 0
              · rw [no m' e' (fun y' => hm (y.trans y'.symm)) he'] at o'
                cases o'
              · rw [no m e y he] at o
                cases o
          refine (ht _ rfl fun _ z => z).run Hs _ _ H _ (fun _ => False) _ (fun _ z => z) rs (hf x cells i b z n k h3 h4 k0 k1) ⟨fun _ _ _ _ z => z.elim, fun d v ρ' σ' Hs' H' w' s' r' p' => ?_, fun _ _ _ _ z => z.elim, fun _ _ _ _ z => z.elim⟩
          obtain ⟨⟨jj, rfl, j0, j1⟩, cells', i', b', s2, n', e0, i0, cl⟩ := w'
          cases p'
          obtain ⟨us, ev, q1, q2, q3, q4, q5⟩ := r'.en 0 _ e0
          have sb : SB a H H' := fun b o nb hb => by
            have z : b ≠ x := fun z => nb (by rw [z]; exact ea)
            exact r'.fr b o (by intro z; cases z) (by show (if b = x then none else H b) = some o; rw [if_neg z]; exact hb)
          have new : ∀ b o, Hs' b = some o → Hs b = some o ∨ (H b = none ∧ a ≠ some b) := fun b o hb => by
            have nbx : b ≠ x := fun z => by
              rw [z, q4] at hb
              cases hb
            rcases r'.new b o hb with z | z
            · exact .inl z
            · have z2 : (if b = x then none else H b) = none := z
              rw [if_neg nbx] at z2
              exact .inr ⟨z2, fun e => nbx (by rw [ea] at e; cases e; rfl)⟩
          refine kk (.int jj) (.int jj) Hs' H' (w jj j0 j1) ⟨s', sb, new⟩ r'.sh (fun y ey => ?_) (.int jj)
          rw [ea] at ey
          cases ey
          cases q2 with
          | cons p1 q2 => cases q2 with
            | cons p2 q2 => cases q2 with
              | cons p3 q2 => cases q2 with
                | cons p4 q2 => cases q2 with
                  | cons p5 q2 =>
                    cases q2
                    cases p2
                    cases p3
                    cases p4
                    cases p5
                    cases p1 with
                    | lst p1 p6 =>
                      obtain rfl := p6.ints
                      exact ⟨q4, _, i', b', s2, n', cells', q1, p1, i0, cl⟩
  · exact w.elim
theorem cal_draw {P : Program} {w : World} {K : PySem.W.Frag} {mg : Str → Option Value} {base : Heap} {x : Str} {st : Stmt} {N ps : List Str} {k j : Nat} {f : MS}
    (F : ∃ fd, FunD K x x (defArgs st) (defBody st) (defScope st) [] [] (He.ga K x) fd) (g : mg x = some (.ref (He.ga K x))) (S : FnScope N ps (defScope st)) (hn : ps.length = 2) (hN : N.length = 2 + j)
    (hb : ∀ (cdv : Value) (A : Around) (outer : List Env) (s : Shared) (H : Hp) (E : XK), Room k (A.deeper (PyProof.Rows.envOfC x (defScope st) s.heap.objs.size (He.ga K x) cdv)) →
      ∃ t, PSs (cxOf CX0 P w K mg base N x (defScope st) (He.ga K x) cdv A outer s H E).nox (defBody st) t ∧ ∀ C : Ctx, C.K = K → (∀ x, ¬ C.W x) → DS C t f)
    (hf : ∀ (x : Addr) (cells : List Int) (i b s n k : Int), 0 ≤ i → cells.length ≤ 63 → 0 < k → k < 1073741824 →
      f (.oh x (handD cells i b s n) :: .sh (.int k) :: List.replicate j .no) ⟨fun _ => False, HandEnd x k, fun _ => False, fun _ => False⟩ (fun _ => False))
    (bd : ∀ (kV doc pm : Value) (an : Option Addr) (cdv ct : Value) (us : List Value), us.length = ps.length → bindArgs (PySem.W.fnOf x x (defArgs st) (defBody st) (defScope st) .none kV doc pm an cdv ct) ⟨us, []⟩ = pure (ps.zip us)) :
    Cal P w K mg base (k + 1) x 2 mDraw := by
  obtain ⟨fd, F⟩ := F
  refine ⟨⟨fd, ps, F.ok S (fun vs H Q E h => ?_) (fun cdv A outer s H vs Q E hr h => ?_), F.bindsN bd⟩, F.kp, g⟩
  · obtain ⟨a, Hs, ds, q, hl, _⟩ := h
    rw [hl, hn]
  · obtain ⟨t, h1, h2⟩ := hb cdv A outer s H E hr
    exact ⟨t, h1.nox, draw_ok hN h2 hf h⟩

/-! ### the law -/
def spLaw (K : PySem.W.Frag) : Sp := fun vs H Q _ => ∃ (p : Addr) (ns : List Int), vs = [.ref p] ∧ ns.length ≤ 63 ∧ SqL K H p (ns.map V.int) ∧ ∀ H', Q (.bl true) H'
/-- hand = hand(script), then the rest over such a hand -/
theorem law_ok {K : PySem.W.Frag} {m : M} {t : TS} {f : MS} {i j : Nat} {N : List Str} {vs : List V} {H : Hp} {Q : VK} {E : XK} (hN : N.length = 1 + j) (hi : 0 < i)
    (hm : ∀ ns : List Int, ns.length ≤ 63 → m [.scr ns] (fun d => ∃ cells s, d = .lst (handD cells 0 0 s 0) ∧ cells.length ≤ 63) (fun _ => False))
    (ht : ∀ C : Ctx, C.K = K → (∀ x, ¬ C.W x) → DS C t f)
    (hf : f ((List.replicate (1 + j) .no).set i (.sh .hand)) ⟨fun _ => False, fun _ d => d = .bl true, fun _ => False, fun _ => False⟩ (fun _ => False))
    (h : spLaw K vs H Q E) : tSeq (tAsg (tCall (spOf K 1 m) [] E0 (tCons (tVar 0) tNil)) (gName i)) t { nx := fun _ H' => Q .non H', rt := Q } (L2.start N vs) H := by
  obtain ⟨p, ns, rfl, hl, hp, hQ⟩ := h
  have est : L2.start N [V.ref p] = some (.ref p) :: List.replicate j none := by
    unfold L2.start
    rw [hN, show 1 + j - [V.ref p].length = j by show 1 + j - 1 = j; omega]
    rfl
  rw [est]
  refine ⟨.ref p, rfl, none, H, [.scr ns], _, rfl, Same.refl _, fun y e => (by cases e), .cons (.scr hp) .nil, hm ns hl, fun d v Hs' H' hq g s hd rp => ?_⟩
  obtain ⟨cells, sd, rfl, hc⟩ := hq
  cases rp with
  | lst hx rl =>
    rename_i x us
    cases rl with
    | cons p1 rl => cases rl with
      | cons p2 rl => cases rl with
        | cons p3 rl => cases rl with
          | cons p4 rl => cases rl with
            | cons p5 rl =>
              cases rl
              cases p2
              cases p3
              cases p4
              cases p5
              cases p1 with
              | lst hcc p6 =>
                rename_i c vs
                obtain rfl := p6.ints
                have ncx : c ≠ x := fun z => by
                  rw [z, hx] at hcc
                  injection hcc with hcc
                  injection hcc with hcc
                  cases cells with
                  | nil => cases hcc
                  | cons k r =>
                    rw [List.map_cons] at hcc
                    injection hcc with z1 _
                    cases z1
                have rs : RS ⟨K, some x, H', fun b => if b = c then some (.lst (cells.map V.int)) else none, fun _ => False⟩ (fun b => if b = c then some (.lst (cells.map V.int)) else none)
                    ((List.replicate (1 + j) En.no).set i (.sh .hand)) ((some (.ref p) :: List.replicate j none).set i (some (.ref x))) H' := by
                  refine ⟨by simp; omega, SB.refl, fun b o hb => ?_, Same.refl _, fun b o hb => .inl hb, fun y e => ?_, fun y e => ?_, fun m e he => ?_, fun m m' q e e' hm he he' o o' _ _ => ?_⟩
                  · have hb2 : (if b = c then some (HO.lst (cells.map V.int)) else none) = some o := hb
                    split at hb2
                    · rename_i z
                      rw [← hb2, z]
                      exact s _ _ hcc
                    · cases hb2
                  · cases e
                    refine ⟨?_, c, 0, 0, sd, 0, cells, s _ _ hx, ?_, Int.le_refl _, hc⟩
                    · show (if x = c then _ else none) = none
                      rw [if_neg (Ne.symm ncx)]
                    · show (if c = c then _ else none) = _
                      rw [if_pos rfl]
                  · cases e
                    show H' x ≠ none
                    rw [s _ _ hx]
                    exact fun z => by cases z
                  · by_cases z : i = m
                    · subst z
                      have hlm : i < (List.replicate (1 + j) En.no).length := by
                        have q := (List.getElem?_eq_some_iff.mp he).1
                        rwa [List.length_set] at q
                      rw [List.getElem?_set_self hlm] at he
                      cases he
                      rw [List.length_replicate] at hlm
                      rw [List.getElem?_set_self (by simp; omega)]
                      exact ⟨_, rfl, .hand rfl⟩
                    · rw [List.getElem?_set_ne z, List.getElem?_replicate] at he
                      split at he
                      · cases he; trivial
                      · cases he
                  · have no : ∀ (m : Nat) (e : En), ((List.replicate (1 + j) En.no).set i (.sh .hand))[m]? = some e → e.own = false := fun m e he => by
                      by_cases z : i = m
                      · subst z
                        have hlm : i < (List.replicate (1 + j) En.no).length := by
                          have q := (List.getElem?_eq_some_iff.mp he).1
                          rwa [List.length_set] at q
                        rw [List.getElem?_set_self hlm] at he
                        cases he
                        rfl
                      · rw [List.getElem?_set_ne z, List.getElem?_replicate] at he
                        split at he
                        · cases he; rfl
                        · cases he
                    rw [no m e he] at o
                    cases o
                refine (ht _ rfl fun _ z => z).run _ _ _ H' _ (fun _ => False) _ (fun _ z => z) rs hf ⟨fun _ _ _ _ z => z.elim, fun d v ρ' σ' Hs2 H2 w' s' r' p' => ?_, fun _ _ _ _ z => z.elim, fun _ _ _ _ z => z.elim⟩
                have w2 : d = .bl true := w'
                subst w2
                cases p'
                exact hQ H2
end Fd
namespace Fd
open PySem PySem.Spec L2
/-! ### short words for the printed proofs -/
abbrev tTru (K : PySem.W.Frag) (t : TE) : TT := fun σ H Q => t σ H fun x H' => ∃ k, TruV K x H' k ∧ Q k H'
theorem pt_tru {X : Cx} {a : Expr} {t : TE} (h : PE X a t) (he : ∀ whole, isTrue a X.env whole = (do let v ← whole; standAt a.pos; holding [v] (truthy v)) := by intro _; rfl) : PT X a (tTru X.K t) := pt_truth h he
theorem pe_gint {X : Cx} {x : Str} {i : Int} {pos : Pos} (hg : Gl X x) (h : ∃ t, X.mg x = some (.int i t)) (hd : (x == ("__debug__" : Str)) = false := by decide) : PE X (.Name x pos) (tC (.int i)) := by
  obtain ⟨t, h⟩ := h
  exact pe_glob hg h ⟨_, rfl⟩ hd
theorem sl_anyX {X : Cx} : SlR X (rSlAny X.K) := SlR.or (SlR.or sl_list sl_tupA) C8.sl_txt
theorem bt_len : bootBuiltins "len" = some (.builtin "len") := PySem.boot_len
theorem bt_sum : bootBuiltins "sum" = some (.builtin "sum") := by decide +kernel
theorem bt_max : bootBuiltins "max" = some (.builtin "max") := by decide +kernel
theorem bt_min : bootBuiltins "min" = some (.builtin "min") := by decide +kernel
theorem bt_all : bootBuiltins "all" = some (.builtin "all") := by decide +kernel
theorem bt_any : bootBuiltins "any" = some (.builtin "any") := by decide +kernel
theorem bt_abs : bootBuiltins "abs" = some (.builtin "abs") := by decide +kernel
theorem bt_isinstance : bootBuiltins "isinstance" = some (.builtin "isinstance") := by decide +kernel
theorem bt_sorted : bootBuiltins "sorted" = some (.builtin "sorted") := by decide +kernel
theorem bt_int : bootBuiltins "int" = some (.type "int") := by decide +kernel
theorem bt_bool : bootBuiltins "bool" = some (.type "bool") := by decide +kernel
theorem bt_str : bootBuiltins "str" = some (.type "str") := by decide +kernel
theorem bt_list : bootBuiltins "list" = some (.type "list") := by decide +kernel
theorem bt_tuple : bootBuiltins "tuple" = some (.type "tuple") := by decide +kernel
theorem bt_dict : bootBuiltins "dict" = some (.type "dict") := by decide +kernel
theorem bt_set : bootBuiltins "set" = some (.type "set") := by decide +kernel
end Fd
/-! swapped stores; zip of shared lists -/
namespace Fd
open PySem PySem.Spec L2
theorem tPar2_eq (i j : Nat) (ta : TA) : tPar i j ta = tParN [i, j] ta := by
  funext D σ H
  show ta σ H _ = ta σ H _
  congr 1
  funext vs H1
  refine propext ⟨fun ⟨v, w, e, h⟩ => by subst e; exact ⟨rfl, h⟩, fun ⟨l, h⟩ => ?_⟩
  match vs, l, h with
  | [v, w], _, h => exact ⟨v, w, rfl, h⟩
theorem tPar3_eq (i j l : Nat) (ta : TA) : tPar3 i j l ta = tParN [i, j, l] ta := by
  funext D σ H
  show ta σ H _ = ta σ H _
  congr 1
  funext vs H1
  refine propext ⟨fun ⟨u, v, w, e, h⟩ => by subst e; exact ⟨rfl, h⟩, fun ⟨l, h⟩ => ?_⟩
  match vs, l, h with
  | [u, v, w], _, h => exact ⟨u, v, w, rfl, h⟩
section
variable {X : Cx}
theorem ps_par2 {i j : Nat} {x y : Str} {a b : Expr} {ta : TA} {px py pt pos : Pos} {kt k2 pt2} (hc : X.calm = true) (hN : X.N.Nodup) (hi : X.N[i]? = some x) (hj : X.N[j]? = some y) (hij : i ≠ j)
    (hx : X.env.scope.names.lookup x = some .local) (hy : X.env.scope.names.lookup y = some .local) (ha : PA X [a, b] ta)
    (hw : swappedStores [.Tuple [.Name x px, .Name y py] kt pt] (.Tuple [a, b] k2 pt2) X.env = pure (some [x, y]))
    (hs : swapsWithSole [.Tuple [.Name x px, .Name y py] kt pt] (.Tuple [a, b] k2 pt2) pos.line X.env = pure false := by rfl) :
    PS X (.Assign [.Tuple [.Name x px, .Name y py] kt pt] (.Tuple [a, b] k2 pt2) pos) (tParN [i, j] ta) := by
  rw [← tPar2_eq]
  exact ps_par hc hN hi hj hij hx hy ha hw hs
theorem ps_parT {i j l : Nat} {x y z : Str} {a b c : Expr} {ta : TA} {px py pz pt pos : Pos} {kt k2 pt2} (hc : X.calm = true) (hN : X.N.Nodup) (hi : X.N[i]? = some x) (hj : X.N[j]? = some y) (hl : X.N[l]? = some z) (hd : i ≠ j ∧ i ≠ l ∧ j ≠ l)
    (hx : X.env.scope.names.lookup x = some .local) (hy : X.env.scope.names.lookup y = some .local) (hz : X.env.scope.names.lookup z = some .local) (ha : PA X [a, b, c] ta)
    (hw : swappedStores [.Tuple [.Name x px, .Name y py, .Name z pz] kt pt] (.Tuple [a, b, c] k2 pt2) X.env = pure (some [x, y, z]))
    (hs : swapsWithSole [.Tuple [.Name x px, .Name y py, .Name z pz] kt pt] (.Tuple [a, b, c] k2 pt2) pos.line X.env = pure false := by rfl) :
    PS X (.Assign [.Tuple [.Name x px, .Name y py, .Name z pz] kt pt] (.Tuple [a, b, c] k2 pt2) pos) (tParN [i, j, l] ta) := by
  rw [← tPar3_eq]
  exact ps_par3 hc hN hi hj hl hd.1 hd.2.1 hd.2.2 hx hy hz ha hw hs
end
section
variable {C : Ctx}
theorem sqK_sh {Hs : Hp} {d : D} {v : V} {xs : List D} (p : Rep C.K C.a Hs d v) (e : d = .lst xs ∨ d = .tup xs) :
    ∃ b a vs, v = .ref a ∧ RepL C.K C.a Hs xs vs ∧ (∀ H', Same Hs H' → SqK b C.K H' a vs) := by
  rcases e with e | e
  · subst e
    cases p with
    | lst h1 h2 => exact ⟨true, _, _, rfl, h2, fun H' s' => SqL.of (s' _ _ h1)⟩
  · subst e
    cases p with
    | tup h1 h2 => exact ⟨false, _, _, rfl, h2, fun H' s' => same_sqT s' h1⟩
theorem di_zip {t u : TE} {f g : ME} (h : DT C t f) (h' : DT C u g) : DI C (iZipK C.K t u) (fZip f g) := by
  refine ⟨fun Hs ρ σ H q qe R l r w k => ?_⟩
  refine h.run Hs ρ σ H _ qe _ l r w fun d v Hs1 H1 w1 g1 r1 p1 => ?_
  refine h'.run Hs1 ρ σ H1 _ qe _ l r1 w1 fun e u Hs2 H2 w2 g2 r2 p2 => ?_
  split at w2
  · rename_i xs ys ex ey
    obtain ⟨b, a, vs, ev, rl, hk⟩ := sqK_sh (p1.mono g2.s) (items_eq ex)
    obtain ⟨c, a', vs', ev', rl', hk'⟩ := sqK_sh p2 (items_eq ey)
    refine ⟨b, c, a, a', vs, vs', ev, ev', hk H2 r2.sh, hk' H2 r2.sh, k _ _ Hs2 H2 w2 (g1.trans g2) r2 ⟨fun i Hs3 ρ3 σ3 H3 s r3 hi => ?_, fun i Hs3 ρ3 σ3 H3 s r3 hi => ?_, fun i Hs3 ρ3 σ3 H3 x y H' s r3 hx hy => ?_⟩⟩
    · rw [zipD_length, rl.length, rl'.length] at hi
      have h1 : i < vs.length := by omega
      have h2 : i < vs'.length := by omega
      exact ⟨vs, vs', vs[i], vs'[i], hk H3 (s.trans r3.sh), hk' H3 (s.trans r3.sh), List.getElem?_eq_getElem h1, List.getElem?_eq_getElem h2⟩
    · rw [zipD_length, rl.length, rl'.length] at hi
      exact ⟨vs, vs', hk H3 (s.trans r3.sh), hk' H3 (s.trans r3.sh), by omega, by omega, by omega⟩
    · obtain ⟨T, z1, z2, rfl, hT, rfl, hz1, hz2⟩ := hy
      obtain ⟨x1, x2, e1, e2, rfl⟩ := zipD_get hx
      obtain ⟨y1, f1, ry1⟩ := rl.get (hz1 vs (hk H3 (s.trans r3.sh)))
      obtain ⟨y2, f2, ry2⟩ := rl'.get (hz2 vs' (hk' H3 (s.trans r3.sh)))
      rw [e1] at f1
      rw [e2] at f2
      cases f1
      cases f2
      have sm := same_upd (o := .tup [z1, z2]) (r3.fresh_s hT)
      exact ⟨_, r3.gr_new hT, r3.alloc hT, .tup (SqT.of upd_same) (.cons ((ry1.mono s).mono sm) (.cons ((ry2.mono s).mono sm) .nil))⟩
  · exact w2.elim
end
end Fd
namespace Fd
open PySem PySem.Spec L2
theorem dsK {K : PySem.W.Frag} {t : TS} {f : MS} (h : ∀ (a : Hd) (h0 hs0 : Hp) (W : EX → Prop), (∀ x, ¬ W x) → DS ⟨K, a, h0, hs0, W⟩ t f) (C : Ctx) (hK : C.K = K) (hW : ∀ x, ¬ C.W x) : DS C t f := by
  subst hK
  exact h C.a C.H0 C.Hs0 C.W hW
end Fd
namespace Fd
open PySem PySem.Spec L2
abbrev rTupleOf (K : PySem.W.Frag) : List V → Hp → VK → Prop := fun xs H Q => ∃ p ys, xs = [V.ref p] ∧ ((SqL K H p ys ∧ ∀ l, H l = none → Q (.ref l) (upd H l (.tup ys))) ∨ (SqT K H p ys ∧ Q (.ref p) H))
abbrev rListOf (K : PySem.W.Frag) : List V → Hp → VK → Prop := fun xs H Q => ∃ p ys, xs = [V.ref p] ∧ (SqL K H p ys ∨ SqT K H p ys) ∧ ∀ l, H l = none → Q (.ref l) (upd H l (.lst ys))
abbrev rInt1 : List V → Hp → VK → Prop := fun xs H Q => (∃ i, xs = [V.int i] ∧ Q (.int i) H) ∨ ∃ k, xs = [V.bl k] ∧ Q (.int (if k then 1 else 0)) H
abbrev rAbs1 : List V → Hp → VK → Prop := fun xs H Q => ∃ i, xs = [V.int i] ∧ Q (.int (if i < 0 then -i else i)) H
section
variable {X : Cx}
theorem callA_tuple : CallR X (.type "tuple") (rTupleOf X.K) := call_tuple_of
theorem callA_list : CallR X (.type "list") (rListOf X.K) := call_list_of
theorem callA_int : CallR X (.type "int") rInt1 := call_int1
theorem callA_abs : CallR X (.builtin "abs") rAbs1 := call_abs
end
end Fd
/-! ### more new lists -/
namespace Fd
open PySem PySem.Spec L2
section
variable {C : Ctx}
abbrev O2F := D → D → (List D → Prop) → Prop
structure D2F (C : Ctx) (t : R2) (op : O2F) : Prop where
  run : ∀ Hs ρ σ H x y vx vy q Q, RS C Hs ρ σ H → RepB C.K C.a Hs H x vx → RepB C.K C.a Hs H y vy → op x y q →
    (∀ ds p vs Hs' H', q ds → Gr C.a Hs H Hs' H' → RS C Hs' ρ σ H' → H' p = none → RepL C.K C.a Hs' ds vs → Q (.ref p) (upd H' p (.lst vs))) → t vx vy H Q
def f2 (op : O2F) (fa fb : ME) : MA := fun ρ q qe => fa ρ (fun x => fb ρ (fun y => op x y q) qe) qe
theorem df_op {t : R2} {op : O2F} {ta tb : TE} {fa fb : ME} (h : D2F C t op) (ha : DB C ta fa) (hb : DB C tb fb) : DF C (tOp t ta tb) (f2 op fa fb) := by
  refine ⟨fun Hs ρ σ H q qe Q l r w k => ?_⟩
  refine ha.run Hs ρ σ H _ qe _ l r w fun x vx Hs1 H1 w1 g1 r1 p1 => ?_
  refine hb.run Hs1 ρ σ H1 _ qe _ l r1 w1 fun y vy Hs2 H2 w2 g2 r2 p2 => ?_
  exact h.run Hs2 ρ σ H2 x y vx vy q Q r2 (p1.mono g2.s g2.b) p2 w2 fun ds p vs Hs3 H3 e g3 r3 hp p3 => k ds p vs Hs3 H3 e (g1.trans (g2.trans g3)) r3 hp p3
def dMulF : O2F := fun x y q => match x, y with
  | .lst xs, .int k => (-(2 ^ 63) ≤ k ∧ k < 2 ^ 63 ∧ xs.length * k.toNat ≤ sizeLine) ∧ q (List.replicate k.toNat xs).flatten
  | _, _ => False
theorem d2f_mul : D2F C rMulX dMulF := by
  refine ⟨fun Hs ρ σ H x y vx vy q Q r px py w k => ?_⟩
  unfold dMulF at w
  split at w
  · obtain ⟨p, vs, rfl, h1, h2⟩ := px.lst r.sh
    cases py with
    | sh py =>
      cases py
      exact .inr ⟨p, _, vs, rfl, rfl, h1, w.1.1, w.1.2.1, by rw [← h2.length]; exact w.1.2.2, fun a ha => k _ a _ Hs H w.2 Gr.refl r ha (h2.rep _)⟩
  · exact w.elim
def dAddF : O2F := fun x y q => match x, y with
  | .lst xs, .lst ys => xs.length + ys.length ≤ sizeLine ∧ q (xs ++ ys)
  | _, _ => False
theorem d2f_add : D2F C (rAddX C.K) dAddF := by
  refine ⟨fun Hs ρ σ H x y vx vy q Q r px py w k => ?_⟩
  unfold dAddF at w
  split at w
  · obtain ⟨p, vs, rfl, h1, h2⟩ := px.lst r.sh
    obtain ⟨p', vs', rfl, h1', h2'⟩ := py.lst r.sh
    exact .inr (.inl ⟨p, p', vs, vs', rfl, rfl, h1, h1', by rw [← h2.length, ← h2'.length]; exact w.1, fun a ha => k _ a _ Hs H w.2 Gr.refl r ha (h2.append h2')⟩)
  · exact w.elim
def fSl (f : ME) (lo hi : MO) : MA := fun ρ q qe => f ρ (fun d => lo ρ (fun l => hi ρ (fun u => match d with
  | .lst xs => q (cutD xs l u)
  | _ => False) qe) qe) qe
theorem df_sl {t : TE} {tl th : TO} {f : ME} {lo hi : MO} (h : DB C t f) (hl : DO C tl lo) (hh : DO C th hi) : DF C (tSl (rSlAny C.K) t tl th) (fSl f lo hi) := by
  refine ⟨fun Hs ρ σ H q qe Q l r w k => ?_⟩
  refine h.run Hs ρ σ H _ qe _ l r w fun d v Hs1 H1 w1 g1 r1 p1 => ?_
  refine hl.run Hs1 ρ σ H1 _ qe _ l r1 w1 fun o Hs2 H2 w2 g2 r2 => ?_
  refine hh.run Hs2 ρ σ H2 _ qe _ l r2 w2 fun u Hs3 H3 w3 g3 r3 => ?_
  have p3 := (p1.mono g2.s g2.b).mono g3.s g3.b
  have g13 := g1.trans (g2.trans g3)
  split at w3
  · obtain ⟨p, vs, rfl, h1, h2⟩ := p3.lst r3.sh
    exact .inl (.inl ⟨p, vs, rfl, SqL.of h1, fun a ha => k _ a _ Hs3 H3 w3 g13 r3 ha (h2.cut o u)⟩)
  · exact w3.elim
end
end Fd
/-! the readings, computed -/
namespace Fd
open PySem PySem.Spec L2
/-! items -/
theorem atI_n {α : Type} (xs : List α) (n : Nat) : atI xs (n : Int) = xs[n]? := by
  unfold atI ixN
  rw [if_pos (by omega)]
  by_cases h : (n : Int) < (xs.length : Int)
  · rw [if_pos h, Option.bind_some, Int.toNat_natCast]
  · rw [if_neg h, Option.bind_none, List.getElem?_eq_none (by omega)]
theorem atI_0 {α : Type} (xs : List α) : atI xs 0 = xs[0]? := atI_n xs 0
theorem atI_1 {α : Type} (xs : List α) : atI xs 1 = xs[1]? := atI_n xs 1
theorem atI_2 {α : Type} (xs : List α) : atI xs 2 = xs[2]? := atI_n xs 2
theorem atI_3 {α : Type} (xs : List α) : atI xs 3 = xs[3]? := atI_n xs 3
theorem atI_4 {α : Type} (xs : List α) : atI xs 4 = xs[4]? := atI_n xs 4
theorem atI_5 {α : Type} (xs : List α) : atI xs 5 = xs[5]? := atI_n xs 5
theorem atI_6 {α : Type} (xs : List α) : atI xs 6 = xs[6]? := atI_n xs 6
theorem atI_7 {α : Type} (xs : List α) : atI xs 7 = xs[7]? := atI_n xs 7
theorem atI_8 {α : Type} (xs : List α) : atI xs 8 = xs[8]? := atI_n xs 8
theorem atI_9 {α : Type} (xs : List α) : atI xs 9 = xs[9]? := atI_n xs 9
theorem atI_m1 {α : Type} (xs : List α) : atI xs (-1) = xs.getLast? := by
  unfold atI ixN
  rw [if_neg (by omega), List.getLast?_eq_getElem?]
  by_cases h : (-(xs.length : Int)) ≤ -1
  · rw [if_pos h, Option.bind_some]
    congr 1
    omega
  · rw [if_neg h, Option.bind_none]
    have : xs = [] := List.eq_nil_of_length_eq_zero (by omega)
    subst this
    rfl
theorem ixN_nat (n k : Nat) (h : k < n) : ixN n (k : Int) = some k := by
  unfold ixN
  rw [if_pos (by omega), if_pos (by omega), Int.toNat_natCast]
theorem atI_map {α β : Type} (f : α → β) (xs : List α) (i : Int) : atI (xs.map f) i = (atI xs i).map f := by
  unfold atI
  rw [List.length_map]
  cases ixN xs.length i with
  | none => rfl
  | some j => rw [Option.bind_some, Option.bind_some, List.getElem?_map]
theorem ints_mapF {α : Type} (f : α → Int) (xs : List α) : D.ints (xs.map fun x => D.int (f x)) = some (xs.map f) := by
  induction xs with
  | nil => rfl
  | cons x xs ih => rw [List.map_cons, D.ints, ih]; rfl
theorem bools_mapF {α : Type} (f : α → Bool) (xs : List α) : D.bools (xs.map fun x => D.bl (f x)) = some (xs.map f) := by
  induction xs with
  | nil => rfl
  | cons x xs ih => rw [List.map_cons, D.bools, ih]; rfl
theorem rgD_0 (n : Nat) : rgD 0 (n : Int) = (List.range n).map fun i => D.int (i : Nat) := by
  unfold rgD
  rw [Int.sub_zero, Int.toNat_natCast]
  exact List.map_congr_left fun i _ => by rw [Int.zero_add]
theorem rgD_1 : rgD 0 1 = (List.range 1).map fun i => D.int (i : Nat) := rgD_0 1
theorem rgD_2 : rgD 0 2 = (List.range 2).map fun i => D.int (i : Nat) := rgD_0 2
theorem rgD_3 : rgD 0 3 = (List.range 3).map fun i => D.int (i : Nat) := rgD_0 3
theorem rgD_4 : rgD 0 4 = (List.range 4).map fun i => D.int (i : Nat) := rgD_0 4
theorem rgD_5 : rgD 0 5 = (List.range 5).map fun i => D.int (i : Nat) := rgD_0 5
theorem rgD_6 : rgD 0 6 = (List.range 6).map fun i => D.int (i : Nat) := rgD_0 6
theorem rgD_7 : rgD 0 7 = (List.range 7).map fun i => D.int (i : Nat) := rgD_0 7
theorem rgD_8 : rgD 0 8 = (List.range 8).map fun i => D.int (i : Nat) := rgD_0 8
theorem rgD_9 : rgD 0 9 = (List.range 9).map fun i => D.int (i : Nat) := rgD_0 9
theorem rgD_10 : rgD 0 10 = (List.range 10).map fun i => D.int (i : Nat) := rgD_0 10
theorem rgD_11 : rgD 0 11 = (List.range 11).map fun i => D.int (i : Nat) := rgD_0 11
theorem rgD_12 : rgD 0 12 = (List.range 12).map fun i => D.int (i : Nat) := rgD_0 12
theorem enumD_map {α : Type} (f : α → D) : ∀ (n : Nat) (xs : List α), enumD n (xs.map f) = (xs.zipIdx n).map fun p => D.tup [.int (p.2 : Nat), f p.1]
  | _, [] => rfl
  | n, x :: xs => by
    rw [List.map_cons, enumD, enumD_map f (n + 1) xs]
    rfl
theorem zipD_map {α β : Type} (f : α → D) (g : β → D) (xs : List α) (ys : List β) : zipD (xs.map f) (ys.map g) = (xs.zip ys).map fun p => D.tup [f p.1, g p.2] := by
  unfold zipD
  rw [List.zipWith_map, List.zip_eq_zipWith, List.map_zipWith]
theorem rgB_nat {n : Nat} (h : n < 4611686018427387904) : RgB (n : Int) := by
  unfold RgB
  constructor <;> omega
/-! equal values -/
theorem dats_all : ∀ xs : List D, D.dats xs = xs.all D.dat
  | [] => rfl
  | x :: xs => by rw [D.dats, dats_all xs, List.all_cons]
mutual
/-- no texts; how deep -/
def D.deep : Nat → D → Bool
  | _, .non => true
  | _, .bl _ => true
  | _, .int _ => true
  | n + 1, .tup xs => D.deeps n xs
  | n + 1, .lst xs => D.deeps n xs
  | _, _ => false
def D.deeps : Nat → List D → Bool
  | _, [] => true
  | n, x :: xs => D.deep n x && D.deeps n xs
end
theorem deeps_all (n : Nat) : ∀ xs : List D, D.deeps n xs = xs.all (D.deep n)
  | [] => by simp [D.deeps]
  | x :: xs => by rw [D.deeps, deeps_all n xs, List.all_cons]
mutual
theorem deep_ok : ∀ (n : Nat) (d : D), d.deep n = true → d.dat = true ∧ d.py.canLay0 = true ∧ d.py.depth ≤ n
  | _, .non, _ => ⟨rfl, rfl, Nat.zero_le _⟩
  | _, .bl _, _ => ⟨rfl, rfl, Nat.zero_le _⟩
  | _, .int _, _ => ⟨rfl, rfl, Nat.zero_le _⟩
  | n + 1, .tup xs, h => by
    rw [D.deep] at h
    obtain ⟨a, b, c⟩ := deeps_ok n xs h
    exact ⟨a, b, Nat.succ_le_succ c⟩
  | n + 1, .lst xs, h => by
    rw [D.deep] at h
    obtain ⟨a, b, c⟩ := deeps_ok n xs h
    exact ⟨a, b, Nat.succ_le_succ c⟩
  | 0, .tup _, h => by simp [D.deep] at h
  | 0, .lst _, h => by simp [D.deep] at h
  | _, .str _, h => by simp [D.deep] at h
  | _, .dct _, h => by simp [D.deep] at h
  | _, .obj _ _, h => by simp [D.deep] at h
  | _, .hand, h => by simp [D.deep] at h
  | _, .scr _, h => by simp [D.deep] at h
theorem deeps_ok : ∀ (n : Nat) (ds : List D), D.deeps n ds = true → D.dats ds = true ∧ PyData.canLayAll0 (D.pys ds) = true ∧ PyData.depthAll (D.pys ds) ≤ n
  | _, [], _ => ⟨rfl, rfl, Nat.zero_le _⟩
  | n, x :: xs, h => by
    rw [D.deeps, Bool.and_eq_true] at h
    obtain ⟨a, b, c⟩ := deep_ok n x h.1
    obtain ⟨a', b', c'⟩ := deeps_ok n xs h.2
    refine ⟨?_, ?_, ?_⟩
    · rw [D.dats, a, a']; rfl
    · show (PyData.canLay0 x.py && PyData.canLayAll0 (D.pys xs)) = true
      rw [b, b']; rfl
    · show max (PyData.depth x.py) (PyData.depthAll (D.pys xs)) ≤ n
      omega
end
theorem okq_of {d : D} (h : d.deep 64 = true) : d.okq = true := by
  obtain ⟨a, b, c⟩ := deep_ok 64 d h
  unfold D.okq SeqAt.shaped
  rw [a, b, decide_eq_true c]
  rfl
mutual
theorem deep_up : ∀ (n m : Nat) (d : D), n ≤ m → d.deep n = true → d.deep m = true
  | _, m, .non, _, _ => by cases m <;> rfl
  | _, m, .bl _, _, _ => by cases m <;> rfl
  | _, m, .int _, _, _ => by cases m <;> rfl
  | n + 1, m + 1, .tup xs, h, w => by
    rw [D.deep] at w ⊢
    exact deeps_up n m xs (Nat.le_of_succ_le_succ h) w
  | n + 1, m + 1, .lst xs, h, w => by
    rw [D.deep] at w ⊢
    exact deeps_up n m xs (Nat.le_of_succ_le_succ h) w
  | n + 1, 0, _, h, _ => by omega
  | 0, _, .tup _, _, h => by simp [D.deep] at h
  | 0, _, .lst _, _, h => by simp [D.deep] at h
  | _, _, .str _, _, h => by simp [D.deep] at h
  | _, _, .dct _, _, h => by simp [D.deep] at h
  | _, _, .obj _ _, _, h => by simp [D.deep] at h
  | _, _, .hand, _, h => by simp [D.deep] at h
  | _, _, .scr _, _, h => by simp [D.deep] at h
theorem deeps_up : ∀ (n m : Nat) (ds : List D), n ≤ m → D.deeps n ds = true → D.deeps m ds = true
  | _, _, [], _, _ => by simp [D.deeps]
  | n, m, x :: xs, h, w => by
    rw [D.deeps, Bool.and_eq_true] at w ⊢
    exact ⟨deep_up n m x h w.1, deeps_up n m xs h w.2⟩
end
theorem okq_deep {n : Nat} {d : D} (hn : n ≤ 64) (h : d.deep n = true) : d.okq = true := okq_of (deep_up n 64 d hn h)
theorem okq_int (i : Int) : (D.int i).okq = true := rfl
theorem okq_bl (b : Bool) : (D.bl b).okq = true := rfl
theorem okq_non : D.non.okq = true := rfl
theorem deeps_map {α : Type} {n : Nat} {f : α → D} {xs : List α} (h : ∀ x ∈ xs, (f x).deep n = true) : D.deeps n (xs.map f) = true := by
  rw [deeps_all, List.all_eq_true]
  intro d hd
  obtain ⟨x, hx, rfl⟩ := List.mem_map.mp hd
  exact h x hx
theorem deep_int (n : Nat) (i : Int) : (D.int i).deep n = true := by cases n <;> rfl
theorem deep_bl (n : Nat) (i : Bool) : (D.bl i).deep n = true := by cases n <;> rfl
theorem deep_non (n : Nat) : D.non.deep n = true := by cases n <;> rfl
theorem deep_tup {n : Nat} {xs : List D} (h : D.deeps n xs = true) : (D.tup xs).deep (n + 1) = true := by rw [D.deep]; exact h
theorem deep_lst {n : Nat} {xs : List D} (h : D.deeps n xs = true) : (D.lst xs).deep (n + 1) = true := by rw [D.deep]; exact h
theorem eqv_self {d : D} (h : d.okq = true) : D.eqv d d = true := by
  unfold D.okq at h
  rw [Bool.and_eq_true] at h
  exact SeqAt.eqv_refl _ (SeqAt.canLay_of_shaped h.2)
theorem eqv_int (i j : Int) : D.eqv (.int i) (.int j) = (i == j) := rfl
theorem eqv_bl (i j : Bool) : D.eqv (.bl i) (.bl j) = (i == j) := rfl
theorem eqv_nil (xs : List D) : D.eqv (.lst xs) (.lst []) = xs.isEmpty := by cases xs <;> rfl
theorem dNe_self {d : D} {q : D → Prop} (h : d.okq = true) : dNe d d q = q (.bl false) := by
  unfold dNe
  rw [eqv_self h, h]
  exact propext ⟨fun z => z.2, fun z => ⟨⟨rfl, rfl⟩, z⟩⟩
theorem dEq_self {d : D} {q : D → Prop} (h : d.okq = true) : dEq d d q = q (.bl true) := by
  unfold dEq
  rw [eqv_self h, h]
  exact propext ⟨fun z => z.2, fun z => ⟨⟨rfl, rfl⟩, z⟩⟩
theorem dEq_int (i j : Int) (q : D → Prop) : dEq (.int i) (.int j) q = q (.bl (i == j)) := propext ⟨fun z => z.2, fun z => ⟨⟨rfl, rfl⟩, z⟩⟩
theorem dNe_int (i j : Int) (q : D → Prop) : dNe (.int i) (.int j) q = q (.bl (!(i == j))) := propext ⟨fun z => z.2, fun z => ⟨⟨rfl, rfl⟩, z⟩⟩
theorem dNe_bl (i j : Bool) (q : D → Prop) : dNe (.bl i) (.bl j) q = q (.bl (!(i == j))) := propext ⟨fun z => z.2, fun z => ⟨⟨rfl, rfl⟩, z⟩⟩
theorem dEq_bl (i j : Bool) (q : D → Prop) : dEq (.bl i) (.bl j) q = q (.bl (i == j)) := propext ⟨fun z => z.2, fun z => ⟨⟨rfl, rfl⟩, z⟩⟩
/-! ### comprehensions -/
inductive All2 {α β : Type} (P : α → β → Prop) : List α → List β → Prop
  | nil : All2 P [] []
  | cons {a b as bs} : P a b → All2 P as bs → All2 P (a :: as) (b :: bs)
theorem lc_cons {g : MG} {te : ME} {ρ : List En} {qe : QE} {d : D} {ds : List D} {q : List D → Prop} :
    lcL g mYes te ρ (d :: ds) q qe = g d ρ fun ρ1 => te ρ1 (fun y => lcL g mYes te ρ ds (fun ys => q (y :: ys)) qe) qe := by
  rw [lcL]
  rfl
theorem lc_all {α : Type} {mk : α → D} {P : α → D → Prop} {g : MG} {te : ME} {ρ : List En} {qe : QE} : ∀ {xs : List α} {q : List D → Prop},
    (∀ x ∈ xs, ∀ k : D → Prop, (∀ d, P x d → k d) → g (mk x) ρ fun ρ1 => te ρ1 k qe) → (∀ ds, All2 P xs ds → q ds) → lcL g mYes te ρ (xs.map mk) q qe
  | [], _, _, hq => hq [] .nil
  | x :: xs, q, h, hq => by
    rw [List.map_cons, lc_cons]
    refine h x (List.mem_cons_self ..) _ fun d hd => ?_
    exact lc_all (xs := xs) (fun y hy => h y (List.mem_cons_of_mem _ hy)) fun ds hds => hq _ (.cons hd hds)
theorem lc_map {α : Type} {mk : α → D} (out : α → D) {g : MG} {te : ME} {ρ : List En} {qe : QE} : ∀ {xs : List α} {q : List D → Prop},
    (∀ x ∈ xs, ∀ k : D → Prop, k (out x) → g (mk x) ρ fun ρ1 => te ρ1 k qe) → q (xs.map out) → lcL g mYes te ρ (xs.map mk) q qe
  | [], _, _, hq => hq
  | x :: xs, q, h, hq => by
    rw [List.map_cons, lc_cons]
    refine h x (List.mem_cons_self ..) _ ?_
    exact lc_map (xs := xs) out (fun y hy => h y (List.mem_cons_of_mem _ hy)) hq
theorem lc_filter {α : Type} {mk : α → D} (p : α → Bool) (out : α → D) {g : MG} {tt : MT} {te : ME} {ρ : List En} {qe : QE} : ∀ {xs : List α} {q : List D → Prop},
    (∀ x ∈ xs, ∀ (k : D → Prop) (k' : Prop), (p x = true → k (out x)) → (p x = false → k') → g (mk x) ρ fun ρ1 => tt ρ1 (fun b => if b = true then te ρ1 k qe else k') qe) →
    q ((xs.filter p).map out) → lcL g tt te ρ (xs.map mk) q qe
  | [], _, _, hq => hq
  | x :: xs, q, h, hq => by
    rw [List.map_cons, lcL]
    refine h x (List.mem_cons_self ..) _ _ (fun e => ?_) (fun e => ?_)
    · exact lc_filter (xs := xs) p out (fun y hy => h y (List.mem_cons_of_mem _ hy)) (by rw [List.filter_cons, if_pos e] at hq; exact hq)
    · exact lc_filter (xs := xs) p out (fun y hy => h y (List.mem_cons_of_mem _ hy)) (by rw [List.filter_cons, if_neg (by rw [e]; exact Bool.false_ne_true)] at hq; exact hq)
/-! ### loops -/
/-- a loop; what holds ahead of turn i -/
theorem for_inv {α : Type} {mk : α → D} (I : Nat → List En → Prop) {g : MG} {body : MS} {qe : QE} {sq : SQ} {xs : List α} {ρ : List En} (h0 : I 0 ρ)
    (hs : ∀ (i : Nat) (x : α) (ρ' : List En) (nx : List En → Prop), xs[i]? = some x → I i ρ' → (∀ ρ'', I (i + 1) ρ'' → nx ρ'') → g (mk x) ρ' fun ρ1 => body ρ1 ⟨nx, sq.rt, sq.nx, nx⟩ qe)
    (hn : ∀ ρ', I xs.length ρ' → sq.nx ρ') : forL g body (xs.map mk) ρ sq qe := by
  have key : ∀ (ys : List α) (i : Nat) (ρ' : List En), xs.drop i = ys → I i ρ' → i ≤ xs.length → forL g body (ys.map mk) ρ' sq qe := by
    intro ys
    induction ys with
    | nil =>
      intro i ρ' e hi hl
      have : i = xs.length := by
        have := congrArg List.length e
        rw [List.length_drop, List.length_nil] at this
        omega
      subst this
      exact hn ρ' hi
    | cons y ys ih =>
      intro i ρ' e hi hl
      have hx : xs[i]? = some y := by
        have := List.getElem?_drop (xs := xs) (i := i) (j := 0)
        rw [e] at this
        simpa using this.symm
      have hlt : i < xs.length := (List.getElem?_eq_some_iff.mp hx).1
      rw [List.map_cons, forL]
      refine hs i y ρ' _ hx hi fun ρ'' h'' => ?_
      refine ih (i + 1) ρ'' ?_ h'' hlt
      rw [← List.drop_drop, e]
      rfl
  exact key xs 0 ρ rfl h0 (Nat.zero_le _)
/-- a loop that folds -/
theorem for_fold {α S : Type} {mk : α → D} (enc : S → List En → Prop) (step : S → α → S) (s0 : S) {g : MG} {body : MS} {qe : QE} {sq : SQ} {xs : List α} {ρ : List En} (h0 : enc s0 ρ)
    (hs : ∀ (x : α) (s : S) (ρ' : List En) (nx : List En → Prop), x ∈ xs → enc s ρ' → (∀ ρ'', enc (step s x) ρ'' → nx ρ'') → g (mk x) ρ' fun ρ1 => body ρ1 ⟨nx, sq.rt, sq.nx, nx⟩ qe)
    (hn : ∀ ρ', enc (xs.foldl step s0) ρ' → sq.nx ρ') : forL g body (xs.map mk) ρ sq qe := by
  refine for_inv (fun i ρ' => enc ((xs.take i).foldl step s0) ρ') (by rw [List.take_zero]; exact h0) (fun i x ρ' nx hx hi hk => ?_) (fun ρ' h => hn ρ' (by rw [List.take_length] at h; exact h))
  refine hs x _ ρ' nx (List.mem_of_getElem? hx) hi fun ρ'' h'' => hk ρ'' ?_
  rw [List.take_succ, hx, List.foldl_append]
  exact h''
/-- a loop whose turns may return -/
theorem for_chk {α : Type} {mk : α → D} (I : List En → Prop) (p : α → Bool) {g : MG} {body : MS} {qe : QE} {sq : SQ} : ∀ {xs : List α} {ρ : List En}, I ρ →
    (∀ (x : α) (ρ' : List En) (nx : List En → Prop), x ∈ xs → I ρ' → (p x = true → ∀ ρ'', I ρ'' → nx ρ'') → (p x = false → ∃ y ∈ xs, p y = false) → g (mk x) ρ' fun ρ1 => body ρ1 ⟨nx, sq.rt, sq.nx, nx⟩ qe) →
    (∀ ρ', I ρ' → (∀ x ∈ xs, p x = true) → sq.nx ρ') → forL g body (xs.map mk) ρ sq qe
  | [], ρ, h0, _, hn => hn ρ h0 (fun _ h => by cases h)
  | x :: xs, ρ, h0, hs, hn => by
    rw [List.map_cons, forL]
    refine hs x ρ _ (List.mem_cons_self ..) h0 (fun hp ρ'' h'' => ?_) (fun hp => ⟨x, List.mem_cons_self .., hp⟩)
    refine for_chk I p h'' (fun y ρ' nx hy hi h1 h2 => hs y ρ' nx (List.mem_cons_of_mem _ hy) hi h1 (fun e => ⟨y, List.mem_cons_of_mem _ hy, e⟩)) (fun ρ' hi ha => hn ρ' hi fun z hz => ?_)
    rcases List.mem_cons.mp hz with e | e
    · exact e ▸ hp
    · exact ha z e
theorem len_succ {α : Type} {n : Nat} {l : List α} (h : l.length = n + 1) : ∃ e r, l = e :: r ∧ r.length = n := by
  cases l with
  | nil => cases h
  | cons e r => exact ⟨e, r, rfl, by simpa using h⟩
end Fd
namespace Fd
open PySem PySem.Spec L2
theorem cutD_to {α : Type} (xs : List α) (k : Nat) : cutD xs none (some (k : Int)) = xs.take k := by
  unfold cutD
  rw [HT.sIx_none, HT.sIx_nat, List.drop_zero, Nat.sub_zero]
  exact (List.take_eq_take_min).symm
theorem cutD_from {α : Type} (xs : List α) (k : Nat) : cutD xs (some (k : Int)) none = xs.drop k := by
  unfold cutD
  rw [HT.sIx_none, HT.sIx_nat]
  by_cases h : k ≤ xs.length
  · rw [Nat.min_eq_left h]
    exact List.take_of_length_le (by rw [List.length_drop]; exact Nat.le_refl _)
  · rw [Nat.min_eq_right (by omega), Nat.sub_self, List.take_zero, List.drop_eq_nil_of_le (by omega)]
theorem cutD_ft {α : Type} (xs : List α) (k m : Nat) : cutD xs (some (k : Int)) (some (m : Int)) = (xs.drop k).take (m - k) := by
  unfold cutD
  rw [HT.sIx_nat, HT.sIx_nat]
  by_cases h : k ≤ xs.length
  · rw [Nat.min_eq_left h, List.take_eq_take_min, List.length_drop]
    rw [List.take_eq_take_min (i := m - k), List.length_drop]
    congr 1
    omega
  · rw [Nat.min_eq_right (a := k) (by omega), List.drop_eq_nil_of_le (Nat.le_refl _), List.drop_eq_nil_of_le (by omega), List.take_nil, List.take_nil]
theorem all2_int {α : Type} {P : α → Int → Prop} : ∀ {xs : List α} {ds : List D}, All2 (fun x d => ∃ n : Int, d = .int n ∧ P x n) xs ds → ∃ ns : List Int, ds = ns.map D.int ∧ All2 P xs ns
  | _, _, .nil => ⟨[], rfl, .nil⟩
  | _, _, .cons ⟨n, e, h⟩ r => by
    obtain ⟨ns, e', h'⟩ := all2_int r
    exact ⟨n :: ns, by rw [e, e']; rfl, .cons h h'⟩
theorem all2_of {α β : Type} {P : α → D → Prop} {mk : β → D} {R : α → β → Prop} (c : ∀ x d, P x d → ∃ y, d = mk y ∧ R x y) : ∀ {xs : List α} {ds : List D}, All2 P xs ds → ∃ ys : List β, ds = ys.map mk ∧ All2 R xs ys
  | _, _, .nil => ⟨[], rfl, .nil⟩
  | _, _, .cons h r => by
    obtain ⟨y, e, hy⟩ := c _ _ h
    obtain ⟨ns, e', h'⟩ := all2_of c r
    exact ⟨y :: ns, by rw [e, e']; rfl, .cons hy h'⟩
theorem All2.length {α β : Type} {P : α → β → Prop} : ∀ {xs : List α} {ys : List β}, All2 P xs ys → xs.length = ys.length
  | _, _, .nil => rfl
  | _, _, .cons _ r => congrArg (· + 1) r.length
theorem All2.right {α β : Type} {P : α → β → Prop} {Q : β → Prop} (h : ∀ x y, P x y → Q y) : ∀ {xs : List α} {ys : List β}, All2 P xs ys → ∀ y ∈ ys, Q y
  | _, _, .nil, _, m => by cases m
  | _, _, .cons p r, y, m => by
    rcases List.mem_cons.mp m with e | e
    · exact e ▸ h _ _ p
    · exact r.right h y e
/-- a draw of a natural number -/
theorem draw_nat {k : Nat} {q : D → Prop} {qe : QE} (h0 : 0 < k) (h1 : k < 1073741824) (h : ∀ j : Nat, j < k → q (.int (j : Int))) : mDraw [.hand, .int (k : Int)] q qe := by
  refine ⟨⟨by omega, by omega⟩, fun j h2 h3 => ?_⟩
  have := h j.toNat (by omega)
  rwa [Int.toNat_of_nonneg h2] at this
theorem draw_lit {k : Int} {q : D → Prop} {qe : QE} (h0 : 0 < k) (h1 : k < 1073741824) (h : ∀ j : Nat, (j : Int) < k → q (.int (j : Int))) : mDraw [.hand, .int k] q qe := by
  refine ⟨⟨h0, h1⟩, fun j h2 h3 => ?_⟩
  have := h j.toNat (by omega)
  rwa [Int.toNat_of_nonneg h2] at this
end Fd
namespace Fd
open PySem PySem.Spec L2
theorem dTru_bl (b : Bool) (q : Bool → Prop) : dTru (.bl b) q = q b := rfl
theorem dTru_int (b : Int) (q : Bool → Prop) : dTru (.int b) q = q (b != 0) := rfl
theorem dTru_non (q : Bool → Prop) : dTru .non q = q false := rfl
theorem dTru_tup (xs : List D) (q : Bool → Prop) : dTru (.tup xs) q = q (!xs.isEmpty) := rfl
theorem dTru_lst (xs : List D) (q : Bool → Prop) : dTru (.lst xs) q = q (!xs.isEmpty) := rfl
theorem dIx_lst (xs : List D) (i : Int) (q : D → Prop) : dIx (.lst xs) (.int i) q = (match atI xs i with | some d => q d | none => False) := rfl
theorem dIx_tup (xs : List D) (i : Int) (q : D → Prop) : dIx (.tup xs) (.int i) q = (match atI xs i with | some d => q d | none => False) := rfl
theorem sFor_eq (f : MA) (g : MG) (body : MS) (ρ : List En) (sq : SQ) (qe : QE) : sFor f g body ρ sq qe = f ρ (fun items => forL g body items ρ sq qe) qe := rfl
end Fd
namespace Fd
open PySem PySem.Spec L2
theorem dAll_map {α : Type} (f : α → Bool) (xs : List α) (q : D → Prop) : dAll [.lst (xs.map fun x => D.bl (f x))] q = q (.bl (xs.all f)) := by
  unfold dAll
  simp only [bools_mapF, List.all_map]
  rfl
theorem dSum_map {α : Type} (f : α → Int) (xs : List α) (q : D → Prop) : dSum [.lst (xs.map fun x => D.int (f x))] q = q (.int (xs.map f).sum) := by
  unfold dSum
  simp only [ints_mapF]
theorem dSum_ints (xs : List Int) (q : D → Prop) : dSum [.lst (xs.map D.int)] q = q (.int xs.sum) := by
  unfold dSum
  simp only [ints_map]
theorem dMin_2 (i j : Int) (q : D → Prop) : dMin [.int i, .int j] q = q (.int (if j < i then j else i)) := rfl
theorem dMax_2 (i j : Int) (q : D → Prop) : dMax [.int i, .int j] q = q (.int (if j > i then j else i)) := rfl
theorem cutD_f1 {α : Type} (xs : List α) : cutD xs (some 1) none = xs.drop 1 := cutD_from xs 1
theorem zipIdx_filter_range (deal : List Nat) (o : Nat) : ∀ n : Nat, ((deal.zipIdx n).filter (fun p => p.1 == o)).map (·.2) = ((List.range deal.length).filter (fun i => deal.getD i 0 == o)).map (n + ·) := by
  induction deal with
  | nil => intro n; rfl
  | cons x xs ih =>
    intro n
    rw [List.zipIdx_cons, List.length_cons, List.range_succ_eq_map, List.filter_cons, List.filter_cons, List.filter_map]
    have e : ((fun i => (x :: xs).getD i 0 == o) ∘ Nat.succ) = fun i => xs.getD i 0 == o := by
      funext i
      simp
    rw [e]
    have h0 : (x :: xs).getD 0 0 = x := rfl
    rw [h0]
    have tl : ((xs.zipIdx (n + 1)).filter (fun p => p.1 == o)).map (·.2) = (((List.range xs.length).filter fun i => xs.getD i 0 == o).map Nat.succ).map (n + ·) := by
      rw [ih (n + 1), List.map_map]
      exact List.map_congr_left fun i _ => by show n + 1 + i = n + (i + 1); omega
    by_cases h : (x == o) = true
    · rw [if_pos h, if_pos h, List.map_cons, List.map_cons, tl]
      rfl
    · rw [if_neg h, if_neg h, tl]
end Fd
namespace Fd
open PySem PySem.Spec L2
theorem for_rng (I : Nat → List En → Prop) {mk : Nat → D} {g : MG} {body : MS} {qe : QE} {sq : SQ} {n : Nat} {ρ : List En} (h0 : I 0 ρ)
    (hs : ∀ (i : Nat) (ρ' : List En) (nx : List En → Prop), i < n → I i ρ' → (∀ ρ'', I (i + 1) ρ'' → nx ρ'') → g (mk i) ρ' fun ρ1 => body ρ1 ⟨nx, sq.rt, sq.nx, nx⟩ qe)
    (hn : ∀ ρ', I n ρ' → sq.nx ρ') : forL g body ((List.range n).map mk) ρ sq qe := by
  refine for_inv I h0 (fun i x ρ' nx hx hi hk => ?_) (fun ρ' h => hn ρ' (by rw [List.length_range] at h; exact h))
  have hl := (List.getElem?_eq_some_iff.mp hx).1
  rw [List.length_range] at hl
  rw [List.getElem?_range hl] at hx
  cases hx
  exact hs i ρ' nx hl hi hk
theorem enum_range {α : Type} (f : α → D) (g : Nat → α) (n : Nat) : enumD 0 ((List.range n).map fun i => f (g i)) = (List.range n).map fun i => D.tup [.int (i : Nat), f (g i)] := by
  have h := enumD_map (fun i => f (g i)) 0 (List.range n)
  rw [h]
  apply List.ext_getElem?
  intro i
  rw [List.getElem?_map, List.getElem?_map, List.getElem?_zipIdx]
  by_cases hi : i < n
  · rw [List.getElem?_range hi]
    simp
  · rw [List.getElem?_eq_none (by rw [List.length_range]; omega)]
    rfl
end Fd
/-! ### loops over dicts -/
namespace Fd
open PySem PySem.Spec L2
theorem forK_inv {α : Type} {mk : α → D} (I : Nat → List En → Prop) {g : MG} {body : MS} {qe : QE} {sq : SQ} {s : Nat} {e : En} {xs : List α} {ρ : List En} (h0 : I 0 ρ)
    (hs : ∀ (i : Nat) (x : α) (ρ' : List En) (nx : List En → Prop), xs[i]? = some x → I i ρ' → (∀ ρ'', I (i + 1) ρ'' → nx ρ'') →
      g (mk x) ρ' fun ρ1 => body ρ1 ⟨fun ρ2 => ρ2[s]? = some e ∧ nx ρ2, fun _ _ => False, fun _ => False, fun ρ2 => ρ2[s]? = some e ∧ nx ρ2⟩ qe)
    (hn : ∀ ρ', I xs.length ρ' → sq.nx ρ') : forKL g body s e (xs.map mk) ρ sq qe := by
  have key : ∀ (ys : List α) (i : Nat) (ρ' : List En), xs.drop i = ys → I i ρ' → i ≤ xs.length → forKL g body s e (ys.map mk) ρ' sq qe := by
    intro ys
    induction ys with
    | nil =>
      intro i ρ' e hi hl
      have : i = xs.length := by
        have := congrArg List.length e
        rw [List.length_drop, List.length_nil] at this
        omega
      subst this
      exact hn ρ' hi
    | cons y ys ih =>
      intro i ρ' e hi hl
      have hx : xs[i]? = some y := by
        have := List.getElem?_drop (xs := xs) (i := i) (j := 0)
        rw [e] at this
        simpa using this.symm
      have hlt : i < xs.length := (List.getElem?_eq_some_iff.mp hx).1
      rw [List.map_cons, forKL]
      refine hs i y ρ' _ hx hi fun ρ'' h'' => ?_
      refine ih (i + 1) ρ'' ?_ h'' hlt
      rw [← List.drop_drop, e]
      rfl
  exact key xs 0 ρ rfl h0 (Nat.zero_le _)
theorem ints_nat (xs : List Nat) : D.ints (xs.map fun n : Nat => D.int (n : Int)) = some (xs.map fun n : Nat => (n : Int)) := ints_mapF _ xs
theorem mem_cast {a : Nat} : ∀ {xs : List Nat}, (a : Int) ∈ xs.map (fun n : Nat => (n : Int)) ↔ a ∈ xs
  | [] => by simp
  | x :: xs => by
    rw [List.map_cons, List.mem_cons, List.mem_cons, mem_cast]
    constructor
    · rintro (h | h)
      · exact .inl (by omega)
      · exact .inr h
    · rintro (h | h)
      · exact .inl (by omega)
      · exact .inr h
theorem erase_cast (a : Nat) : ∀ xs : List Nat, (xs.map (fun n : Nat => (n : Int))).erase (a : Int) = (xs.erase a).map fun n : Nat => (n : Int)
  | [] => rfl
  | x :: xs => by
    rw [List.map_cons, List.erase_cons, List.erase_cons]
    by_cases h : x = a
    · subst h
      rw [if_pos (by simp), if_pos (by simp)]
    · rw [if_neg (by simp; omega), if_neg (by simpa using h), erase_cast a xs]
      rfl
theorem putD_new {kvs : List (Key × D)} {k : Key} {d : D} (h : ∀ kv ∈ kvs, kv.1 ≠ k) : putD kvs k d = kvs ++ [(k, d)] := by
  unfold putD
  rw [if_neg]
  rw [List.any_eq_true]
  rintro ⟨kv, hm, he⟩
  exact h kv hm (of_decide_eq_true he)
end Fd
/-! printed by gen.py: what the defs of the law do, over trees -/
namespace K12
open PySem L2 Fd
/-- slots: 0 thing -/
def f_is_integer : MS := (sRet (eAnd (eIsi ["int"] (eRd 0)) (eNot (eIsi ["bool"] (eRd 0)))))
theorem ex_is_integer : ∃ m : M, m = mBody 0 f_is_integer := ⟨_, rfl⟩
noncomputable def m_is_integer : M := Classical.choose ex_is_integer
theorem m_is_integer_eq : m_is_integer = mBody 0 f_is_integer := Classical.choose_spec ex_is_integer
/-- slots: 0 thing 1 low 2 high -/
def f_is_within : MS := (sRet (eAnd (eCall m_is_integer (aCons (eVar 0) aNil)) (eChain dLe dLe (eRd 1) (eRd 0) (eRd 2))))
theorem ex_is_within : ∃ m : M, m = mBody 0 f_is_within := ⟨_, rfl⟩
noncomputable def m_is_within : M := Classical.choose ex_is_within
theorem m_is_within_eq : m_is_within = mBody 0 f_is_within := Classical.choose_spec ex_is_within
/-- slots: 0 thing -/
def f_is_row : MS := (sRet (eIsi ["list", "tuple"] (eRd 0)))
theorem ex_is_row : ∃ m : M, m = mBody 0 f_is_row := ⟨_, rfl⟩
noncomputable def m_is_row : M := Classical.choose ex_is_row
theorem m_is_row_eq : m_is_row = mBody 0 f_is_row := Classical.choose_spec ex_is_row
/-- slots: 0 self 1 rows 2 place 3 row 4 one -/
def f_Table : MS := (sSeq (sIf (mOr (mNot (mTru (eCall m_is_row (aCons (eVar 1) aNil)))) (mNot (mVal (eChain dLe dLe (eC (.int 1)) (eCB dLen (aCons (eRd 1) aNil)) (eC (.int (5))))))) sNever sNext)
    (sSeq (sFor (fEnum (eVar 1)) (gdTup 2 (gdCons (gdName 2) (gdCons (gdName 3) gdNil))) (sSeq (sIf (mOr (mNot (mTru (eCall m_is_row (aCons (eVar 3) aNil)))) (mOr (mVal (e2 dGt (eCB dLen (aCons (eRd 3) aNil)) (eC (.int (9))))) (mOr (mNot (mTru (eCall m_is_row (aCons (e2 dIx (eRd 1) (eC (.int 0))) aNil)))) (mVal (e2 dNe (eCB dLen (aCons (eRd 3) aNil)) (eCB dLen (aCons (e2 dIx (eRd 1) (eC (.int 0))) aNil))))))) sNever sNext)
    (sIf (mNot (mTru (eCB dAll (aCons (eNew (fLc (fSeq (eRd 3)) (gdName 4) mYes (eCall m_is_within (aCons (eVar 4) (aCons (eNeg (eC (.int (100)))) (aCons (eC (.int (100))) aNil)))) [4])) aNil)))) sNever sNext)))
    (sSeq (sSelf2 "Table" 0 "persons" "things" (aCons (eCB dLen (aCons (eRd 1) aNil)) (aCons (eCB dLen (aCons (e2 dIx (eRd 1) (eC (.int 0))) aNil)) aNil)))
    (sSelf "Table" 0 "rows" (eCB dTuple (aCons (eNew (fLc (fSeq (eRd 1)) (gdName 3) mYes (eCB dTuple (aCons (eRd 3) aNil)) [3])) aNil))))))
theorem ex_Table : ∃ m : MI, m = mInit "Table" 3 f_Table := ⟨_, rfl⟩
noncomputable def m_Table : MI := Classical.choose ex_Table
theorem m_Table_eq : m_Table = mInit "Table" 3 f_Table := Classical.choose_spec ex_Table
/-- slots: 0 table 1 person -/
def f_check_person : MS := (sIf (mNot (mTru (eCall m_is_within (aCons (eVar 1) (aCons (eC (.int 0)) (aCons (e2 dSub (eFld ["Table"] "persons" (eRd 0)) (eC (.int 1))) aNil)))))) sNever sNext)
theorem ex_check_person : ∃ m : M, m = mBody 0 f_check_person := ⟨_, rfl⟩
noncomputable def m_check_person : M := Classical.choose ex_check_person
theorem m_check_person_eq : m_check_person = mBody 0 f_check_person := Classical.choose_spec ex_check_person
/-- slots: 0 table 1 thing 2 one 3 other -/
def f_is_lot : MS := (sSeq (sIf (mOr (mNot (mTru (eIsi ["tuple"] (eRd 1)))) (mNot (mTru (eCB dAll (aCons (eNew (fLc (fSeq (eRd 1)) (gdName 2) mYes (eCall m_is_within (aCons (eVar 2) (aCons (eC (.int 0)) (aCons (e2 dSub (eFld ["Table"] "things" (eRd 0)) (eC (.int 1))) aNil)))) [2])) aNil))))) (sRet (eC (.bl false))) sNext)
    (sRet (eCB dAll (aCons (eNew (fLc (fZip (eRd 1) (eSl (eRd 1) (oSome (eC (.int 1))) oNone)) (gdTup 2 (gdCons (gdName 2) (gdCons (gdName 3) gdNil))) mYes (e2 dLtI (eRd 2) (eRd 3)) [2, 3])) aNil))))
theorem ex_is_lot : ∃ m : M, m = mBody 2 f_is_lot := ⟨_, rfl⟩
noncomputable def m_is_lot : M := Classical.choose ex_is_lot
theorem m_is_lot_eq : m_is_lot = mBody 2 f_is_lot := Classical.choose_spec ex_is_lot
/-- slots: 0 table 1 lot -/
def f_check_lot : MS := (sIf (mNot (mTru (eCall m_is_lot (aCons (eVar 0) (aCons (eVar 1) aNil))))) sNever sNext)
theorem ex_check_lot : ∃ m : M, m = mBody 0 f_check_lot := ⟨_, rfl⟩
noncomputable def m_check_lot : M := Classical.choose ex_check_lot
theorem m_check_lot_eq : m_check_lot = mBody 0 f_check_lot := Classical.choose_spec ex_check_lot
/-- slots: 0 table 1 person 2 lot 3 one -/
def f_worth : MS := (sSeq (sDrop (eCall m_check_person (aCons (eVar 0) (aCons (eVar 1) aNil))))
    (sSeq (sDrop (eCall m_check_lot (aCons (eVar 0) (aCons (eVar 2) aNil))))
    (sRet (eCB dSum (aCons (eNew (fLc (fSeq (eRd 2)) (gdName 3) mYes (e2 dIx (e2 dIx (eFld ["Table"] "rows" (eRd 0)) (eRd 1)) (eRd 3)) [3])) aNil)))))
theorem ex_worth : ∃ m : M, m = mBody 1 f_worth := ⟨_, rfl⟩
noncomputable def m_worth : M := Classical.choose ex_worth
theorem m_worth_eq : m_worth = mBody 1 f_worth := Classical.choose_spec ex_worth
/-- slots: 0 table 1 thing 2 one -/
def f_is_deal : MS := (sSeq (sIf (mOr (mNot (mTru (eIsi ["tuple"] (eRd 1)))) (mVal (e2 dNe (eCB dLen (aCons (eRd 1) aNil)) (eFld ["Table"] "things" (eRd 0))))) (sRet (eC (.bl false))) sNext)
    (sRet (eCB dAll (aCons (eNew (fLc (fSeq (eRd 1)) (gdName 2) mYes (eCall m_is_within (aCons (eVar 2) (aCons (eC (.int 0)) (aCons (e2 dSub (eFld ["Table"] "persons" (eRd 0)) (eC (.int 1))) aNil)))) [2])) aNil))))
theorem ex_is_deal : ∃ m : M, m = mBody 1 f_is_deal := ⟨_, rfl⟩
noncomputable def m_is_deal : M := Classical.choose ex_is_deal
theorem m_is_deal_eq : m_is_deal = mBody 1 f_is_deal := Classical.choose_spec ex_is_deal
/-- slots: 0 table 1 deal -/
def f_check_deal : MS := (sIf (mNot (mTru (eCall m_is_deal (aCons (eVar 0) (aCons (eVar 1) aNil))))) sNever sNext)
theorem ex_check_deal : ∃ m : M, m = mBody 0 f_check_deal := ⟨_, rfl⟩
noncomputable def m_check_deal : M := Classical.choose ex_check_deal
theorem m_check_deal_eq : m_check_deal = mBody 0 f_check_deal := Classical.choose_spec ex_check_deal
/-- slots: 0 table 1 deal 2 found 3 person 4 one -/
def f_lots : MS := (sSeq (sDrop (eCall m_check_deal (aCons (eVar 0) (aCons (eVar 1) aNil))))
    (sSeq (sOwn 2 (fLst aNil))
    (sSeq (sFor (fRg1 (eFld ["Table"] "persons" (eRd 0))) (gdName 3) (sApp 2 (eCB dTuple (aCons (eNew (fLc (fRg1 (eFld ["Table"] "things" (eRd 0))) (gdName 4) (mVal (e2 dEq (e2 dIx (eRd 1) (eRd 4)) (eRd 3))) (eVar 4) [4])) aNil))))
    (sRet (eCB dTuple (aCons (eRd 2) aNil))))))
theorem ex_lots : ∃ m : M, m = mBody 3 f_lots := ⟨_, rfl⟩
noncomputable def m_lots : M := Classical.choose ex_lots
theorem m_lots_eq : m_lots = mBody 3 f_lots := Classical.choose_spec ex_lots
/-- slots: 0 table 1 deal 2 person 3 lot -/
def f_gains : MS := (sRet (eCB dTuple (aCons (eNew (fLc (fEnum (eCall m_lots (aCons (eVar 0) (aCons (eVar 1) aNil)))) (gdTup 2 (gdCons (gdName 2) (gdCons (gdName 3) gdNil))) mYes (eCall m_worth (aCons (eVar 0) (aCons (eVar 2) (aCons (eVar 3) aNil)))) [2, 3])) aNil)))
theorem ex_gains : ∃ m : M, m = mBody 2 f_gains := ⟨_, rfl⟩
noncomputable def m_gains : M := Classical.choose ex_gains
theorem m_gains_eq : m_gains = mBody 2 f_gains := Classical.choose_spec ex_gains
/-- slots: 0 table 1 person 2 other 3 deal 4 some 5 best 6 lots 7 one 8 every 9 lot 10 here 11 least -/
def f_pairs_share : MS := (sSeq (sDrop (eCall m_check_person (aCons (eVar 0) (aCons (eVar 1) aNil))))
    (sSeq (sDrop (eCall m_check_person (aCons (eVar 0) (aCons (eVar 2) aNil))))
    (sSeq (sAsg (eNew (fLc (fRg1 (eFld ["Table"] "things" (eRd 0))) (gdName 7) (mVal (e2 (dIn false) (e2 dIx (eRd 3) (eRd 7)) (eTup (aCons (eVar 1) (aCons (eVar 2) aNil))))) (eVar 7) [7])) (gdName 4))
    (sSeq (sAsg (eC .non) (gdName 5))
    (sSeq (sAsg (eNew (fLst (aCons (eTup aNil) aNil))) (gdName 6))
    (sSeq (sFor (fSeq (eVar 4)) (gdName 7) (sAsg (eNew (f2 dAddF (eRd 6) (eNew (fLc (fSeq (eRd 6)) (gdName 9) mYes (e2 dAdd (eRd 9) (eTup (aCons (eVar 7) aNil))) [9])))) (gdName 6)))
    (sSeq (sAsg (eCB dSum (aCons (eNew (fLc (fSeq (eRd 4)) (gdName 7) mYes (e2 dIx (e2 dIx (eFld ["Table"] "rows" (eRd 0)) (eRd 1)) (eRd 7)) [7])) aNil)) (gdName 8))
    (sSeq (sFor (fSeq (eVar 6)) (gdName 9) (sSeq (sAsg (eCB dSum (aCons (eNew (fLc (fSeq (eRd 9)) (gdName 7) mYes (e2 dIx (e2 dIx (eFld ["Table"] "rows" (eRd 0)) (eRd 1)) (eRd 7)) [7])) aNil)) (gdName 10))
    (sSeq (sAsg (eCB dMin (aCons (eRd 10) (aCons (e2 dSub (eRd 8) (eRd 10)) aNil))) (gdName 11))
    (sAsg (eIf (mOr (mVal (e2 dIs (eRd 5) (eC .non))) (mVal (e2 dGt (eRd 11) (eRd 5)))) (eVar 11) (eVar 5)) (gdName 5)))))
    (sRet (eVar 5))))))))))
theorem ex_pairs_share : ∃ m : M, m = mBody 8 f_pairs_share := ⟨_, rfl⟩
noncomputable def m_pairs_share : M := Classical.choose ex_pairs_share
theorem m_pairs_share_eq : m_pairs_share = mBody 8 f_pairs_share := Classical.choose_spec ex_pairs_share
/-- slots: 0 table 1 thing 2 told 3 person 4 other -/
def f_is_kept_by_pairs : MS := (sSeq (sIf (mNot (mTru (eCall m_is_deal (aCons (eVar 0) (aCons (eVar 1) aNil))))) (sRet (eC (.bl false))) sNext)
    (sSeq (sAsg (eCall m_gains (aCons (eVar 0) (aCons (eVar 1) aNil))) (gdName 2))
    (sSeq (sFor (fRg1 (eFld ["Table"] "persons" (eRd 0))) (gdName 3) (sFor (fRg1 (eFld ["Table"] "persons" (eRd 0))) (gdName 4) (sIf (mAnd (mVal (e2 dNe (eRd 4) (eRd 3))) (mVal (e2 dLtI (e2 dIx (eRd 2) (eRd 3)) (eCall m_pairs_share (aCons (eVar 0) (aCons (eVar 3) (aCons (eVar 4) (aCons (eVar 1) aNil)))))))) (sRet (eC (.bl false))) sNext)))
    (sRet (eC (.bl true))))))
theorem ex_is_kept_by_pairs : ∃ m : M, m = mBody 3 f_is_kept_by_pairs := ⟨_, rfl⟩
noncomputable def m_is_kept_by_pairs : M := Classical.choose ex_is_kept_by_pairs
theorem m_is_kept_by_pairs_eq : m_is_kept_by_pairs = mBody 3 f_is_kept_by_pairs := Classical.choose_spec ex_is_kept_by_pairs
/-- slots: 0 table 1 goal 2 left 3 found 4 bag 5 one 6 good 7 deal 8 person 9 other -/
def f_bag_filled : MS := (sSeq (sMany [2, 3, 4] (nOl (fLstRg (rRg1 (eFld ["Table"] "persons" (eRd 0)))) (nOd (nOl (fLst aNil) nNil))))
    (sSeq (sFor (fRg1 (eFld ["Table"] "things" (eRd 0))) (gdName 5) (sSeq (sApp 4 (eVar 5))
    (sSeq (sAsg (eNew (fLc (fSeq (eRd 2)) (gdName 8) (mVal (e2 dGe (eCB dSum (aCons (eNew (fLc (fSeq (eRd 4)) (gdName 9) mYes (e2 dIx (e2 dIx (eFld ["Table"] "rows" (eRd 0)) (eRd 8)) (eRd 9)) [9])) aNil)) (e2 dIx (eRd 1) (eRd 8)))) (eVar 8) [8])) (gdName 6))
    (sIf (mAnd (mVal (e2 dNe (eRd 6) (eNew (fLst aNil)))) (mVal (e2 dGt (eCB dLen (aCons (eRd 2) aNil)) (eC (.int 1))))) (sSeq (sStill 4 (sPutD 3 (e2 dIx (eRd 6) (eC (.int 0))) (eVar 4)))
    (sSeq (sRem 2 (e2 dIx (eRd 6) (eC (.int 0))))
    (sOwn 4 (fLst aNil)))) sNext))))
    (sSeq (sIf (mVal (e2 dGt (eCB dLen (aCons (eRd 2) aNil)) (eC (.int 1)))) (sRet (eC .non)) sNext)
    (sSeq (sStill 4 (sPutD 3 (e2 dIx (eRd 2) (eC (.int 0))) (eVar 4)))
    (sSeq (sOwn 7 (f2 dMulF (eNew (fLst (aCons (eC .non) aNil))) (eFld ["Table"] "things" (eRd 0))))
    (sSeq (sForD 3 (gdName 8) (sFor (fSeq (eGetD 3 (eVar 8))) (gdName 5) (sSetI 7 (eVar 5) (eVar 8))))
    (sRet (eTup (aCons (eCB dTuple (aCons (eRd 7) aNil)) (aCons (eCB dTuple (aCons (eNew (fLc (fRg1 (eFld ["Table"] "persons" (eRd 0))) (gdName 8) mYes (eCB dTuple (aCons (eGetD 3 (eVar 8)) aNil)) [8])) aNil)) aNil))))))))))
theorem ex_bag_filled : ∃ m : M, m = mBody 8 f_bag_filled := ⟨_, rfl⟩
noncomputable def m_bag_filled : M := Classical.choose ex_bag_filled
theorem m_bag_filled_eq : m_bag_filled = mBody 8 f_bag_filled := Classical.choose_spec ex_bag_filled
/-- slots: 0 table 1 goal 2 told 3 gain 4 one -/
def f_is_told_bag : MS := (sSeq (sAsg (eCall m_bag_filled (aCons (eVar 0) (aCons (eVar 1) aNil))) (gdName 2))
    (sRet (eAnd (e2 dIsNot (eRd 2) (eC .non)) (eCB dAll (aCons (eNew (fLc (fZip (eCall m_gains (aCons (eVar 0) (aCons (e2 dIx (eRd 2) (eC (.int 0))) aNil))) (eRd 1)) (gdTup 2 (gdCons (gdName 3) (gdCons (gdName 4) gdNil))) mYes (e2 dGe (eRd 3) (eRd 4)) [3, 4])) aNil)))))
theorem ex_is_told_bag : ∃ m : M, m = mBody 3 f_is_told_bag := ⟨_, rfl⟩
noncomputable def m_is_told_bag : M := Classical.choose ex_is_told_bag
theorem m_is_told_bag_eq : m_is_told_bag = mBody 3 f_is_told_bag := Classical.choose_spec ex_is_told_bag
/-- slots: 0 script 1 cells 2 cell -/
def f__law_hand : MS := (sSeq (sAsg (eNew (fLc (fSeq (eSl (eRd 0) oNone (oSome (eC (.int 63))))) (gdName 2) mYes (eCB dAbs (aCons (eCB dInt (aCons (eRd 2) aNil)) aNil)) [2])) (gdName 1))
    (sRet (eNew (fLst (aCons (eVar 1) (aCons (eC (.int 0)) (aCons (eC (.int 0)) (aCons (e2 dAdd (eC (.int 245)) (e2 dMul (eC (.int 7)) (eCB dLen (aCons (eRd 1) aNil)))) (aCons (eC (.int 0)) aNil)))))))))
theorem ex__law_hand : ∃ m : M, m = mBody 2 f__law_hand := ⟨_, rfl⟩
noncomputable def m__law_hand : M := Classical.choose ex__law_hand
theorem m__law_hand_eq : m__law_hand = mBody 2 f__law_hand := Classical.choose_spec ex__law_hand
/-- slots: 0 hand 1 limit 2 cell 3 digit 4 number -/
def f__law_draw : MS := (sSeq (sIf (mAnd (mVal (e2 dEq (e2 dIx (eRd 0) (eC (.int 2))) (eC (.int 0)))) (mVal (e2 dLtI (e2 dIx (eRd 0) (eC (.int 1))) (eCB dLen (aCons (e2 dIx (eRd 0) (eC (.int 0))) aNil))))) (sSeq (sAsg (e2 dIx (e2 dIx (eRd 0) (eC (.int 0))) (e2 dIx (eRd 0) (eC (.int 1)))) (gdName 2))
    (sSeq (sSetH 0 (eC (.int 1)) (e2 dAdd (e2 dIx (eRd 0) (eC (.int 1))) (eC (.int 1))))
    (sSeq (sSetH 0 (eC (.int 3)) (e2 dMod (eCB dInt (aCons (e2 dAdd (e2 dAdd (e2 dMul (e2 dIx (eRd 0) (eC (.int 3))) (eC (.int 69621))) (eRd 2)) (eC (.int 29))) aNil)) (eC (.int 2147483629))))
    (sIf (mVal (e2 dGe (eRd 2) (e2 dPow (eC (.int 10)) (eC (.int 18))))) (sSetH 0 (eC (.int 2)) (eVar 2)) sNext)))) sNext)
    (sSeq (sIf (mVal (e2 dGt (e2 dIx (eRd 0) (eC (.int 2))) (eC (.int 0)))) (sSeq (sAsg (e2 dMod (eCB dInt (aCons (e2 dIx (eRd 0) (eC (.int 2))) aNil)) (eRd 1)) (gdName 3))
    (sSeq (sSetH 0 (eC (.int 2)) (e2 dFdiv (e2 dIx (eRd 0) (eC (.int 2))) (eRd 1)))
    (sRet (eVar 3)))) sNext)
    (sSeq (sSetH 0 (eC (.int 4)) (e2 dAdd (e2 dIx (eRd 0) (eC (.int 4))) (eC (.int 1))))
    (sSeq (sAsg (e2 dMod (eCB dInt (aCons (e2 dMul (eCB dInt (aCons (e2 dAdd (e2 dIx (eRd 0) (eC (.int 3))) (e2 dMul (eC (.int 7919)) (e2 dIx (eRd 0) (eC (.int 4))))) aNil)) (eC (.int 48271))) aNil)) (eC (.int 2147483647))) (gdName 4))
    (sSeq (sAsg (e2 dMod (eCB dInt (aCons (e2 dMul (eRd 4) (e2 dAdd (e2 dFdiv (eRd 4) (eC (.int 1009))) (eC (.int 69621)))) aNil)) (eC (.int 2147483647))) (gdName 4))
    (sSeq (sAsg (e2 dMod (eCB dInt (aCons (e2 dMul (eRd 4) (e2 dAdd (e2 dFdiv (eRd 4) (eC (.int 2003))) (eC (.int 40692)))) aNil)) (eC (.int 2147483399))) (gdName 4))
    (sRet (e2 dMod (eCB dInt (aCons (e2 dFdiv (eRd 4) (eC (.int 16))) aNil)) (eRd 1)))))))))
def drawMore : Nat := 3
abbrev m__law_draw : M := mDraw
/-- slots: 0 hand 1 things -/
def f__law_some : MS := (sRet (e2 dIx (eRd 1) (eCall m__law_draw (aCons (eVar 0) (aCons (eCB dLen (aCons (eRd 1) aNil)) aNil)))))
theorem ex__law_some : ∃ m : M, m = mBody 0 f__law_some := ⟨_, rfl⟩
noncomputable def m__law_some : M := Classical.choose ex__law_some
theorem m__law_some_eq : m__law_some = mBody 0 f__law_some := Classical.choose_spec ex__law_some
/-- slots: 0 hand 1 persons 2 things 3 low 4 wide 5 person 6 one -/
def f__law_rows : MS := (sSeq (sAsg (eCall m__law_some (aCons (eVar 0) (aCons (eNew (fLst (aCons (eC (.int 3)) (aCons (eC (.int 5)) (aCons (eC (.int 13)) aNil))))) aNil))) (gdName 4))
    (sRet (eNew (fLc (fRg1 (eVar 1)) (gdName 5) mYes (eNew (fLc (fRg1 (eVar 2)) (gdName 6) mYes (e2 dAdd (eRd 3) (eCall m__law_draw (aCons (eVar 0) (aCons (eVar 4) aNil)))) [6])) [5]))))
theorem ex__law_rows : ∃ m : M, m = mBody 3 f__law_rows := ⟨_, rfl⟩
noncomputable def m__law_rows : M := Classical.choose ex__law_rows
theorem m__law_rows_eq : m__law_rows = mBody 3 f__law_rows := Classical.choose_spec ex__law_rows
/-- slots: 0 rows 1 deal 2 person 3 owner 4 one 5 here -/
def f__law_sum : MS := (sRet (eCB dSum (aCons (eNew (fLc (fEnum (eRd 1)) (gdTup 2 (gdCons (gdName 4) (gdCons (gdName 5) gdNil))) (mVal (e2 dEq (eRd 5) (eRd 3))) (e2 dIx (e2 dIx (eRd 0) (eRd 2)) (eRd 4)) [4, 5])) aNil)))
theorem ex__law_sum : ∃ m : M, m = mBody 2 f__law_sum := ⟨_, rfl⟩
noncomputable def m__law_sum : M := Classical.choose ex__law_sum
theorem m__law_sum_eq : m__law_sum = mBody 2 f__law_sum := Classical.choose_spec ex__law_sum
/-- slots: 0 rows 1 deal 2 person -/
def f__law_gains : MS := (sRet (eCB dTuple (aCons (eNew (fLc (fRg1 (eCB dLen (aCons (eRd 0) aNil))) (gdName 2) mYes (eCall m__law_sum (aCons (eVar 0) (aCons (eVar 1) (aCons (eVar 2) (aCons (eVar 2) aNil))))) [2])) aNil)))
theorem ex__law_gains : ∃ m : M, m = mBody 1 f__law_gains := ⟨_, rfl⟩
noncomputable def m__law_gains : M := Classical.choose ex__law_gains
theorem m__law_gains_eq : m__law_gains = mBody 1 f__law_gains := Classical.choose_spec ex__law_gains
/-- slots: 0 things 1 found 2 one 3 lot -/
def f__law_lots : MS := (sSeq (sAsg (eNew (fLst (aCons (eTup aNil) aNil))) (gdName 1))
    (sSeq (sFor (fSeq (eVar 0)) (gdName 2) (sAsg (eNew (f2 dAddF (eRd 1) (eNew (fLc (fSeq (eRd 1)) (gdName 3) mYes (e2 dAdd (eRd 3) (eTup (aCons (eVar 2) aNil))) [3])))) (gdName 1)))
    (sRet (eVar 1))))
theorem ex__law_lots : ∃ m : M, m = mBody 3 f__law_lots := ⟨_, rfl⟩
noncomputable def m__law_lots : M := Classical.choose ex__law_lots
theorem m__law_lots_eq : m__law_lots = mBody 3 f__law_lots := Classical.choose_spec ex__law_lots
/-- slots: 0 row 1 things 2 whole 3 best 4 lot 5 here 6 least 7 one -/
def f__law_pair : MS := (sSeq (sMany [2, 3] (nSh (eCB dSum (aCons (eNew (fLc (fSeq (eRd 1)) (gdName 7) mYes (e2 dIx (eRd 0) (eRd 7)) [7])) aNil)) (nSh (eC .non) nNil)))
    (sSeq (sFor (fSeq (eCall m__law_lots (aCons (eVar 1) aNil))) (gdName 4) (sSeq (sAsg (eCB dSum (aCons (eNew (fLc (fSeq (eRd 4)) (gdName 7) mYes (e2 dIx (eRd 0) (eRd 7)) [7])) aNil)) (gdName 5))
    (sSeq (sAsg (eCB dMin (aCons (eRd 5) (aCons (e2 dSub (eRd 2) (eRd 5)) aNil))) (gdName 6))
    (sAsg (eIf (mOr (mVal (e2 dIs (eRd 3) (eC .non))) (mVal (e2 dGt (eRd 6) (eRd 3)))) (eVar 6) (eVar 3)) (gdName 3)))))
    (sRet (eVar 3))))
theorem ex__law_pair : ∃ m : M, m = mBody 6 f__law_pair := ⟨_, rfl⟩
noncomputable def m__law_pair : M := Classical.choose ex__law_pair
theorem m__law_pair_eq : m__law_pair = mBody 6 f__law_pair := Classical.choose_spec ex__law_pair
/-- slots: 0 rows 1 goals 2 left 3 deal 4 bag 5 one 6 content 7 here 8 person 9 owner -/
def f__law_bag : MS := (sSeq (sMany [2, 3, 4] (nOl (fLstRg (rRg1 (eCB dLen (aCons (eRd 0) aNil)))) (nOl (f2 dMulF (eNew (fLst (aCons (eC .non) aNil))) (eCB dLen (aCons (e2 dIx (eRd 0) (eC (.int 0))) aNil))) (nOl (fLst aNil) nNil))))
    (sSeq (sFor (fRg1 (eCB dLen (aCons (e2 dIx (eRd 0) (eC (.int 0))) aNil))) (gdName 5) (sSeq (sApp 4 (eVar 5))
    (sSeq (sAsg (eNew (fLc (fSeq (eRd 2)) (gdName 8) (mVal (e2 dGe (eCB dSum (aCons (eNew (fLc (fSeq (eRd 4)) (gdName 7) mYes (e2 dIx (e2 dIx (eRd 0) (eRd 8)) (eRd 7)) [7])) aNil)) (e2 dIx (eRd 1) (eRd 8)))) (eVar 8) [8])) (gdName 6))
    (sIf (mAnd (mVal (e2 dGt (eCB dLen (aCons (eRd 6) aNil)) (eC (.int 0)))) (mVal (e2 dGt (eCB dLen (aCons (eRd 2) aNil)) (eC (.int 1))))) (sSeq (sStill 4 (sFor (fSeq (eVar 4)) (gdName 7) (sSetI 3 (eVar 7) (e2 dIx (eRd 6) (eC (.int 0))))))
    (sSeq (sRem 2 (e2 dIx (eRd 6) (eC (.int 0))))
    (sOwn 4 (fLst aNil)))) sNext))))
    (sSeq (sIf (mVal (e2 dGt (eCB dLen (aCons (eRd 2) aNil)) (eC (.int 1)))) (sRet (eC .non)) sNext)
    (sRet (eCB dTuple (aCons (eNew (fLc (fSeq (eRd 3)) (gdName 9) mYes (eIf (mVal (e2 dIs (eRd 9) (eC .non))) (e2 dIx (eRd 2) (eC (.int 0))) (eVar 9)) [9])) aNil))))))
theorem ex__law_bag : ∃ m : M, m = mBody 8 f__law_bag := ⟨_, rfl⟩
noncomputable def m__law_bag : M := Classical.choose ex__law_bag
theorem m__law_bag_eq : m__law_bag = mBody 8 f__law_bag := Classical.choose_spec ex__law_bag
def l_1 : MS := (sMany [3, 4] (nSh (e2 dAdd (eC (.int 2)) (eCall m__law_draw (aCons (eVar 1) (aCons (eC (.int 2)) aNil)))) (nSh (eCall m__law_draw (aCons (eVar 1) (aCons (eC (.int 7)) aNil))) nNil)))
def l_2 : MS := (sAsg (eCall m__law_rows (aCons (eVar 1) (aCons (eVar 3) (aCons (eVar 4) (aCons (eC (.int 0)) aNil))))) (gdName 5))
def l_3 : MS := (sAsg (eMake "Table" m_Table (aCons (eVar 5) aNil)) (gdName 6))
def l_4 : MS := (sAsg (eCB dTuple (aCons (eNew (fLc (fRg1 (eVar 4)) (gdName 17) mYes (eCall m__law_draw (aCons (eVar 1) (aCons (eVar 3) aNil))) [17])) aNil)) (gdName 8))
def l_5 : MS := (sAsg (eC (.bl true)) (gdName 9))
def l_6 : MS := (sAsg (eNew (fLc (fRg1 (eVar 4)) (gdName 17) (mVal (e2 (dIn false) (e2 dIx (eRd 8) (eRd 17)) (eTup (aCons (eVar 10) (aCons (eVar 11) aNil))))) (eVar 17) [17])) (gdName 12))
def l_7 : MS := (sAsg (eCall m__law_pair (aCons (e2 dIx (eRd 5) (eRd 10)) (aCons (eVar 12) aNil))) (gdName 13))
def l_8 : MS := (sIf (mVal (e2 dNe (eCall m_pairs_share (aCons (eVar 6) (aCons (eVar 10) (aCons (eVar 11) (aCons (eVar 8) aNil))))) (eRd 13))) (sRet (eC (.bl false))) sNext)
def l_9 : MS := (sAsg (eAnd (eVar 9) (e2 dGe (eCall m__law_sum (aCons (eVar 5) (aCons (eVar 8) (aCons (eVar 10) (aCons (eVar 10) aNil))))) (eRd 13))) (gdName 9))
def l_10 : MS := (sIf (mVal (e2 dNe (eRd 11) (eRd 10))) (sSeq l_6
    (sSeq l_7
    (sSeq l_8
    l_9))) sNext)
def l_11 : MS := (sFor (fRg1 (eVar 3)) (gdName 11) l_10)
def l_12 : MS := (sFor (fRg1 (eVar 3)) (gdName 10) l_11)
def l_13 : MS := (sIf (mVal (e2 dNe (eCall m_is_kept_by_pairs (aCons (eVar 6) (aCons (eVar 8) aNil))) (eRd 9))) (sRet (eC (.bl false))) sNext)
def l_14 : MS := (sFor (fRg1 (eC (.int 3))) (gdName 7) (sSeq l_4
    (sSeq l_5
    (sSeq l_12
    l_13))))
def l_15 : MS := (sIf (mVal (e2 dIsNot (eCall m_is_kept_by_pairs (aCons (eVar 6) (aCons (eCall m__law_some (aCons (eVar 1) (aCons (eNew (fLst (aCons (eC .non) (aCons (eC (.int 0)) (aCons (eNew (fCB dList (aCons (eRd 8) aNil))) (aCons (eC (.str "deal")) (aCons (e2 dAdd (eRd 8) (eTup (aCons (eC (.int 0)) aNil))) aNil))))))) aNil))) aNil))) (eC (.bl false)))) (sRet (eC (.bl false))) sNext)
def l_16 : MS := (sAsg (eNew (fLc (fSeq (eRd 5)) (gdName 18) mYes (e2 dAdd (eC (.int 1)) (eCall m__law_draw (aCons (eVar 1) (aCons (e2 dAdd (e2 dAdd (eC (.int 1)) (e2 dFdiv (eCB dSum (aCons (eRd 18) aNil)) (eRd 3))) (eC (.int 2))) aNil)))) [18])) (gdName 14))
def l_17 : MS := (sMany [13, 15] (nSh (eCall m__law_bag (aCons (eVar 5) (aCons (eVar 14) aNil))) (nSh (eCall m_bag_filled (aCons (eVar 6) (aCons (eVar 14) aNil))) nNil)))
def l_18 : MS := (sIf (mVal (e2 dNe (e2 dIs (eRd 15) (eC .non)) (e2 dIs (eRd 13) (eC .non)))) (sRet (eC (.bl false))) sNext)
def l_19 : MS := (sIf (mVal (e2 dIsNot (eCall m_is_told_bag (aCons (eVar 6) (aCons (eVar 14) aNil))) (eC (.bl false)))) (sRet (eC (.bl false))) sNext)
def l_20 : MS := (sAsg (eCB dTuple (aCons (eNew (fLc (fRg1 (eVar 3)) (gdName 10) mYes (eCB dTuple (aCons (eNew (fLc (fRg1 (eVar 4)) (gdName 17) (mVal (e2 dEq (e2 dIx (eRd 13) (eRd 17)) (eRd 10))) (eVar 17) [17])) aNil)) [10])) aNil)) (gdName 16))
def l_21 : MS := (sIf (mOr (mVal (e2 dNe (e2 dIx (eRd 15) (eC (.int 0))) (eRd 13))) (mVal (e2 dNe (eCB dTuple (aCons (eNew (fLc (fSeq (e2 dIx (eRd 15) (eC (.int 1)))) (gdName 19) mYes (eCB dTuple (aCons (eRd 19) aNil)) [19])) aNil)) (eRd 16)))) (sRet (eC (.bl false))) sNext)
def l_22 : MS := (sAsg (eCB dAll (aCons (eNew (fLc (fZip (eCall m__law_gains (aCons (eVar 5) (aCons (eVar 13) aNil))) (eRd 14)) (gdTup 2 (gdCons (gdName 20) (gdCons (gdName 21) gdNil))) mYes (e2 dGe (eRd 20) (eRd 21)) [20, 21])) aNil)) (gdName 9))
def l_23 : MS := (sIf (mVal (e2 dNe (eCall m_is_told_bag (aCons (eVar 6) (aCons (eVar 14) aNil))) (eRd 9))) (sRet (eC (.bl false))) sNext)
def l_24 : MS := (sIf (mVal (e2 dIs (eRd 13) (eC .non))) l_19 (sSeq l_20
    (sSeq l_21
    (sSeq l_22
    l_23))))
def l_25 : MS := (sFor (fRg1 (eC (.int 3))) (gdName 2) (sSeq l_1
    (sSeq l_2
    (sSeq l_3
    (sSeq l_14
    (sSeq l_15
    (sSeq l_16
    (sSeq l_17
    (sSeq l_18
    l_24)))))))))
/-- slots: 0 script 1 hand 2 turn 3 persons 4 things 5 rows 6 table 7 lap 8 deal 9 fine 10 person 11 other 12 both 13 due 14 goals 15 told 16 lots_v 17 one 18 row 19 lot 20 gain 21 goal -/
def f_law : MS := (sSeq l_25
    (sRet (eC (.bl true))))
def lawSlot : Nat := 1
def lawMore : Nat := 21
end K12
/-! the drawing of a number: whatever the hand holds, a number below the limit -/
namespace K12
open PySem L2 Fd
theorem ix50 : ixN 5 0 = some 0 := rfl
theorem ix51 : ixN 5 1 = some 1 := rfl
theorem ix52 : ixN 5 2 = some 2 := rfl
theorem ix53 : ixN 5 3 = some 3 := rfl
theorem ix54 : ixN 5 4 = some 4 := rfl
theorem draw_works : ∀ (x : Addr) (cells : List Int) (i b s n k : Int), 0 ≤ i → cells.length ≤ 63 → 0 < k → k < 1073741824 →
    f__law_draw (.oh x (handD cells i b s n) :: .sh (.int k) :: List.replicate drawMore .no) ⟨fun _ => False, HandEnd x k, fun _ => False, fun _ => False⟩ (fun _ => False) := by
  intro x cells i b s n k hi hc hk hk2
  have cm1 : ∀ a : Int, CMul a 69621 := fun a => .inr (by omega)
  have cm2 : ∀ a : Int, CMul 7919 a := fun a => .inl (by omega)
  have cm3 : ∀ a : Int, CMul a 48271 := fun a => .inr (by omega)
  have cd : ∀ a : Int, CDiv a k := fun a => ⟨hk, hk2⟩
  have cd1 : ∀ a : Int, CDiv a 1009 := fun a => ⟨by omega, by omega⟩
  have cd2 : ∀ a : Int, CDiv a 2003 := fun a => ⟨by omega, by omega⟩
  have cd3 : ∀ a : Int, CDiv a 16 := fun a => ⟨by omega, by omega⟩
  have cp : CPow 10 18 := ⟨by omega, by omega, by decide⟩
  have cm4 : ∀ a c : Int, CMul (a % 2147483647) c := fun a c => .inl ⟨by have := Int.emod_nonneg a (b := 2147483647) (by omega); omega, by have := Int.emod_lt_of_pos a (b := 2147483647) (by omega); omega⟩
  have l0 : (0 : Int) < 2147483629 := by omega
  have l1 : (0 : Int) < 2147483647 := by omega
  have l2 : (0 : Int) < 2147483399 := by omega
  have fin : ∀ (i' b' s' n' d : Int) (e2 e3 e4 : En), 0 ≤ i' → HandEnd x k [.oh x [.lst (cells.map .int), .int i', .int b', .int s', .int n'], .sh (.int k), e2, e3, e4] (.int (d % k)) := fun i' b' s' n' d e2 e3 e4 h =>
    ⟨⟨_, rfl, Int.emod_nonneg _ (by omega), Int.emod_lt_of_pos _ hk⟩, cells, i', b', s', n', rfl, h, hc⟩
  by_cases hb : b = 0
  · have eb : (b == 0) = true := by simpa using hb
    have b0 : ¬ 0 < b := by omega
    by_cases hl : i < (cells.length : Int)
    · obtain ⟨j, rfl⟩ : ∃ j : Nat, i = (j : Int) := ⟨i.toNat, by omega⟩
      have hj : j < cells.length := by omega
      obtain ⟨c, hcell⟩ : ∃ c : Int, atI (cells.map D.int) (j : Int) = some (.int c) := ⟨cells[j], by rw [atI_n, List.getElem?_map, List.getElem?_eq_getElem hj]; rfl⟩
      have hP : (0 : Int) < 10 ^ Int.toNat 18 := by rw [show Int.toNat 18 = 18 from rfl]; omega
      by_cases hg : (10 : Int) ^ (Int.toNat 18) ≤ c
      · have hg0 : (0 : Int) < c := Int.lt_of_lt_of_le hP hg
        simp only [f__law_draw, drawMore, handD, ix50, ix51, ix52, ix53, ix54, eb, hl, hcell, hg, hg0, decide_true, eVar, eRd, eC, e2, dAdd, dSub, dMul, dFdiv, dMod, dPow, dII, dI0, dLtI, dLe, dGt, dGe, eAnd, eOr, eNot, eIf, eNeg, eChain, mTru, mVal, mAnd, mOr, mNot, mYes, dTru, eFld, eSl, oNone, oSome, eTup, fLst, eNew, eCB, fCB, dLen, dAbs, dInt, dTuple, dList, aNil, aCons, fLstRg, eTupRg, rRg1, rRg2, eIsi, fSeq, fRg1, fRg2, fEnum, fZip, D.items, gdName, gdTup, gdCons, gdNil, sSeq, sNext, sDrop, sRet, sRetN, sIf, sAsg, sOwn, sOwnD, sStill, sPar, sAugI, sApp, sExt, sSetI, sSetH, sFor, fLc, sMany, setAll, nNil, nSh, nOl, nOd, eCall, mBody, mDraw, mInit, eMake, sSelf, sSelf2, wipeE, dIx, dSl, List.getElem?_cons_zero, List.getElem?_cons_succ, List.set_cons_zero, List.set_cons_succ, List.replicate_succ, List.replicate_zero, List.map_cons, List.map_nil, List.cons_append, List.nil_append, List.length_cons, List.length_nil, List.length_map, atI_0, atI_1, atI_2, atI_3, atI_4, atI_n, ↓reduceIte, Bool.false_eq_true, dEq_int, dNe_int, Nat.reduceAdd, Nat.zero_add, cm1, l0, hk, cd, cp, true_and]
        exact fin _ _ _ _ _ _ _ _ (by omega)
      · simp only [f__law_draw, drawMore, handD, ix50, ix51, ix52, ix53, ix54, eb, b0, hl, hcell, hg, decide_true, decide_false, eVar, eRd, eC, e2, dAdd, dSub, dMul, dFdiv, dMod, dPow, dII, dI0, dLtI, dLe, dGt, dGe, eAnd, eOr, eNot, eIf, eNeg, eChain, mTru, mVal, mAnd, mOr, mNot, mYes, dTru, eFld, eSl, oNone, oSome, eTup, fLst, eNew, eCB, fCB, dLen, dAbs, dInt, dTuple, dList, aNil, aCons, fLstRg, eTupRg, rRg1, rRg2, eIsi, fSeq, fRg1, fRg2, fEnum, fZip, D.items, gdName, gdTup, gdCons, gdNil, sSeq, sNext, sDrop, sRet, sRetN, sIf, sAsg, sOwn, sOwnD, sStill, sPar, sAugI, sApp, sExt, sSetI, sSetH, sFor, fLc, sMany, setAll, nNil, nSh, nOl, nOd, eCall, mBody, mDraw, mInit, eMake, sSelf, sSelf2, wipeE, dIx, dSl, List.getElem?_cons_zero, List.getElem?_cons_succ, List.set_cons_zero, List.set_cons_succ, List.replicate_succ, List.replicate_zero, List.map_cons, List.map_nil, List.cons_append, List.nil_append, List.length_cons, List.length_nil, List.length_map, atI_0, atI_1, atI_2, atI_3, atI_4, atI_n, ↓reduceIte, Bool.false_eq_true, dEq_int, dNe_int, Nat.reduceAdd, Nat.zero_add, cm1, cm2, cm3, cm4, l0, l1, l2, hk, cd1, cd2, cd3, cp, true_and]
        exact fin _ _ _ _ _ _ _ _ (by omega)
    · simp only [f__law_draw, drawMore, handD, ix50, ix51, ix52, ix53, ix54, eb, b0, hl, decide_true, decide_false, eVar, eRd, eC, e2, dAdd, dSub, dMul, dFdiv, dMod, dPow, dII, dI0, dLtI, dLe, dGt, dGe, eAnd, eOr, eNot, eIf, eNeg, eChain, mTru, mVal, mAnd, mOr, mNot, mYes, dTru, eFld, eSl, oNone, oSome, eTup, fLst, eNew, eCB, fCB, dLen, dAbs, dInt, dTuple, dList, aNil, aCons, fLstRg, eTupRg, rRg1, rRg2, eIsi, fSeq, fRg1, fRg2, fEnum, fZip, D.items, gdName, gdTup, gdCons, gdNil, sSeq, sNext, sDrop, sRet, sRetN, sIf, sAsg, sOwn, sOwnD, sStill, sPar, sAugI, sApp, sExt, sSetI, sSetH, sFor, fLc, sMany, setAll, nNil, nSh, nOl, nOd, eCall, mBody, mDraw, mInit, eMake, sSelf, sSelf2, wipeE, dIx, dSl, List.getElem?_cons_zero, List.getElem?_cons_succ, List.set_cons_zero, List.set_cons_succ, List.replicate_succ, List.replicate_zero, List.map_cons, List.map_nil, List.cons_append, List.nil_append, List.length_cons, List.length_nil, List.length_map, atI_0, atI_1, atI_2, atI_3, atI_4, atI_n, ↓reduceIte, Bool.false_eq_true, dEq_int, dNe_int, Nat.reduceAdd, Nat.zero_add, cm1, cm2, cm3, cm4, l0, l1, l2, hk, cd1, cd2, cd3, cp, true_and]
      exact fin _ _ _ _ _ _ _ _ hi
  · have eb : (b == 0) = false := by simpa using hb
    by_cases hp : 0 < b
    · simp only [f__law_draw, drawMore, handD, ix50, ix51, ix52, ix53, ix54, eb, hp, hk, decide_true, decide_false, eVar, eRd, eC, e2, dAdd, dSub, dMul, dFdiv, dMod, dPow, dII, dI0, dLtI, dLe, dGt, dGe, eAnd, eOr, eNot, eIf, eNeg, eChain, mTru, mVal, mAnd, mOr, mNot, mYes, dTru, eFld, eSl, oNone, oSome, eTup, fLst, eNew, eCB, fCB, dLen, dAbs, dInt, dTuple, dList, aNil, aCons, fLstRg, eTupRg, rRg1, rRg2, eIsi, fSeq, fRg1, fRg2, fEnum, fZip, D.items, gdName, gdTup, gdCons, gdNil, sSeq, sNext, sDrop, sRet, sRetN, sIf, sAsg, sOwn, sOwnD, sStill, sPar, sAugI, sApp, sExt, sSetI, sSetH, sFor, fLc, sMany, setAll, nNil, nSh, nOl, nOd, eCall, mBody, mDraw, mInit, eMake, sSelf, sSelf2, wipeE, dIx, dSl, List.getElem?_cons_zero, List.getElem?_cons_succ, List.set_cons_zero, List.set_cons_succ, List.replicate_succ, List.replicate_zero, List.map_cons, List.map_nil, List.cons_append, List.nil_append, List.length_cons, List.length_nil, List.length_map, atI_0, atI_1, atI_2, atI_3, atI_4, atI_n, ↓reduceIte, Bool.false_eq_true, dEq_int, dNe_int, Nat.reduceAdd, Nat.zero_add, cd, true_and]
      exact fin _ _ _ _ _ _ _ _ hi
    · simp only [f__law_draw, drawMore, handD, ix50, ix51, ix52, ix53, ix54, eb, hp, hk, l1, l2, decide_true, decide_false, eVar, eRd, eC, e2, dAdd, dSub, dMul, dFdiv, dMod, dPow, dII, dI0, dLtI, dLe, dGt, dGe, eAnd, eOr, eNot, eIf, eNeg, eChain, mTru, mVal, mAnd, mOr, mNot, mYes, dTru, eFld, eSl, oNone, oSome, eTup, fLst, eNew, eCB, fCB, dLen, dAbs, dInt, dTuple, dList, aNil, aCons, fLstRg, eTupRg, rRg1, rRg2, eIsi, fSeq, fRg1, fRg2, fEnum, fZip, D.items, gdName, gdTup, gdCons, gdNil, sSeq, sNext, sDrop, sRet, sRetN, sIf, sAsg, sOwn, sOwnD, sStill, sPar, sAugI, sApp, sExt, sSetI, sSetH, sFor, fLc, sMany, setAll, nNil, nSh, nOl, nOd, eCall, mBody, mDraw, mInit, eMake, sSelf, sSelf2, wipeE, dIx, dSl, List.getElem?_cons_zero, List.getElem?_cons_succ, List.set_cons_zero, List.set_cons_succ, List.replicate_succ, List.replicate_zero, List.map_cons, List.map_nil, List.cons_append, List.nil_append, List.length_cons, List.length_nil, List.length_map, atI_0, atI_1, atI_2, atI_3, atI_4, atI_n, ↓reduceIte, Bool.false_eq_true, dEq_int, dNe_int, Nat.reduceAdd, Nat.zero_add, cm1, cm2, cm3, cm4, cd1, cd2, cd3, true_and]
      exact fin _ _ _ _ _ _ _ _ hi
end K12
set_option maxHeartbeats 4000000
/-! printed by gen.py: the defs do that -/
namespace K12
open PySem PySem.Spec L2 Fd
def top (i : Nat) : Stmt := PySem.Challenge.pw_fairdeals_k12_whole_shares_by_pairs_and.main.body.getD i (.Pass ⟨0, 0, 0, 0⟩)
structure Txt (K : PySem.W.Frag) (mg : Str → Option Value) : Prop where
  f_is_integer : ∃ fd, FunD K "is_integer" "is_integer" (defArgs (top 7)) (defBody (top 7)) (defScope (top 7)) [] [] (He.ga K "is_integer") fd
  g_is_integer : mg "is_integer" = some (.ref (He.ga K "is_integer"))
  f_is_within : ∃ fd, FunD K "is_within" "is_within" (defArgs (top 8)) (defBody (top 8)) (defScope (top 8)) [] [] (He.ga K "is_within") fd
  g_is_within : mg "is_within" = some (.ref (He.ga K "is_within"))
  f_is_row : ∃ fd, FunD K "is_row" "is_row" (defArgs (top 9)) (defBody (top 9)) (defScope (top 9)) [] [] (He.ga K "is_row") fd
  g_is_row : mg "is_row" = some (.ref (He.ga K "is_row"))
  f_Table : ∃ fd, FunD K "__init__" "Table.__init__" (defArgs (inClass (top 14) 0)) (defBody (inClass (top 14) 0)) (defScope (inClass (top 14) 0)) [] [] (He.ma K (He.ga K "Table") "__init__") fd
  g_Table : mg "Table" = some (.ref (He.ga K "Table"))
  mk_Table : Mk K (He.ga K "Table") (He.ma K (He.ga K "Table") "__init__")
  f_check_person : ∃ fd, FunD K "check_person" "check_person" (defArgs (top 15)) (defBody (top 15)) (defScope (top 15)) [] [] (He.ga K "check_person") fd
  g_check_person : mg "check_person" = some (.ref (He.ga K "check_person"))
  f_is_lot : ∃ fd, FunD K "is_lot" "is_lot" (defArgs (top 16)) (defBody (top 16)) (defScope (top 16)) [] [] (He.ga K "is_lot") fd
  g_is_lot : mg "is_lot" = some (.ref (He.ga K "is_lot"))
  f_check_lot : ∃ fd, FunD K "check_lot" "check_lot" (defArgs (top 17)) (defBody (top 17)) (defScope (top 17)) [] [] (He.ga K "check_lot") fd
  g_check_lot : mg "check_lot" = some (.ref (He.ga K "check_lot"))
  f_worth : ∃ fd, FunD K "worth" "worth" (defArgs (top 18)) (defBody (top 18)) (defScope (top 18)) [] [] (He.ga K "worth") fd
  g_worth : mg "worth" = some (.ref (He.ga K "worth"))
  f_is_deal : ∃ fd, FunD K "is_deal" "is_deal" (defArgs (top 19)) (defBody (top 19)) (defScope (top 19)) [] [] (He.ga K "is_deal") fd
  g_is_deal : mg "is_deal" = some (.ref (He.ga K "is_deal"))
  f_check_deal : ∃ fd, FunD K "check_deal" "check_deal" (defArgs (top 20)) (defBody (top 20)) (defScope (top 20)) [] [] (He.ga K "check_deal") fd
  g_check_deal : mg "check_deal" = some (.ref (He.ga K "check_deal"))
  f_lots : ∃ fd, FunD K "lots" "lots" (defArgs (top 21)) (defBody (top 21)) (defScope (top 21)) [] [] (He.ga K "lots") fd
  g_lots : mg "lots" = some (.ref (He.ga K "lots"))
  f_gains : ∃ fd, FunD K "gains" "gains" (defArgs (top 22)) (defBody (top 22)) (defScope (top 22)) [] [] (He.ga K "gains") fd
  g_gains : mg "gains" = some (.ref (He.ga K "gains"))
  f_pairs_share : ∃ fd, FunD K "pairs_share" "pairs_share" (defArgs (top 24)) (defBody (top 24)) (defScope (top 24)) [] [] (He.ga K "pairs_share") fd
  g_pairs_share : mg "pairs_share" = some (.ref (He.ga K "pairs_share"))
  f_is_kept_by_pairs : ∃ fd, FunD K "is_kept_by_pairs" "is_kept_by_pairs" (defArgs (top 25)) (defBody (top 25)) (defScope (top 25)) [] [] (He.ga K "is_kept_by_pairs") fd
  g_is_kept_by_pairs : mg "is_kept_by_pairs" = some (.ref (He.ga K "is_kept_by_pairs"))
  f_bag_filled : ∃ fd, FunD K "bag_filled" "bag_filled" (defArgs (top 26)) (defBody (top 26)) (defScope (top 26)) [] [] (He.ga K "bag_filled") fd
  g_bag_filled : mg "bag_filled" = some (.ref (He.ga K "bag_filled"))
  f_is_told_bag : ∃ fd, FunD K "is_told_bag" "is_told_bag" (defArgs (top 27)) (defBody (top 27)) (defScope (top 27)) [] [] (He.ga K "is_told_bag") fd
  g_is_told_bag : mg "is_told_bag" = some (.ref (He.ga K "is_told_bag"))
  f__law_hand : ∃ fd, FunD K "_law_hand" "_law_hand" (defArgs (top 29)) (defBody (top 29)) (defScope (top 29)) [] [] (He.ga K "_law_hand") fd
  g__law_hand : mg "_law_hand" = some (.ref (He.ga K "_law_hand"))
  f__law_draw : ∃ fd, FunD K "_law_draw" "_law_draw" (defArgs (top 30)) (defBody (top 30)) (defScope (top 30)) [] [] (He.ga K "_law_draw") fd
  g__law_draw : mg "_law_draw" = some (.ref (He.ga K "_law_draw"))
  f__law_some : ∃ fd, FunD K "_law_some" "_law_some" (defArgs (top 31)) (defBody (top 31)) (defScope (top 31)) [] [] (He.ga K "_law_some") fd
  g__law_some : mg "_law_some" = some (.ref (He.ga K "_law_some"))
  f__law_rows : ∃ fd, FunD K "_law_rows" "_law_rows" (defArgs (top 32)) (defBody (top 32)) (defScope (top 32)) [] [] (He.ga K "_law_rows") fd
  g__law_rows : mg "_law_rows" = some (.ref (He.ga K "_law_rows"))
  f__law_sum : ∃ fd, FunD K "_law_sum" "_law_sum" (defArgs (top 33)) (defBody (top 33)) (defScope (top 33)) [] [] (He.ga K "_law_sum") fd
  g__law_sum : mg "_law_sum" = some (.ref (He.ga K "_law_sum"))
  f__law_gains : ∃ fd, FunD K "_law_gains" "_law_gains" (defArgs (top 34)) (defBody (top 34)) (defScope (top 34)) [] [] (He.ga K "_law_gains") fd
  g__law_gains : mg "_law_gains" = some (.ref (He.ga K "_law_gains"))
  f__law_lots : ∃ fd, FunD K "_law_lots" "_law_lots" (defArgs (top 35)) (defBody (top 35)) (defScope (top 35)) [] [] (He.ga K "_law_lots") fd
  g__law_lots : mg "_law_lots" = some (.ref (He.ga K "_law_lots"))
  f__law_pair : ∃ fd, FunD K "_law_pair" "_law_pair" (defArgs (top 36)) (defBody (top 36)) (defScope (top 36)) [] [] (He.ga K "_law_pair") fd
  g__law_pair : mg "_law_pair" = some (.ref (He.ga K "_law_pair"))
  f__law_bag : ∃ fd, FunD K "_law_bag" "_law_bag" (defArgs (top 37)) (defBody (top 37)) (defScope (top 37)) [] [] (He.ga K "_law_bag") fd
  g__law_bag : mg "_law_bag" = some (.ref (He.ga K "_law_bag"))
  f_law : ∃ fd, FunD K "law" "law" (defArgs (top 38)) (defBody (top 38)) (defScope (top 38)) [] [] (He.ga K "law") fd
  g_law : mg "law" = some (.ref (He.ga K "law"))
  i_MOST_PERSONS : ∃ t, mg "MOST_PERSONS" = some (.int (5) t)
  i_MOST_THINGS : ∃ t, mg "MOST_THINGS" = some (.int (9) t)
  i_MOST_WORTH : ∃ t, mg "MOST_WORTH" = some (.int (100) t)
  b_abs : mg "abs" = none
  b_all : mg "all" = none
  b_bool : mg "bool" = none
  b_enumerate : mg "enumerate" = none
  b_int : mg "int" = none
  b_isinstance : mg "isinstance" = none
  b_len : mg "len" = none
  b_list : mg "list" = none
  b_min : mg "min" = none
  b_range : mg "range" = none
  b_sum : mg "sum" = none
  b_tuple : mg "tuple" = none
  b_zip : mg "zip" = none
  fl_persons : FldOk K ["Table"] "persons"
  fs_Table_persons : FldOk K ["Table"] "persons"
  fl_rows : FldOk K ["Table"] "rows"
  fs_Table_rows : FldOk K ["Table"] "rows"
  fl_things : FldOk K ["Table"] "things"
  fs_Table_things : FldOk K ["Table"] "things"
section
variable {P : Program} {w : World} {K : PySem.W.Frag} {mg : Str → Option Value} {base : Heap}
abbrev s_is_integer : Stmt := top 7
theorem sc_is_integer : FnScope ["thing"] ["thing"] (defScope s_is_integer) := ⟨rfl, rfl, rfl, by decide +kernel, rfl, by decide +kernel, by decide +kernel⟩
theorem c_is_integer (T : Txt K mg) : Cal P w K mg base 1 "is_integer" 1 m_is_integer := m_is_integer_eq.symm ▸ cal_of (N := ["thing"]) (ps := ["thing"]) (st := s_is_integer) (j := 0) (f := f_is_integer) T.f_is_integer T.g_is_integer sc_is_integer rfl rfl (fun cdv A outer s H E hr => ⟨_, (pss_one (ps_ret (pe_andT (pe_callB call_isi (by rfl) T.b_isinstance bt_isinstance (pa_cons (pv 0) (pa_cons (pe_bltn (v := .ty "int") (by rfl) T.b_int bt_int rfl) pa_nil))) (pe_one (pe_notT (pe_callB call_isi (by rfl) T.b_isinstance bt_isinstance (pa_cons (pv 0) (pa_cons (pe_bltn (v := .ty "bool") (by rfl) T.b_bool bt_bool rfl) pa_nil)))))))),
    dsK fun a0 h0 hs0 W hW => by
    exact (ds_ret (dt_and (dt_isi (by decide) (db_rd 0)) (dt_not ((dt_isi (by decide) (db_rd 0))).b)))⟩)
  (fun _ _ _ _ _ _ us hl => match us, hl with | [_], _ => rfl)
abbrev s_is_within : Stmt := top 8
theorem sc_is_within : FnScope ["thing", "low", "high"] ["thing", "low", "high"] (defScope s_is_within) := ⟨rfl, rfl, rfl, by decide +kernel, rfl, by decide +kernel, by decide +kernel⟩
theorem c_is_within (T : Txt K mg) : Cal P w K mg base 2 "is_within" 3 m_is_within := m_is_within_eq.symm ▸ cal_of (N := ["thing", "low", "high"]) (ps := ["thing", "low", "high"]) (st := s_is_within) (j := 0) (f := f_is_within) T.f_is_within T.g_is_within sc_is_within rfl rfl (fun cdv A outer s H E hr => ⟨_, (pss_one (ps_ret (pe_andT (pe_cal (c_is_integer T) (hr.mono (by decide)) (by rfl) (pa_cons (pv 0) pa_nil)) (pe_one (pe_chain op_le op_le (pv 1) (pv 0) (pv 2)))))),
    dsK fun a0 h0 hs0 W hW => by
    exact (ds_ret (dt_and (dt_call hW (dan_cons (dt_var 0) dan_nil)) (dt_chain d2_le d2_le (db_rd 1) (db_rd 0) (db_rd 2))))⟩)
  (fun _ _ _ _ _ _ us hl => match us, hl with | [_, _, _], _ => rfl)
abbrev s_is_row : Stmt := top 9
theorem sc_is_row : FnScope ["thing"] ["thing"] (defScope s_is_row) := ⟨rfl, rfl, rfl, by decide +kernel, rfl, by decide +kernel, by decide +kernel⟩
theorem c_is_row (T : Txt K mg) : Cal P w K mg base 1 "is_row" 1 m_is_row := m_is_row_eq.symm ▸ cal_of (N := ["thing"]) (ps := ["thing"]) (st := s_is_row) (j := 0) (f := f_is_row) T.f_is_row T.g_is_row sc_is_row rfl rfl (fun cdv A outer s H E hr => ⟨_, (pss_one (ps_ret (pe_callB call_isiT (by rfl) T.b_isinstance bt_isinstance (pa_cons (pv 0) (pa_cons (pe_tup (pa_cons (pe_bltn (v := .ty "list") (by rfl) T.b_list bt_list rfl) (pa_cons (pe_bltn (v := .ty "tuple") (by rfl) T.b_tuple bt_tuple rfl) pa_nil))) pa_nil))))),
    dsK fun a0 h0 hs0 W hW => by
    exact (ds_ret (dt_isiT (ns := ["list", "tuple"]) (by decide) (by decide) (db_rd 0)))⟩)
  (fun _ _ _ _ _ _ us hl => match us, hl with | [_], _ => rfl)
abbrev s_Table : Stmt := inClass (top 14) 0
theorem sc_Table : FnScope ["self", "rows", "place", "row", "one"] ["self", "rows"] (defScope s_Table) := ⟨rfl, rfl, rfl, by decide +kernel, rfl, by decide +kernel, by decide +kernel⟩
theorem c_Table (T : Txt K mg) : Mak P w K mg base 3 "Table" 1 m_Table := m_Table_eq.symm ▸ mak_of (N := ["self", "rows", "place", "row", "one"]) (ps := ["self", "rows"]) (st := s_Table) (j := 3) (f := f_Table) T.mk_Table T.f_Table T.g_Table sc_Table rfl rfl (fun cdv A outer s H E hr => ⟨_, (pss_cons (ps_if (PW.pt (pw_or (pt_not (pt_tru (pe_cal (c_is_row T) (hr.mono (by decide)) (by rfl) (pa_cons (pv 1) pa_nil)))) (pw_or1 (pt_not (pt_chain op_le op_le pe_int (pe_callB call_lenX (by rfl) T.b_len bt_len (pa_cons (pv 1) pa_nil)) (pe_gint (by rfl) T.i_MOST_PERSONS)))))) (pss_one ps_never) pss_nil)
    (pss_cons (ps_for PassesOwn.never rfl (pi_enumK (by rfl) T.b_enumerate (pv 1)) (pg_tup (n := 2) rfl (pgs_cons (pg_name (i := 2) sc_Table.nd rfl (by first | exact Or.inl rfl | exact Or.inr rfl)) (pgs_cons (pg_name (i := 3) sc_Table.nd rfl (by first | exact Or.inl rfl | exact Or.inr rfl)) pgs_nil))) (pss_cons (ps_if (PW.pt (pw_or (pt_not (pt_tru (pe_cal (c_is_row T) (hr.mono (by decide)) (by rfl) (pa_cons (pv 3) pa_nil)))) (pw_or (pt_cmpR op_gt (pe_callB call_lenX (by rfl) T.b_len bt_len (pa_cons (pv 3) pa_nil)) (pe_gint (by rfl) T.i_MOST_THINGS) (nomark _)) (pw_or (pt_not (pt_tru (pe_cal (c_is_row T) (hr.mono (by decide)) (by rfl) (pa_cons (pe_ix ix_seq (pv 1) pe_int (fun _ _ => rfl)) pa_nil)))) (pw_or1 (pt_cmpR (op_neD hr.units) (pe_callB call_lenX (by rfl) T.b_len bt_len (pa_cons (pv 3) pa_nil)) (pe_callB call_lenX (by rfl) T.b_len bt_len (pa_cons (pe_ix ix_seq (pv 1) pe_int (fun _ _ => rfl)) pa_nil)) (nomark _))))))) (pss_one ps_never) pss_nil)
    (pss_one (ps_if (pt_not (pt_tru (pe_callB (cr_all rfl) (by rfl) T.b_all bt_all (pa_cons (pe_lc (own := [("one", 4)]) (g := (gName 4)) (tt := tYes) (te := (tCall (spOf K 3 m_is_within) [] E0 (tCons (tVar 4) (tCons (tUn (rU fun i => .int (-i)) (tC (.int (100)))) (tCons (tC (.int (100))) tNil))))) rfl sc_Table.nd (pi_seq (pv 3)) (blkOk_by (by kernel_rfl)) (fun _ _ _ _ _ => (pg_name (i := 4) sc_Table.nd rfl (by first | exact Or.inl rfl | exact Or.inr rfl))) (fun _ _ _ _ _ => pts_nil) (fun _ _ _ _ _ => (pe_cal (c_is_within T) (hr.mono (by decide)) (by rfl) (pa_cons (pv 4) (pa_cons (pe_un un_neg (pe_gint (by rfl) T.i_MOST_WORTH)) (pa_cons (pe_gint (by rfl) T.i_MOST_WORTH) pa_nil)))))) pa_nil)))) (pss_one ps_never) pss_nil))))
    (pss_cons (ps_asg (pe_tup (pa_cons (pe_callB call_lenX (by rfl) T.b_len bt_len (pa_cons (pv 1) pa_nil)) (pa_cons (pe_callB call_lenX (by rfl) T.b_len bt_len (pa_cons (pe_ix ix_seq (pv 1) pe_int (fun _ _ => rfl)) pa_nil)) pa_nil))) (pg_tup (n := 2) rfl (pgs_cons (pg_fld (pv 0)) (pgs_cons (pg_fld (pv 0)) pgs_nil))))
    (pss_one (ps_fld (pv 0) (pe_callTy callA_tuple (by rfl) T.b_tuple bt_tuple (pa_cons (pe_lc (own := [("row", 3)]) (g := (gName 3)) (tt := tYes) (te := (tCB (rTupleOf K) (tCons (tVar 3) tNil))) rfl sc_Table.nd (pi_seq (pv 1)) (blkOk_by (by kernel_rfl)) (fun _ _ _ _ _ => (pg_name (i := 3) sc_Table.nd rfl (by first | exact Or.inl rfl | exact Or.inr rfl))) (fun _ _ _ _ _ => pts_nil) (fun _ _ _ _ _ => (pe_callTy callA_tuple (by rfl) T.b_tuple bt_tuple (pa_cons (pv 3) pa_nil)))) pa_nil)) rfl))))),
    dsK fun a0 h0 hs0 W hW => by
    exact (ds_seq (ds_if (dtt_or (dtt_not (dtt_tru ((dt_call hW (dan_cons (dt_var 1) dan_nil))).b)) (dtt_not (dtt_val (dt_chain d2_le d2_le ((dt_int 1)).b ((dt_cb dc_len (dba_cons (db_rd 1) dba_nil))).b ((dt_int (5))).b)))) ds_never ds_next)
    (ds_seq (ds_for (di_enum (dt_var 1)) (dg_tup (n := 2) (dgs_cons (dg_name 2) (dgs_cons (dg_name 3) dgs_nil))) (ds_seq (ds_if (dtt_or (dtt_not (dtt_tru ((dt_call hW (dan_cons (dt_var 3) dan_nil))).b)) (dtt_or (dtt_val (dt_op d2_gt ((dt_cb dc_len (dba_cons (db_rd 3) dba_nil))).b ((dt_int (9))).b)) (dtt_or (dtt_not (dtt_tru ((dt_call hW (dan_cons (dt_op d2_ix (db_rd 1) ((dt_int 0)).b) dan_nil))).b)) (dtt_val (dt_op d2_ne ((dt_cb dc_len (dba_cons (db_rd 3) dba_nil))).b ((dt_cb dc_len (dba_cons ((dt_op d2_ix (db_rd 1) ((dt_int 0)).b)).b dba_nil))).b))))) ds_never ds_next)
    (ds_if (dtt_not (dtt_tru ((dt_cb dc_all (dba_cons ((DF.t (df_lc (dib_seq (db_rd 3)) (dg_name 4) (by decide) dtt_yes (dt_call hW (dan_cons (dt_var 4) (dan_cons (dt_neg ((dt_int (100))).b) (dan_cons (dt_int (100)) dan_nil))))))).b dba_nil))).b)) ds_never ds_next)))
    (ds_seq (ds_self2 T.fs_Table_persons T.fs_Table_things (da_cons (dt_cb dc_len (dba_cons (db_rd 1) dba_nil)) (da_cons (dt_cb dc_len (dba_cons ((dt_op d2_ix (db_rd 1) ((dt_int 0)).b)).b dba_nil)) da_nil)))
    (ds_self T.fs_Table_rows (dt_cb dc_tuple (dba_cons ((DF.t (df_lc (dib_seq (db_rd 1)) (dg_name 3) (by decide) dtt_yes (dt_cb dc_tuple (dba_cons (db_rd 3) dba_nil))))).b dba_nil))))))⟩)
  (fun _ _ _ _ _ _ us hl => match us, hl with | [_, _], _ => rfl)
abbrev s_check_person : Stmt := top 15
theorem sc_check_person : FnScope ["table", "person"] ["table", "person"] (defScope s_check_person) := ⟨rfl, rfl, rfl, by decide +kernel, rfl, by decide +kernel, by decide +kernel⟩
theorem c_check_person (T : Txt K mg) : Cal P w K mg base 3 "check_person" 2 m_check_person := m_check_person_eq.symm ▸ cal_of (N := ["table", "person"]) (ps := ["table", "person"]) (st := s_check_person) (j := 0) (f := f_check_person) T.f_check_person T.g_check_person sc_check_person rfl rfl (fun cdv A outer s H E hr => ⟨_, (pss_one (ps_if (pt_not (pt_tru (pe_cal (c_is_within T) (hr.mono (by decide)) (by rfl) (pa_cons (pv 1) (pa_cons pe_int (pa_cons (pe_op op_sub (pe_fld (pv 0) rfl) pe_int) pa_nil)))))) (pss_one ps_never) pss_nil)),
    dsK fun a0 h0 hs0 W hW => by
    exact (ds_if (dtt_not (dtt_tru ((dt_call hW (dan_cons (dt_var 1) (dan_cons (dt_int 0) (dan_cons (dt_op d2_sub ((dt_fld T.fl_persons (db_rd 0))).b ((dt_int 1)).b) dan_nil))))).b)) ds_never ds_next)⟩)
  (fun _ _ _ _ _ _ us hl => match us, hl with | [_, _], _ => rfl)
abbrev s_is_lot : Stmt := top 16
theorem sc_is_lot : FnScope ["table", "thing", "one", "other"] ["table", "thing"] (defScope s_is_lot) := ⟨rfl, rfl, rfl, by decide +kernel, rfl, by decide +kernel, by decide +kernel⟩
theorem c_is_lot (T : Txt K mg) : Cal P w K mg base 3 "is_lot" 2 m_is_lot := m_is_lot_eq.symm ▸ cal_of (N := ["table", "thing", "one", "other"]) (ps := ["table", "thing"]) (st := s_is_lot) (j := 2) (f := f_is_lot) T.f_is_lot T.g_is_lot sc_is_lot rfl rfl (fun cdv A outer s H E hr => ⟨_, (pss_cons (ps_if (PW.pt (pw_or (pt_not (pt_tru (pe_callB call_isi (by rfl) T.b_isinstance bt_isinstance (pa_cons (pv 1) (pa_cons (pe_bltn (v := .ty "tuple") (by rfl) T.b_tuple bt_tuple rfl) pa_nil))))) (pw_or1 (pt_not (pt_tru (pe_callB (cr_all rfl) (by rfl) T.b_all bt_all (pa_cons (pe_lc (own := [("one", 2)]) (g := (gName 2)) (tt := tYes) (te := (tCall (spOf K 3 m_is_within) [] E0 (tCons (tVar 2) (tCons (tC (.int 0)) (tCons (tOp (rI0 fun i j => .int (i - j)) (tFld K (tVar 0) "things") (tC (.int 1))) tNil))))) rfl sc_is_lot.nd (pi_seq (pv 1)) (blkOk_by (by kernel_rfl)) (fun _ _ _ _ _ => (pg_name (i := 2) sc_is_lot.nd rfl (by first | exact Or.inl rfl | exact Or.inr rfl))) (fun _ _ _ _ _ => pts_nil) (fun _ _ _ _ _ => (pe_cal (c_is_within T) (hr.mono (by decide)) (by rfl) (pa_cons (pv 2) (pa_cons pe_int (pa_cons (pe_op op_sub (pe_fld (pv 0) rfl) pe_int) pa_nil)))))) pa_nil))))))) (pss_one (ps_ret pe_bl)) pss_nil)
    (pss_one (ps_ret (pe_callB (cr_all rfl) (by rfl) T.b_all bt_all (pa_cons (pe_lc (own := [("one", 2), ("other", 3)]) (g := (gTup K 2 (gCons (gName 2) (gCons (gName 3) gNil)))) (tt := tYes) (te := (tOp (rI0 fun i j => .bl (decide (i < j))) (tVar 2) (tVar 3))) rfl sc_is_lot.nd (pi_zipK (by rfl) T.b_zip (pv 1) (pe_slice sl_anyX (pv 1) (po_some pe_int) po_none)) (blkOk_by (by kernel_rfl)) (fun _ _ _ _ _ => (pg_tup (n := 2) rfl (pgs_cons (pg_name (i := 2) sc_is_lot.nd rfl (by first | exact Or.inl rfl | exact Or.inr rfl)) (pgs_cons (pg_name (i := 3) sc_is_lot.nd rfl (by first | exact Or.inl rfl | exact Or.inr rfl)) pgs_nil)))) (fun _ _ _ _ _ => pts_nil) (fun _ _ _ _ _ => (pe_cmpR op_lt (pv 2) (pv 3) (nomark _)))) pa_nil))))),
    dsK fun a0 h0 hs0 W hW => by
    exact (ds_seq (ds_if (dtt_or (dtt_not (dtt_tru ((dt_isi (by decide) (db_rd 1))).b)) (dtt_not (dtt_tru ((dt_cb dc_all (dba_cons ((DF.t (df_lc (dib_seq (db_rd 1)) (dg_name 2) (by decide) dtt_yes (dt_call hW (dan_cons (dt_var 2) (dan_cons (dt_int 0) (dan_cons (dt_op d2_sub ((dt_fld T.fl_things (db_rd 0))).b ((dt_int 1)).b) dan_nil))))))).b dba_nil))).b))) (ds_ret (dt_bl false)) ds_next)
    (ds_ret (dt_cb dc_all (dba_cons ((DF.t (df_lc (dib_zip (db_rd 1) ((dt_sl (db_rd 1) (do_some (dt_int 1)) do_none)).b) (dg_tup (n := 2) (dgs_cons (dg_name 2) (dgs_cons (dg_name 3) dgs_nil))) (by decide) dtt_yes (dt_op d2_ltI (db_rd 2) (db_rd 3))))).b dba_nil))))⟩)
  (fun _ _ _ _ _ _ us hl => match us, hl with | [_, _], _ => rfl)
abbrev s_check_lot : Stmt := top 17
theorem sc_check_lot : FnScope ["table", "lot"] ["table", "lot"] (defScope s_check_lot) := ⟨rfl, rfl, rfl, by decide +kernel, rfl, by decide +kernel, by decide +kernel⟩
theorem c_check_lot (T : Txt K mg) : Cal P w K mg base 4 "check_lot" 2 m_check_lot := m_check_lot_eq.symm ▸ cal_of (N := ["table", "lot"]) (ps := ["table", "lot"]) (st := s_check_lot) (j := 0) (f := f_check_lot) T.f_check_lot T.g_check_lot sc_check_lot rfl rfl (fun cdv A outer s H E hr => ⟨_, (pss_one (ps_if (pt_not (pt_tru (pe_cal (c_is_lot T) (hr.mono (by decide)) (by rfl) (pa_cons (pv 0) (pa_cons (pv 1) pa_nil))))) (pss_one ps_never) pss_nil)),
    dsK fun a0 h0 hs0 W hW => by
    exact (ds_if (dtt_not (dtt_tru ((dt_call hW (dan_cons (dt_var 0) (dan_cons (dt_var 1) dan_nil)))).b)) ds_never ds_next)⟩)
  (fun _ _ _ _ _ _ us hl => match us, hl with | [_, _], _ => rfl)
abbrev s_worth : Stmt := top 18
theorem sc_worth : FnScope ["table", "person", "lot", "one"] ["table", "person", "lot"] (defScope s_worth) := ⟨rfl, rfl, rfl, by decide +kernel, rfl, by decide +kernel, by decide +kernel⟩
theorem c_worth (T : Txt K mg) : Cal P w K mg base 5 "worth" 3 m_worth := m_worth_eq.symm ▸ cal_of (N := ["table", "person", "lot", "one"]) (ps := ["table", "person", "lot"]) (st := s_worth) (j := 1) (f := f_worth) T.f_worth T.g_worth sc_worth rfl rfl (fun cdv A outer s H E hr => ⟨_, (pss_cons (ps_expr (pe_cal (c_check_person T) (hr.mono (by decide)) (by rfl) (pa_cons (pv 0) (pa_cons (pv 1) pa_nil))))
    (pss_cons (ps_expr (pe_cal (c_check_lot T) (hr.mono (by decide)) (by rfl) (pa_cons (pv 0) (pa_cons (pv 2) pa_nil))))
    (pss_one (ps_ret (pe_callB (cr_sum rfl) (by rfl) T.b_sum bt_sum (pa_cons (pe_lc (own := [("one", 3)]) (g := (gName 3)) (tt := tYes) (te := (tOp (rIx K) (tOp (rIx K) (tFld K (tVar 0) "rows") (tVar 1)) (tVar 3))) rfl sc_worth.nd (pi_seq (pv 2)) (blkOk_by (by kernel_rfl)) (fun _ _ _ _ _ => (pg_name (i := 3) sc_worth.nd rfl (by first | exact Or.inl rfl | exact Or.inr rfl))) (fun _ _ _ _ _ => pts_nil) (fun _ _ _ _ _ => (pe_ix ix_seq (pe_ix ix_seq (pe_fld (pv 0) rfl) (pv 1) (fun _ _ => rfl)) (pv 3) (fun _ _ => rfl)))) pa_nil)))))),
    dsK fun a0 h0 hs0 W hW => by
    exact (ds_seq (ds_drop (dt_call hW (dan_cons (dt_var 0) (dan_cons (dt_var 1) dan_nil))))
    (ds_seq (ds_drop (dt_call hW (dan_cons (dt_var 0) (dan_cons (dt_var 2) dan_nil))))
    (ds_ret (dt_cb dc_sum (dba_cons ((DF.t (df_lc (dib_seq (db_rd 2)) (dg_name 3) (by decide) dtt_yes (dt_op d2_ix ((dt_op d2_ix ((dt_fld T.fl_rows (db_rd 0))).b (db_rd 1))).b (db_rd 3))))).b dba_nil)))))⟩)
  (fun _ _ _ _ _ _ us hl => match us, hl with | [_, _, _], _ => rfl)
abbrev s_is_deal : Stmt := top 19
theorem sc_is_deal : FnScope ["table", "thing", "one"] ["table", "thing"] (defScope s_is_deal) := ⟨rfl, rfl, rfl, by decide +kernel, rfl, by decide +kernel, by decide +kernel⟩
theorem c_is_deal (T : Txt K mg) : Cal P w K mg base 3 "is_deal" 2 m_is_deal := m_is_deal_eq.symm ▸ cal_of (N := ["table", "thing", "one"]) (ps := ["table", "thing"]) (st := s_is_deal) (j := 1) (f := f_is_deal) T.f_is_deal T.g_is_deal sc_is_deal rfl rfl (fun cdv A outer s H E hr => ⟨_, (pss_cons (ps_if (PW.pt (pw_or (pt_not (pt_tru (pe_callB call_isi (by rfl) T.b_isinstance bt_isinstance (pa_cons (pv 1) (pa_cons (pe_bltn (v := .ty "tuple") (by rfl) T.b_tuple bt_tuple rfl) pa_nil))))) (pw_or1 (pt_cmpR (op_neD hr.units) (pe_callB call_lenX (by rfl) T.b_len bt_len (pa_cons (pv 1) pa_nil)) (pe_fld (pv 0) rfl) (nomark _))))) (pss_one (ps_ret pe_bl)) pss_nil)
    (pss_one (ps_ret (pe_callB (cr_all rfl) (by rfl) T.b_all bt_all (pa_cons (pe_lc (own := [("one", 2)]) (g := (gName 2)) (tt := tYes) (te := (tCall (spOf K 3 m_is_within) [] E0 (tCons (tVar 2) (tCons (tC (.int 0)) (tCons (tOp (rI0 fun i j => .int (i - j)) (tFld K (tVar 0) "persons") (tC (.int 1))) tNil))))) rfl sc_is_deal.nd (pi_seq (pv 1)) (blkOk_by (by kernel_rfl)) (fun _ _ _ _ _ => (pg_name (i := 2) sc_is_deal.nd rfl (by first | exact Or.inl rfl | exact Or.inr rfl))) (fun _ _ _ _ _ => pts_nil) (fun _ _ _ _ _ => (pe_cal (c_is_within T) (hr.mono (by decide)) (by rfl) (pa_cons (pv 2) (pa_cons pe_int (pa_cons (pe_op op_sub (pe_fld (pv 0) rfl) pe_int) pa_nil)))))) pa_nil))))),
    dsK fun a0 h0 hs0 W hW => by
    exact (ds_seq (ds_if (dtt_or (dtt_not (dtt_tru ((dt_isi (by decide) (db_rd 1))).b)) (dtt_val (dt_op d2_ne ((dt_cb dc_len (dba_cons (db_rd 1) dba_nil))).b ((dt_fld T.fl_things (db_rd 0))).b))) (ds_ret (dt_bl false)) ds_next)
    (ds_ret (dt_cb dc_all (dba_cons ((DF.t (df_lc (dib_seq (db_rd 1)) (dg_name 2) (by decide) dtt_yes (dt_call hW (dan_cons (dt_var 2) (dan_cons (dt_int 0) (dan_cons (dt_op d2_sub ((dt_fld T.fl_persons (db_rd 0))).b ((dt_int 1)).b) dan_nil))))))).b dba_nil))))⟩)
  (fun _ _ _ _ _ _ us hl => match us, hl with | [_, _], _ => rfl)
abbrev s_check_deal : Stmt := top 20
theorem sc_check_deal : FnScope ["table", "deal"] ["table", "deal"] (defScope s_check_deal) := ⟨rfl, rfl, rfl, by decide +kernel, rfl, by decide +kernel, by decide +kernel⟩
theorem c_check_deal (T : Txt K mg) : Cal P w K mg base 4 "check_deal" 2 m_check_deal := m_check_deal_eq.symm ▸ cal_of (N := ["table", "deal"]) (ps := ["table", "deal"]) (st := s_check_deal) (j := 0) (f := f_check_deal) T.f_check_deal T.g_check_deal sc_check_deal rfl rfl (fun cdv A outer s H E hr => ⟨_, (pss_one (ps_if (pt_not (pt_tru (pe_cal (c_is_deal T) (hr.mono (by decide)) (by rfl) (pa_cons (pv 0) (pa_cons (pv 1) pa_nil))))) (pss_one ps_never) pss_nil)),
    dsK fun a0 h0 hs0 W hW => by
    exact (ds_if (dtt_not (dtt_tru ((dt_call hW (dan_cons (dt_var 0) (dan_cons (dt_var 1) dan_nil)))).b)) ds_never ds_next)⟩)
  (fun _ _ _ _ _ _ us hl => match us, hl with | [_, _], _ => rfl)
abbrev s_lots : Stmt := top 21
theorem sc_lots : FnScope ["table", "deal", "found", "person", "one"] ["table", "deal"] (defScope s_lots) := ⟨rfl, rfl, rfl, by decide +kernel, rfl, by decide +kernel, by decide +kernel⟩
theorem c_lots (T : Txt K mg) : Cal P w K mg base 5 "lots" 2 m_lots := m_lots_eq.symm ▸ cal_of (N := ["table", "deal", "found", "person", "one"]) (ps := ["table", "deal"]) (st := s_lots) (j := 3) (f := f_lots) T.f_lots T.g_lots sc_lots rfl rfl (fun cdv A outer s H E hr => ⟨_, (pss_cons (ps_expr (pe_cal (c_check_deal T) (hr.mono (by decide)) (by rfl) (pa_cons (pv 0) (pa_cons (pv 1) pa_nil))))
    (pss_cons (ps_set (i := 2) sc_lots.nd rfl (by first | exact Or.inl rfl | exact Or.inr rfl) (pe_lst pa_nil))
    (pss_cons (ps_for PassesOwn.never rfl (pi_range1 (by rfl) T.b_range (pa_cons (pe_fld (pv 0) rfl) pa_nil)) (pg_name (i := 3) sc_lots.nd rfl (by first | exact Or.inl rfl | exact Or.inr rfl)) (pss_one (ps_expr (pe_bm PySem.F.plainAttrs_list PySem.F.slot_list_append PySem.F.type_list_append mt_append (pv 2) (pa_cons (pe_callTy callA_tuple (by rfl) T.b_tuple bt_tuple (pa_cons (pe_lc (own := [("one", 4)]) (g := (gName 4)) (tt := (tTest (tOp (rEqD K) (tOp (rIx K) (tVar 1) (tVar 4)) (tVar 3)))) (te := (tVar 4)) rfl sc_lots.nd (pi_range1 (by rfl) T.b_range (pa_cons (pe_fld (pv 0) rfl) pa_nil)) (blkOk_by (by kernel_rfl)) (fun _ _ _ _ _ => (pg_name (i := 4) sc_lots.nd rfl (by first | exact Or.inl rfl | exact Or.inr rfl))) (fun _ _ _ _ _ => (pts_one (pt_cmpR (op_eqD hr.units) (pe_ix ix_seq (pv 1) (pv 4) (fun _ _ => rfl)) (pv 3) (nomark _)))) (fun _ _ _ _ _ => (pv 4))) pa_nil)) pa_nil)))))
    (pss_one (ps_ret (pe_callTy callA_tuple (by rfl) T.b_tuple bt_tuple (pa_cons (pv 2) pa_nil))))))),
    dsK fun a0 h0 hs0 W hW => by
    exact (ds_seq (ds_drop (dt_call hW (dan_cons (dt_var 0) (dan_cons (dt_var 1) dan_nil))))
    (ds_seq (ds_own (i := 2) (df_lst da_nil))
    (ds_seq (ds_for (di_rg1 (dt_fld T.fl_persons (db_rd 0))) (dg_name 3) (ds_app (i := 2) (dt_cb dc_tuple (dba_cons ((DF.t (df_lc ((di_rg1 (dt_fld T.fl_things (db_rd 0)))).b (dg_name 4) (by decide) (dtt_val (dt_op d2_eq ((dt_op d2_ix (db_rd 1) (db_rd 4))).b (db_rd 3))) (dt_var 4)))).b dba_nil))))
    (ds_ret (dt_cb dc_tuple (dba_cons (db_rd 2) dba_nil))))))⟩)
  (fun _ _ _ _ _ _ us hl => match us, hl with | [_, _], _ => rfl)
abbrev s_gains : Stmt := top 22
theorem sc_gains : FnScope ["table", "deal", "person", "lot"] ["table", "deal"] (defScope s_gains) := ⟨rfl, rfl, rfl, by decide +kernel, rfl, by decide +kernel, by decide +kernel⟩
theorem c_gains (T : Txt K mg) : Cal P w K mg base 6 "gains" 2 m_gains := m_gains_eq.symm ▸ cal_of (N := ["table", "deal", "person", "lot"]) (ps := ["table", "deal"]) (st := s_gains) (j := 2) (f := f_gains) T.f_gains T.g_gains sc_gains rfl rfl (fun cdv A outer s H E hr => ⟨_, (pss_one (ps_ret (pe_callTy callA_tuple (by rfl) T.b_tuple bt_tuple (pa_cons (pe_lc (own := [("person", 2), ("lot", 3)]) (g := (gTup K 2 (gCons (gName 2) (gCons (gName 3) gNil)))) (tt := tYes) (te := (tCall (spOf K 3 m_worth) [] E0 (tCons (tVar 0) (tCons (tVar 2) (tCons (tVar 3) tNil))))) rfl sc_gains.nd (pi_enumK (by rfl) T.b_enumerate (pe_cal (c_lots T) (hr.mono (by decide)) (by rfl) (pa_cons (pv 0) (pa_cons (pv 1) pa_nil)))) (blkOk_by (by kernel_rfl)) (fun _ _ _ _ _ => (pg_tup (n := 2) rfl (pgs_cons (pg_name (i := 2) sc_gains.nd rfl (by first | exact Or.inl rfl | exact Or.inr rfl)) (pgs_cons (pg_name (i := 3) sc_gains.nd rfl (by first | exact Or.inl rfl | exact Or.inr rfl)) pgs_nil)))) (fun _ _ _ _ _ => pts_nil) (fun _ _ _ _ _ => (pe_cal (c_worth T) (hr.mono (by decide)) (by rfl) (pa_cons (pv 0) (pa_cons (pv 2) (pa_cons (pv 3) pa_nil)))))) pa_nil)))),
    dsK fun a0 h0 hs0 W hW => by
    exact (ds_ret (dt_cb dc_tuple (dba_cons ((DF.t (df_lc (dib_enum ((dt_call hW (dan_cons (dt_var 0) (dan_cons (dt_var 1) dan_nil)))).b) (dg_tup (n := 2) (dgs_cons (dg_name 2) (dgs_cons (dg_name 3) dgs_nil))) (by decide) dtt_yes (dt_call hW (dan_cons (dt_var 0) (dan_cons (dt_var 2) (dan_cons (dt_var 3) dan_nil))))))).b dba_nil)))⟩)
  (fun _ _ _ _ _ _ us hl => match us, hl with | [_, _], _ => rfl)
abbrev s_pairs_share : Stmt := top 24
theorem sc_pairs_share : FnScope ["table", "person", "other", "deal", "some", "best", "lots", "one", "every", "lot", "here", "least"] ["table", "person", "other", "deal"] (defScope s_pairs_share) := ⟨rfl, rfl, rfl, by decide +kernel, rfl, by decide +kernel, by decide +kernel⟩
theorem c_pairs_share (T : Txt K mg) : Cal P w K mg base 4 "pairs_share" 4 m_pairs_share := m_pairs_share_eq.symm ▸ cal_of (N := ["table", "person", "other", "deal", "some", "best", "lots", "one", "every", "lot", "here", "least"]) (ps := ["table", "person", "other", "deal"]) (st := s_pairs_share) (j := 8) (f := f_pairs_share) T.f_pairs_share T.g_pairs_share sc_pairs_share rfl rfl (fun cdv A outer s H E hr => ⟨_, (pss_cons (ps_expr (pe_cal (c_check_person T) (hr.mono (by decide)) (by rfl) (pa_cons (pv 0) (pa_cons (pv 1) pa_nil))))
    (pss_cons (ps_expr (pe_cal (c_check_person T) (hr.mono (by decide)) (by rfl) (pa_cons (pv 0) (pa_cons (pv 2) pa_nil))))
    (pss_cons (ps_setLc (i := 4) (own := [("one", 7)]) (g := (gName 7)) (tt := (tTest (tOp (rIn K false) (tOp (rIx K) (tVar 3) (tVar 7)) (tTup (tCons (tVar 1) (tCons (tVar 2) tNil)))))) (te := (tVar 7)) rfl sc_pairs_share.nd rfl rfl (sw_true rfl rfl rfl (by decide +kernel)) (pi_range1 (by rfl) T.b_range (pa_cons (pe_fld (pv 0) rfl) pa_nil)) (blkOk_by (by kernel_rfl)) (fun _ _ _ _ _ => (pg_name (i := 7) sc_pairs_share.nd rfl (by first | exact Or.inl rfl | exact Or.inr rfl))) (fun _ _ _ _ _ => (pts_one (pt_cmpR op_in_seq (pe_ix ix_seq (pv 3) (pv 7) (fun _ _ => rfl)) (pe_tup (pa_cons (pv 1) (pa_cons (pv 2) pa_nil))) (by rfl)))) (fun _ _ _ _ _ => (pv 7)))
    (pss_cons (ps_set (i := 5) sc_pairs_share.nd rfl (by first | exact Or.inl rfl | exact Or.inr rfl) pe_non)
    (pss_cons (ps_set (i := 6) sc_pairs_share.nd rfl (by first | exact Or.inl rfl | exact Or.inr rfl) (pe_lst (pa_cons (pe_tup pa_nil) pa_nil)))
    (pss_cons (ps_for PassesOwn.never rfl (pi_seq (pv 4)) (pg_name (i := 7) sc_pairs_share.nd rfl (by first | exact Or.inl rfl | exact Or.inr rfl)) (pss_one (ps_set (i := 6) sc_pairs_share.nd rfl (by first | exact Or.inl rfl | exact Or.inr rfl) (pe_op op_addX (pv 6) (pe_lc (own := [("lot", 9)]) (g := (gName 9)) (tt := tYes) (te := (tOp (rAddX K) (tVar 9) (tTup (tCons (tVar 7) tNil)))) rfl sc_pairs_share.nd (pi_seq (pv 6)) (blkOk_by (by kernel_rfl)) (fun _ _ _ _ _ => (pg_name (i := 9) sc_pairs_share.nd rfl (by first | exact Or.inl rfl | exact Or.inr rfl))) (fun _ _ _ _ _ => pts_nil) (fun _ _ _ _ _ => (pe_op op_addX (pv 9) (pe_tup (pa_cons (pv 7) pa_nil)))))))))
    (pss_cons (ps_set (i := 8) sc_pairs_share.nd rfl (by first | exact Or.inl rfl | exact Or.inr rfl) (pe_callB (cr_sum rfl) (by rfl) T.b_sum bt_sum (pa_cons (pe_lc (own := [("one", 7)]) (g := (gName 7)) (tt := tYes) (te := (tOp (rIx K) (tOp (rIx K) (tFld K (tVar 0) "rows") (tVar 1)) (tVar 7))) rfl sc_pairs_share.nd (pi_seq (pv 4)) (blkOk_by (by kernel_rfl)) (fun _ _ _ _ _ => (pg_name (i := 7) sc_pairs_share.nd rfl (by first | exact Or.inl rfl | exact Or.inr rfl))) (fun _ _ _ _ _ => pts_nil) (fun _ _ _ _ _ => (pe_ix ix_seq (pe_ix ix_seq (pe_fld (pv 0) rfl) (pv 1) (fun _ _ => rfl)) (pv 7) (fun _ _ => rfl)))) pa_nil)))
    (pss_cons (ps_for PassesOwn.never rfl (pi_seq (pv 6)) (pg_name (i := 9) sc_pairs_share.nd rfl (by first | exact Or.inl rfl | exact Or.inr rfl)) (pss_cons (ps_set (i := 10) sc_pairs_share.nd rfl (by first | exact Or.inl rfl | exact Or.inr rfl) (pe_callB (cr_sum rfl) (by rfl) T.b_sum bt_sum (pa_cons (pe_lc (own := [("one", 7)]) (g := (gName 7)) (tt := tYes) (te := (tOp (rIx K) (tOp (rIx K) (tFld K (tVar 0) "rows") (tVar 1)) (tVar 7))) rfl sc_pairs_share.nd (pi_seq (pv 9)) (blkOk_by (by kernel_rfl)) (fun _ _ _ _ _ => (pg_name (i := 7) sc_pairs_share.nd rfl (by first | exact Or.inl rfl | exact Or.inr rfl))) (fun _ _ _ _ _ => pts_nil) (fun _ _ _ _ _ => (pe_ix ix_seq (pe_ix ix_seq (pe_fld (pv 0) rfl) (pv 1) (fun _ _ => rfl)) (pv 7) (fun _ _ => rfl)))) pa_nil)))
    (pss_cons (ps_set (i := 11) sc_pairs_share.nd rfl (by first | exact Or.inl rfl | exact Or.inr rfl) (pe_callB (call_minX rfl) (by rfl) T.b_min bt_min (pa_cons (pv 10) (pa_cons (pe_op op_sub (pv 8) (pv 10)) pa_nil))))
    (pss_one (ps_set (i := 5) sc_pairs_share.nd rfl (by first | exact Or.inl rfl | exact Or.inr rfl) (pe_ifExp (PW.pt (pw_or (pt_cmpR op_isX (pv 5) pe_non (nomark _)) (pw_or1 (pt_cmpR op_gt (pv 11) (pv 5) (nomark _))))) (pv 11) (pv 5)))))))
    (pss_one (ps_ret (pv 5))))))))))),
    dsK fun a0 h0 hs0 W hW => by
    exact (ds_seq (ds_drop (dt_call hW (dan_cons (dt_var 0) (dan_cons (dt_var 1) dan_nil))))
    (ds_seq (ds_drop (dt_call hW (dan_cons (dt_var 0) (dan_cons (dt_var 2) dan_nil))))
    (ds_seq (ds_asg (DF.t (df_lc ((di_rg1 (dt_fld T.fl_things (db_rd 0)))).b (dg_name 7) (by decide) (dtt_val (dt_op d2_in ((dt_op d2_ix (db_rd 3) (db_rd 7))).b ((dt_tup (da_cons (dt_var 1) (da_cons (dt_var 2) da_nil)))).b)) (dt_var 7))) (dg_name 4))
    (ds_seq (ds_asg dt_non (dg_name 5))
    (ds_seq (ds_asg (DF.t (df_lst (da_cons (dt_tup da_nil) da_nil))) (dg_name 6))
    (ds_seq (ds_for (di_seq (dt_var 4)) (dg_name 7) (ds_asg (DF.t (df_op d2f_add (db_rd 6) ((DF.t (df_lc (dib_seq (db_rd 6)) (dg_name 9) (by decide) dtt_yes (dt_op d2_add (db_rd 9) ((dt_tup (da_cons (dt_var 7) da_nil))).b)))).b)) (dg_name 6)))
    (ds_seq (ds_asg (dt_cb dc_sum (dba_cons ((DF.t (df_lc (dib_seq (db_rd 4)) (dg_name 7) (by decide) dtt_yes (dt_op d2_ix ((dt_op d2_ix ((dt_fld T.fl_rows (db_rd 0))).b (db_rd 1))).b (db_rd 7))))).b dba_nil)) (dg_name 8))
    (ds_seq (ds_for (di_seq (dt_var 6)) (dg_name 9) (ds_seq (ds_asg (dt_cb dc_sum (dba_cons ((DF.t (df_lc (dib_seq (db_rd 9)) (dg_name 7) (by decide) dtt_yes (dt_op d2_ix ((dt_op d2_ix ((dt_fld T.fl_rows (db_rd 0))).b (db_rd 1))).b (db_rd 7))))).b dba_nil)) (dg_name 10))
    (ds_seq (ds_asg (dt_cb dc_min (dba_cons (db_rd 10) (dba_cons ((dt_op d2_sub (db_rd 8) (db_rd 10))).b dba_nil))) (dg_name 11))
    (ds_asg (dt_if (dtt_or (dtt_val (dt_op d2_is (db_rd 5) (dt_non).b)) (dtt_val (dt_op d2_gt (db_rd 11) (db_rd 5)))) (dt_var 11) (dt_var 5)) (dg_name 5)))))
    (ds_ret (dt_var 5))))))))))⟩)
  (fun _ _ _ _ _ _ us hl => match us, hl with | [_, _, _, _], _ => rfl)
abbrev s_is_kept_by_pairs : Stmt := top 25
theorem sc_is_kept_by_pairs : FnScope ["table", "thing", "told", "person", "other"] ["table", "thing"] (defScope s_is_kept_by_pairs) := ⟨rfl, rfl, rfl, by decide +kernel, rfl, by decide +kernel, by decide +kernel⟩
theorem c_is_kept_by_pairs (T : Txt K mg) : Cal P w K mg base 7 "is_kept_by_pairs" 2 m_is_kept_by_pairs := m_is_kept_by_pairs_eq.symm ▸ cal_of (N := ["table", "thing", "told", "person", "other"]) (ps := ["table", "thing"]) (st := s_is_kept_by_pairs) (j := 3) (f := f_is_kept_by_pairs) T.f_is_kept_by_pairs T.g_is_kept_by_pairs sc_is_kept_by_pairs rfl rfl (fun cdv A outer s H E hr => ⟨_, (pss_cons (ps_if (pt_not (pt_tru (pe_cal (c_is_deal T) (hr.mono (by decide)) (by rfl) (pa_cons (pv 0) (pa_cons (pv 1) pa_nil))))) (pss_one (ps_ret pe_bl)) pss_nil)
    (pss_cons (ps_set (i := 2) sc_is_kept_by_pairs.nd rfl (by first | exact Or.inl rfl | exact Or.inr rfl) (pe_cal (c_gains T) (hr.mono (by decide)) (by rfl) (pa_cons (pv 0) (pa_cons (pv 1) pa_nil))))
    (pss_cons (ps_for PassesOwn.never rfl (pi_range1 (by rfl) T.b_range (pa_cons (pe_fld (pv 0) rfl) pa_nil)) (pg_name (i := 3) sc_is_kept_by_pairs.nd rfl (by first | exact Or.inl rfl | exact Or.inr rfl)) (pss_one (ps_for PassesOwn.never rfl (pi_range1 (by rfl) T.b_range (pa_cons (pe_fld (pv 0) rfl) pa_nil)) (pg_name (i := 4) sc_is_kept_by_pairs.nd rfl (by first | exact Or.inl rfl | exact Or.inr rfl)) (pss_one (ps_if (PW.pt (pw_and (pt_cmpR (op_neD hr.units) (pv 4) (pv 3) (nomark _)) (pw_and1 (pt_cmpR op_lt (pe_ix ix_seq (pv 2) (pv 3) (fun _ _ => rfl)) (pe_cal (c_pairs_share T) (hr.mono (by decide)) (by rfl) (pa_cons (pv 0) (pa_cons (pv 3) (pa_cons (pv 4) (pa_cons (pv 1) pa_nil))))) (nomark _))))) (pss_one (ps_ret pe_bl)) pss_nil)))))
    (pss_one (ps_ret pe_bl))))),
    dsK fun a0 h0 hs0 W hW => by
    exact (ds_seq (ds_if (dtt_not (dtt_tru ((dt_call hW (dan_cons (dt_var 0) (dan_cons (dt_var 1) dan_nil)))).b)) (ds_ret (dt_bl false)) ds_next)
    (ds_seq (ds_asg (dt_call hW (dan_cons (dt_var 0) (dan_cons (dt_var 1) dan_nil))) (dg_name 2))
    (ds_seq (ds_for (di_rg1 (dt_fld T.fl_persons (db_rd 0))) (dg_name 3) (ds_for (di_rg1 (dt_fld T.fl_persons (db_rd 0))) (dg_name 4) (ds_if (dtt_and (dtt_val (dt_op d2_ne (db_rd 4) (db_rd 3))) (dtt_val (dt_op d2_ltI ((dt_op d2_ix (db_rd 2) (db_rd 3))).b ((dt_call hW (dan_cons (dt_var 0) (dan_cons (dt_var 3) (dan_cons (dt_var 4) (dan_cons (dt_var 1) dan_nil)))))).b))) (ds_ret (dt_bl false)) ds_next)))
    (ds_ret (dt_bl true)))))⟩)
  (fun _ _ _ _ _ _ us hl => match us, hl with | [_, _], _ => rfl)
abbrev s_bag_filled : Stmt := top 26
theorem sc_bag_filled : FnScope ["table", "goal", "left", "found", "bag", "one", "good", "deal", "person", "other"] ["table", "goal"] (defScope s_bag_filled) := ⟨rfl, rfl, rfl, by decide +kernel, rfl, by decide +kernel, by decide +kernel⟩
theorem c_bag_filled (T : Txt K mg) : Cal P w K mg base 1 "bag_filled" 2 m_bag_filled := m_bag_filled_eq.symm ▸ cal_of (N := ["table", "goal", "left", "found", "bag", "one", "good", "deal", "person", "other"]) (ps := ["table", "goal"]) (st := s_bag_filled) (j := 8) (f := f_bag_filled) T.f_bag_filled T.g_bag_filled sc_bag_filled rfl rfl (fun cdv A outer s H E hr => ⟨_, (pss_cons (ps_asg (pe_tup (pa_cons (pe_listRg rfl (by rfl) T.b_list (prg_1 (by rfl) T.b_range (pe_fld (pv 0) rfl))) (pa_cons pe_dnewK (pa_cons (pe_lst pa_nil) pa_nil)))) (pg_tup (n := 3) rfl (pgs_cons (pg_name (i := 2) sc_bag_filled.nd rfl (by first | exact Or.inl rfl | exact Or.inr rfl)) (pgs_cons (pg_name (i := 3) sc_bag_filled.nd rfl (by first | exact Or.inl rfl | exact Or.inr rfl)) (pgs_cons (pg_name (i := 4) sc_bag_filled.nd rfl (by first | exact Or.inl rfl | exact Or.inr rfl)) pgs_nil)))))
    (pss_cons (ps_for PassesOwn.never rfl (pi_range1 (by rfl) T.b_range (pa_cons (pe_fld (pv 0) rfl) pa_nil)) (pg_name (i := 5) sc_bag_filled.nd rfl (by first | exact Or.inl rfl | exact Or.inr rfl)) (pss_cons (ps_expr (pe_bm PySem.F.plainAttrs_list PySem.F.slot_list_append PySem.F.type_list_append mt_append (pv 4) (pa_cons (pv 5) pa_nil)))
    (pss_cons (ps_setLc (i := 6) (own := [("person", 8)]) (g := (gName 8)) (tt := (tTest (tOp (rI0 fun i j => .bl (decide (j ≤ i))) (tCB (rSum K) (tCons (tLc (iSeq K (tVar 4)) (gName 9) tYes (tOp (rIx K) (tOp (rIx K) (tFld K (tVar 0) "rows") (tVar 8)) (tVar 9)) [9]) tNil)) (tOp (rIx K) (tVar 1) (tVar 8))))) (te := (tVar 8)) rfl sc_bag_filled.nd rfl rfl (sw_true rfl rfl rfl (by decide +kernel)) (pi_seq (pv 2)) (blkOk_by (by kernel_rfl)) (fun _ _ _ _ _ => (pg_name (i := 8) sc_bag_filled.nd rfl (by first | exact Or.inl rfl | exact Or.inr rfl))) (fun _ _ _ _ _ => (pts_one (pt_cmpR op_ge (pe_callB (cr_sum rfl) (by rfl) T.b_sum bt_sum (pa_cons (pe_lc (own := [("other", 9)]) (g := (gName 9)) (tt := tYes) (te := (tOp (rIx K) (tOp (rIx K) (tFld K (tVar 0) "rows") (tVar 8)) (tVar 9))) rfl sc_bag_filled.nd (pi_seq (pv 4)) (blkOk_by (by kernel_rfl)) (fun _ _ _ _ _ => (pg_name (i := 9) sc_bag_filled.nd rfl (by first | exact Or.inl rfl | exact Or.inr rfl))) (fun _ _ _ _ _ => pts_nil) (fun _ _ _ _ _ => (pe_ix ix_seq (pe_ix ix_seq (pe_fld (pv 0) rfl) (pv 8) (fun _ _ => rfl)) (pv 9) (fun _ _ => rfl)))) pa_nil)) (pe_ix ix_seq (pv 1) (pv 8) (fun _ _ => rfl)) (nomark _)))) (fun _ _ _ _ _ => (pv 8)))
    (pss_one (ps_if (PW.pt (pw_and (pt_cmpR (op_neD hr.units) (pv 6) (pe_lst pa_nil) (nomark _)) (pw_and1 (pt_cmpR op_gt (pe_callB call_lenX (by rfl) T.b_len bt_len (pa_cons (pv 2) pa_nil)) pe_int (nomark _))))) (pss_cons (ps_dput (hu_of hr) (pv 3) (pe_ix ix_seq (pv 6) pe_int (fun _ _ => rfl)) (pv 4) rfl)
    (pss_cons (ps_expr (pe_bm PySem.F.plainAttrs_list PySem.F.slot_list_remove PySem.F.type_list_remove mt_remove (pv 2) (pa_cons (pe_ix ix_seq (pv 6) pe_int (fun _ _ => rfl)) pa_nil)))
    (pss_one (ps_set (i := 4) sc_bag_filled.nd rfl (by first | exact Or.inl rfl | exact Or.inr rfl) (pe_lst pa_nil))))) pss_nil)))))
    (pss_cons (ps_if (pt_cmpR op_gt (pe_callB call_lenX (by rfl) T.b_len bt_len (pa_cons (pv 2) pa_nil)) pe_int (nomark _)) (pss_one (ps_ret pe_non)) pss_nil)
    (pss_cons (ps_dput (hu_of hr) (pv 3) (pe_ix ix_seq (pv 2) pe_int (fun _ _ => rfl)) (pv 4) rfl)
    (pss_cons (ps_set (i := 7) sc_bag_filled.nd rfl (by first | exact Or.inl rfl | exact Or.inr rfl) (pe_op op_mulXX (pe_lst (pa_cons pe_non pa_nil)) (pe_fld (pv 0) rfl)))
    (pss_cons (ps_lock (ps_for PassesOwn.never rfl (pi_keys (pv 3)) (pg_name (i := 8) sc_bag_filled.nd rfl (by first | exact Or.inl rfl | exact Or.inr rfl)) (pss_one (ps_for PassesOwn.never rfl (pi_seq (pe_dget (hu_of hr) (pv 3) (pv 8) (fun _ _ => rfl))) (pg_name (i := 5) sc_bag_filled.nd rfl (by first | exact Or.inl rfl | exact Or.inr rfl)) (pss_one (ps_asg (pv 8) (pg_sub (pv 7) (pv 5) set_list)))))))
    (pss_one (ps_ret (pe_tup (pa_cons (pe_callTy callA_tuple (by rfl) T.b_tuple bt_tuple (pa_cons (pv 7) pa_nil)) (pa_cons (pe_callTy callA_tuple (by rfl) T.b_tuple bt_tuple (pa_cons (pe_lc (own := [("person", 8)]) (g := (gName 8)) (tt := tYes) (te := (tCB (rTupleOf K) (tCons (tDGet (tVar 3) (tVar 8)) tNil))) rfl sc_bag_filled.nd (pi_range1 (by rfl) T.b_range (pa_cons (pe_fld (pv 0) rfl) pa_nil)) (blkOk_by (by kernel_rfl)) (fun _ _ _ _ _ => (pg_name (i := 8) sc_bag_filled.nd rfl (by first | exact Or.inl rfl | exact Or.inr rfl))) (fun _ _ _ _ _ => pts_nil) (fun _ _ _ _ _ => (pe_callTy callA_tuple (by rfl) T.b_tuple bt_tuple (pa_cons (pe_dget (hu_of hr) (pv 3) (pv 8) (fun _ _ => rfl)) pa_nil)))) pa_nil)) pa_nil))))))))))),
    dsK fun a0 h0 hs0 W hW => by
    exact (ds_seq (ds_many (n := 3) (is := [2, 3, 4]) (dn_ol (df_listRg (dr_1 (dt_fld T.fl_persons (db_rd 0)))) (dn_od (dn_ol (df_lst da_nil) dn_nil))) rfl (by decide) (by decide))
    (ds_seq (ds_for (di_rg1 (dt_fld T.fl_things (db_rd 0))) (dg_name 5) (ds_seq (ds_app (i := 4) (dt_var 5))
    (ds_seq (ds_asg (DF.t (df_lc (dib_seq (db_rd 2)) (dg_name 8) (by decide) (dtt_val (dt_op d2_ge ((dt_cb dc_sum (dba_cons ((DF.t (df_lc (dib_seq (db_rd 4)) (dg_name 9) (by decide) dtt_yes (dt_op d2_ix ((dt_op d2_ix ((dt_fld T.fl_rows (db_rd 0))).b (db_rd 8))).b (db_rd 9))))).b dba_nil))).b ((dt_op d2_ix (db_rd 1) (db_rd 8))).b)) (dt_var 8))) (dg_name 6))
    (ds_if (dtt_and (dtt_val (dt_op d2_ne (db_rd 6) ((DF.t (df_lst da_nil))).b)) (dtt_val (dt_op d2_gt ((dt_cb dc_len (dba_cons (db_rd 2) dba_nil))).b ((dt_int 1)).b))) (ds_seq (ds_still (i := 4) (ds_putD (i := 3) (dt_op d2_ix (db_rd 6) ((dt_int 0)).b) (dt_var 4)))
    (ds_seq (ds_rem (i := 2) (dt_op d2_ix (db_rd 6) ((dt_int 0)).b))
    (ds_own (i := 4) (df_lst da_nil)))) ds_next))))
    (ds_seq (ds_if (dtt_val (dt_op d2_gt ((dt_cb dc_len (dba_cons (db_rd 2) dba_nil))).b ((dt_int 1)).b)) (ds_ret dt_non) ds_next)
    (ds_seq (ds_still (i := 4) (ds_putD (i := 3) (dt_op d2_ix (db_rd 2) ((dt_int 0)).b) (dt_var 4)))
    (ds_seq (ds_own (i := 7) (df_op d2f_mul ((DF.t (df_lst (da_cons dt_non da_nil)))).b ((dt_fld T.fl_things (db_rd 0))).b))
    (ds_seq (ds_forD (i := 3) (dg_name 8) (by decide) (ds_for (di_seq (dt_getD (i := 3) (dt_var 8))) (dg_name 5) (ds_setI (i := 7) (dt_var 5) (dt_var 8))))
    (ds_ret (dt_tup (da_cons (dt_cb dc_tuple (dba_cons (db_rd 7) dba_nil)) (da_cons (dt_cb dc_tuple (dba_cons ((DF.t (df_lc ((di_rg1 (dt_fld T.fl_persons (db_rd 0)))).b (dg_name 8) (by decide) dtt_yes (dt_cb dc_tuple (dba_cons ((dt_getD (i := 3) (dt_var 8))).b dba_nil))))).b dba_nil)) da_nil))))))))))⟩)
  (fun _ _ _ _ _ _ us hl => match us, hl with | [_, _], _ => rfl)
abbrev s_is_told_bag : Stmt := top 27
theorem sc_is_told_bag : FnScope ["table", "goal", "told", "gain", "one"] ["table", "goal"] (defScope s_is_told_bag) := ⟨rfl, rfl, rfl, by decide +kernel, rfl, by decide +kernel, by decide +kernel⟩
theorem c_is_told_bag (T : Txt K mg) : Cal P w K mg base 7 "is_told_bag" 2 m_is_told_bag := m_is_told_bag_eq.symm ▸ cal_of (N := ["table", "goal", "told", "gain", "one"]) (ps := ["table", "goal"]) (st := s_is_told_bag) (j := 3) (f := f_is_told_bag) T.f_is_told_bag T.g_is_told_bag sc_is_told_bag rfl rfl (fun cdv A outer s H E hr => ⟨_, (pss_cons (ps_set (i := 2) sc_is_told_bag.nd rfl (by first | exact Or.inl rfl | exact Or.inr rfl) (pe_cal (c_bag_filled T) (hr.mono (by decide)) (by rfl) (pa_cons (pv 0) (pa_cons (pv 1) pa_nil))))
    (pss_one (ps_ret (pe_andT (pe_cmpR op_isNotX (pv 2) pe_non (nomark _)) (pe_one (pe_callB (cr_all rfl) (by rfl) T.b_all bt_all (pa_cons (pe_lc (own := [("gain", 3), ("one", 4)]) (g := (gTup K 2 (gCons (gName 3) (gCons (gName 4) gNil)))) (tt := tYes) (te := (tOp (rI0 fun i j => .bl (decide (j ≤ i))) (tVar 3) (tVar 4))) rfl sc_is_told_bag.nd (pi_zipK (by rfl) T.b_zip (pe_cal (c_gains T) (hr.mono (by decide)) (by rfl) (pa_cons (pv 0) (pa_cons (pe_ix ix_seq (pv 2) pe_int (fun _ _ => rfl)) pa_nil))) (pv 1)) (blkOk_by (by kernel_rfl)) (fun _ _ _ _ _ => (pg_tup (n := 2) rfl (pgs_cons (pg_name (i := 3) sc_is_told_bag.nd rfl (by first | exact Or.inl rfl | exact Or.inr rfl)) (pgs_cons (pg_name (i := 4) sc_is_told_bag.nd rfl (by first | exact Or.inl rfl | exact Or.inr rfl)) pgs_nil)))) (fun _ _ _ _ _ => pts_nil) (fun _ _ _ _ _ => (pe_cmpR op_ge (pv 3) (pv 4) (nomark _)))) pa_nil))))))),
    dsK fun a0 h0 hs0 W hW => by
    exact (ds_seq (ds_asg (dt_call hW (dan_cons (dt_var 0) (dan_cons (dt_var 1) dan_nil))) (dg_name 2))
    (ds_ret (dt_and (dt_op d2_isNot (db_rd 2) (dt_non).b) (dt_cb dc_all (dba_cons ((DF.t (df_lc (dib_zip ((dt_call hW (dan_cons (dt_var 0) (dan_cons (dt_op d2_ix (db_rd 2) ((dt_int 0)).b) dan_nil)))).b (db_rd 1)) (dg_tup (n := 2) (dgs_cons (dg_name 3) (dgs_cons (dg_name 4) dgs_nil))) (by decide) dtt_yes (dt_op d2_ge (db_rd 3) (db_rd 4))))).b dba_nil)))))⟩)
  (fun _ _ _ _ _ _ us hl => match us, hl with | [_, _], _ => rfl)
abbrev s__law_hand : Stmt := top 29
theorem sc__law_hand : FnScope ["script", "cells", "cell"] ["script"] (defScope s__law_hand) := ⟨rfl, rfl, rfl, by decide +kernel, rfl, by decide +kernel, by decide +kernel⟩
theorem c__law_hand (T : Txt K mg) : Cal P w K mg base 1 "_law_hand" 1 m__law_hand := m__law_hand_eq.symm ▸ cal_of (N := ["script", "cells", "cell"]) (ps := ["script"]) (st := s__law_hand) (j := 2) (f := f__law_hand) T.f__law_hand T.g__law_hand sc__law_hand rfl rfl (fun cdv A outer s H E hr => ⟨_, (pss_cons (ps_setLc (i := 1) (own := [("cell", 2)]) (g := (gName 2)) (tt := tYes) (te := (tCB rAbs1 (tCons (tCB rInt1 (tCons (tVar 2) tNil)) tNil))) rfl sc__law_hand.nd rfl rfl (sw_true rfl rfl rfl (by decide +kernel)) (pi_seq (pe_slice sl_anyX (pv 0) po_none (po_some pe_int))) (blkOk_by (by kernel_rfl)) (fun _ _ _ _ _ => (pg_name (i := 2) sc__law_hand.nd rfl (by first | exact Or.inl rfl | exact Or.inr rfl))) (fun _ _ _ _ _ => pts_nil) (fun _ _ _ _ _ => (pe_callB callA_abs (by rfl) T.b_abs bt_abs (pa_cons (pe_callTy callA_int (by rfl) T.b_int bt_int (pa_cons (pv 2) pa_nil)) pa_nil))))
    (pss_one (ps_ret (pe_lst (pa_cons (pv 1) (pa_cons pe_int (pa_cons pe_int (pa_cons (pe_op op_addX pe_int (pe_op op_mulXX pe_int (pe_callB call_lenX (by rfl) T.b_len bt_len (pa_cons (pv 1) pa_nil)))) (pa_cons pe_int pa_nil))))))))),
    dsK fun a0 h0 hs0 W hW => by
    exact (ds_seq (ds_asg (DF.t (df_lc (dib_seq ((dt_sl (db_rd 0) do_none (do_some (dt_int 63)))).b) (dg_name 2) (by decide) dtt_yes (dt_cb dc_abs (dba_cons ((dt_cb dc_int (dba_cons (db_rd 2) dba_nil))).b dba_nil)))) (dg_name 1))
    (ds_ret (DF.t (df_lst (da_cons (dt_var 1) (da_cons (dt_int 0) (da_cons (dt_int 0) (da_cons (dt_op d2_add ((dt_int 245)).b ((dt_op d2_mul ((dt_int 7)).b ((dt_cb dc_len (dba_cons (db_rd 1) dba_nil))).b)).b) (da_cons (dt_int 0) da_nil)))))))))⟩)
  (fun _ _ _ _ _ _ us hl => match us, hl with | [_], _ => rfl)
abbrev s__law_draw : Stmt := top 30
theorem sc__law_draw : FnScope ["hand", "limit", "cell", "digit", "number"] ["hand", "limit"] (defScope s__law_draw) := ⟨rfl, rfl, rfl, by decide +kernel, rfl, by decide +kernel, by decide +kernel⟩
theorem c__law_draw (T : Txt K mg) : Cal P w K mg base 1 "_law_draw" 2 m__law_draw := cal_draw (N := ["hand", "limit", "cell", "digit", "number"]) (ps := ["hand", "limit"]) (st := s__law_draw) (j := 3) (f := f__law_draw) T.f__law_draw T.g__law_draw sc__law_draw rfl rfl (fun cdv A outer s H E hr => ⟨_, (pss_cons (ps_if (PW.pt (pw_and (pt_cmpR (op_eqD hr.units) (pe_ix ix_seq (pv 0) pe_int (fun _ _ => rfl)) pe_int (nomark _)) (pw_and1 (pt_cmpR op_lt (pe_ix ix_seq (pv 0) pe_int (fun _ _ => rfl)) (pe_callB call_lenX (by rfl) T.b_len bt_len (pa_cons (pe_ix ix_seq (pv 0) pe_int (fun _ _ => rfl)) pa_nil)) (nomark _))))) (pss_cons (ps_set (i := 2) sc__law_draw.nd rfl (by first | exact Or.inl rfl | exact Or.inr rfl) (pe_ix ix_seq (pe_ix ix_seq (pv 0) pe_int (fun _ _ => rfl)) (pe_ix ix_seq (pv 0) pe_int (fun _ _ => rfl)) (fun _ _ => rfl)))
    (pss_cons (ps_asg (pe_op op_addX (pe_ix ix_seq (pv 0) pe_int (fun _ _ => rfl)) pe_int) (pg_sub (pv 0) pe_int set_list))
    (pss_cons (ps_asg (pe_op op_mod (pe_callTy callA_int (by rfl) T.b_int bt_int (pa_cons (pe_op op_addX (pe_op op_addX (pe_op op_mulXX (pe_ix ix_seq (pv 0) pe_int (fun _ _ => rfl)) pe_int) (pv 2)) pe_int) pa_nil)) pe_int) (pg_sub (pv 0) pe_int set_list))
    (pss_one (ps_if (pt_cmpR op_ge (pv 2) (pe_op op_pow pe_int pe_int) (nomark _)) (pss_one (ps_asg (pv 2) (pg_sub (pv 0) pe_int set_list))) pss_nil))))) pss_nil)
    (pss_cons (ps_if (pt_cmpR op_gt (pe_ix ix_seq (pv 0) pe_int (fun _ _ => rfl)) pe_int (nomark _)) (pss_cons (ps_set (i := 3) sc__law_draw.nd rfl (by first | exact Or.inl rfl | exact Or.inr rfl) (pe_op op_mod (pe_callTy callA_int (by rfl) T.b_int bt_int (pa_cons (pe_ix ix_seq (pv 0) pe_int (fun _ _ => rfl)) pa_nil)) (pv 1)))
    (pss_cons (ps_asg (pe_op op_fdiv (pe_ix ix_seq (pv 0) pe_int (fun _ _ => rfl)) (pv 1)) (pg_sub (pv 0) pe_int set_list))
    (pss_one (ps_ret (pv 3))))) pss_nil)
    (pss_cons (ps_asg (pe_op op_addX (pe_ix ix_seq (pv 0) pe_int (fun _ _ => rfl)) pe_int) (pg_sub (pv 0) pe_int set_list))
    (pss_cons (ps_set (i := 4) sc__law_draw.nd rfl (by first | exact Or.inl rfl | exact Or.inr rfl) (pe_op op_mod (pe_callTy callA_int (by rfl) T.b_int bt_int (pa_cons (pe_op op_mulXX (pe_callTy callA_int (by rfl) T.b_int bt_int (pa_cons (pe_op op_addX (pe_ix ix_seq (pv 0) pe_int (fun _ _ => rfl)) (pe_op op_mulXX pe_int (pe_ix ix_seq (pv 0) pe_int (fun _ _ => rfl)))) pa_nil)) pe_int) pa_nil)) pe_int))
    (pss_cons (ps_set (i := 4) sc__law_draw.nd rfl (by first | exact Or.inl rfl | exact Or.inr rfl) (pe_op op_mod (pe_callTy callA_int (by rfl) T.b_int bt_int (pa_cons (pe_op op_mulXX (pv 4) (pe_op op_addX (pe_op op_fdiv (pv 4) pe_int) pe_int)) pa_nil)) pe_int))
    (pss_cons (ps_set (i := 4) sc__law_draw.nd rfl (by first | exact Or.inl rfl | exact Or.inr rfl) (pe_op op_mod (pe_callTy callA_int (by rfl) T.b_int bt_int (pa_cons (pe_op op_mulXX (pv 4) (pe_op op_addX (pe_op op_fdiv (pv 4) pe_int) pe_int)) pa_nil)) pe_int))
    (pss_one (ps_ret (pe_op op_mod (pe_callTy callA_int (by rfl) T.b_int bt_int (pa_cons (pe_op op_fdiv (pv 4) pe_int) pa_nil)) (pv 1)))))))))),
    dsK fun a0 h0 hs0 W hW => by
    exact (ds_seq (ds_if (dtt_and (dtt_val (dt_op d2_eq ((dt_op d2_ix (db_rd 0) ((dt_int 2)).b)).b ((dt_int 0)).b)) (dtt_val (dt_op d2_ltI ((dt_op d2_ix (db_rd 0) ((dt_int 1)).b)).b ((dt_cb dc_len (dba_cons ((dt_op d2_ix (db_rd 0) ((dt_int 0)).b)).b dba_nil))).b))) (ds_seq (ds_asg (dt_op d2_ix ((dt_op d2_ix (db_rd 0) ((dt_int 0)).b)).b ((dt_op d2_ix (db_rd 0) ((dt_int 1)).b)).b) (dg_name 2))
    (ds_seq (ds_setH (i := 0) (dt_int 1) (dt_op d2_add ((dt_op d2_ix (db_rd 0) ((dt_int 1)).b)).b ((dt_int 1)).b))
    (ds_seq (ds_setH (i := 0) (dt_int 3) (dt_op d2_mod ((dt_cb dc_int (dba_cons ((dt_op d2_add ((dt_op d2_add ((dt_op d2_mul ((dt_op d2_ix (db_rd 0) ((dt_int 3)).b)).b ((dt_int 69621)).b)).b (db_rd 2))).b ((dt_int 29)).b)).b dba_nil))).b ((dt_int 2147483629)).b))
    (ds_if (dtt_val (dt_op d2_ge (db_rd 2) ((dt_op d2_pow ((dt_int 10)).b ((dt_int 18)).b)).b)) (ds_setH (i := 0) (dt_int 2) (dt_var 2)) ds_next)))) ds_next)
    (ds_seq (ds_if (dtt_val (dt_op d2_gt ((dt_op d2_ix (db_rd 0) ((dt_int 2)).b)).b ((dt_int 0)).b)) (ds_seq (ds_asg (dt_op d2_mod ((dt_cb dc_int (dba_cons ((dt_op d2_ix (db_rd 0) ((dt_int 2)).b)).b dba_nil))).b (db_rd 1)) (dg_name 3))
    (ds_seq (ds_setH (i := 0) (dt_int 2) (dt_op d2_fdiv ((dt_op d2_ix (db_rd 0) ((dt_int 2)).b)).b (db_rd 1)))
    (ds_ret (dt_var 3)))) ds_next)
    (ds_seq (ds_setH (i := 0) (dt_int 4) (dt_op d2_add ((dt_op d2_ix (db_rd 0) ((dt_int 4)).b)).b ((dt_int 1)).b))
    (ds_seq (ds_asg (dt_op d2_mod ((dt_cb dc_int (dba_cons ((dt_op d2_mul ((dt_cb dc_int (dba_cons ((dt_op d2_add ((dt_op d2_ix (db_rd 0) ((dt_int 3)).b)).b ((dt_op d2_mul ((dt_int 7919)).b ((dt_op d2_ix (db_rd 0) ((dt_int 4)).b)).b)).b)).b dba_nil))).b ((dt_int 48271)).b)).b dba_nil))).b ((dt_int 2147483647)).b) (dg_name 4))
    (ds_seq (ds_asg (dt_op d2_mod ((dt_cb dc_int (dba_cons ((dt_op d2_mul (db_rd 4) ((dt_op d2_add ((dt_op d2_fdiv (db_rd 4) ((dt_int 1009)).b)).b ((dt_int 69621)).b)).b)).b dba_nil))).b ((dt_int 2147483647)).b) (dg_name 4))
    (ds_seq (ds_asg (dt_op d2_mod ((dt_cb dc_int (dba_cons ((dt_op d2_mul (db_rd 4) ((dt_op d2_add ((dt_op d2_fdiv (db_rd 4) ((dt_int 2003)).b)).b ((dt_int 40692)).b)).b)).b dba_nil))).b ((dt_int 2147483399)).b) (dg_name 4))
    (ds_ret (dt_op d2_mod ((dt_cb dc_int (dba_cons ((dt_op d2_fdiv (db_rd 4) ((dt_int 16)).b)).b dba_nil))).b (db_rd 1)))))))))⟩)
  draw_works (fun _ _ _ _ _ _ us hl => match us, hl with | [_, _], _ => rfl)
abbrev s__law_some : Stmt := top 31
theorem sc__law_some : FnScope ["hand", "things"] ["hand", "things"] (defScope s__law_some) := ⟨rfl, rfl, rfl, by decide +kernel, rfl, by decide +kernel, by decide +kernel⟩
theorem c__law_some (T : Txt K mg) : Cal P w K mg base 2 "_law_some" 2 m__law_some := m__law_some_eq.symm ▸ cal_of (N := ["hand", "things"]) (ps := ["hand", "things"]) (st := s__law_some) (j := 0) (f := f__law_some) T.f__law_some T.g__law_some sc__law_some rfl rfl (fun cdv A outer s H E hr => ⟨_, (pss_one (ps_ret (pe_ix ix_seq (pv 1) (pe_cal (c__law_draw T) (hr.mono (by decide)) (by rfl) (pa_cons (pv 0) (pa_cons (pe_callB call_lenX (by rfl) T.b_len bt_len (pa_cons (pv 1) pa_nil)) pa_nil))) (fun _ _ => rfl)))),
    dsK fun a0 h0 hs0 W hW => by
    exact (ds_ret (dt_op d2_ix (db_rd 1) ((dt_call hW (dan_cons (dt_var 0) (dan_cons (dt_cb dc_len (dba_cons (db_rd 1) dba_nil)) dan_nil)))).b))⟩)
  (fun _ _ _ _ _ _ us hl => match us, hl with | [_, _], _ => rfl)
abbrev s__law_rows : Stmt := top 32
theorem sc__law_rows : FnScope ["hand", "persons", "things", "low", "wide", "person", "one"] ["hand", "persons", "things", "low"] (defScope s__law_rows) := ⟨rfl, rfl, rfl, by decide +kernel, rfl, by decide +kernel, by decide +kernel⟩
theorem c__law_rows (T : Txt K mg) : Cal P w K mg base 3 "_law_rows" 4 m__law_rows := m__law_rows_eq.symm ▸ cal_of (N := ["hand", "persons", "things", "low", "wide", "person", "one"]) (ps := ["hand", "persons", "things", "low"]) (st := s__law_rows) (j := 3) (f := f__law_rows) T.f__law_rows T.g__law_rows sc__law_rows rfl rfl (fun cdv A outer s H E hr => ⟨_, (pss_cons (ps_set (i := 4) sc__law_rows.nd rfl (by first | exact Or.inl rfl | exact Or.inr rfl) (pe_cal (c__law_some T) (hr.mono (by decide)) (by rfl) (pa_cons (pv 0) (pa_cons (pe_lst (pa_cons pe_int (pa_cons pe_int (pa_cons pe_int pa_nil)))) pa_nil))))
    (pss_one (ps_ret (pe_lc (own := [("person", 5)]) (g := (gName 5)) (tt := tYes) (te := (tLc (iRng1 (tCons (tVar 2) tNil)) (gName 6) tYes (tOp (rAddX K) (tVar 3) (tCall (spOf K 2 m__law_draw) [] E0 (tCons (tVar 0) (tCons (tVar 4) tNil)))) [6])) rfl sc__law_rows.nd (pi_range1 (by rfl) T.b_range (pa_cons (pv 1) pa_nil)) (blkOk_by (by kernel_rfl)) (fun _ _ _ _ _ => (pg_name (i := 5) sc__law_rows.nd rfl (by first | exact Or.inl rfl | exact Or.inr rfl))) (fun _ _ _ _ _ => pts_nil) (fun _ _ _ _ _ => (pe_lc (own := [("one", 6)]) (g := (gName 6)) (tt := tYes) (te := (tOp (rAddX K) (tVar 3) (tCall (spOf K 2 m__law_draw) [] E0 (tCons (tVar 0) (tCons (tVar 4) tNil))))) rfl sc__law_rows.nd (pi_range1 (by rfl) T.b_range (pa_cons (pv 2) pa_nil)) (blkOk_by (by kernel_rfl)) (fun _ _ _ _ _ => (pg_name (i := 6) sc__law_rows.nd rfl (by first | exact Or.inl rfl | exact Or.inr rfl))) (fun _ _ _ _ _ => pts_nil) (fun _ _ _ _ _ => (pe_op op_addX (pv 3) (pe_cal (c__law_draw T) (hr.mono (by decide)) (by rfl) (pa_cons (pv 0) (pa_cons (pv 4) pa_nil))))))))))),
    dsK fun a0 h0 hs0 W hW => by
    exact (ds_seq (ds_asg (dt_call hW (dan_cons (dt_var 0) (dan_cons (DF.t (df_lst (da_cons (dt_int 3) (da_cons (dt_int 5) (da_cons (dt_int 13) da_nil))))) dan_nil))) (dg_name 4))
    (ds_ret (DF.t (df_lc ((di_rg1 (dt_var 1))).b (dg_name 5) (by decide) dtt_yes (DF.t (df_lc ((di_rg1 (dt_var 2))).b (dg_name 6) (by decide) dtt_yes (dt_op d2_add (db_rd 3) ((dt_call hW (dan_cons (dt_var 0) (dan_cons (dt_var 4) dan_nil)))).b)))))))⟩)
  (fun _ _ _ _ _ _ us hl => match us, hl with | [_, _, _, _], _ => rfl)
abbrev s__law_sum : Stmt := top 33
theorem sc__law_sum : FnScope ["rows", "deal", "person", "owner", "one", "here"] ["rows", "deal", "person", "owner"] (defScope s__law_sum) := ⟨rfl, rfl, rfl, by decide +kernel, rfl, by decide +kernel, by decide +kernel⟩
theorem c__law_sum (T : Txt K mg) : Cal P w K mg base 1 "_law_sum" 4 m__law_sum := m__law_sum_eq.symm ▸ cal_of (N := ["rows", "deal", "person", "owner", "one", "here"]) (ps := ["rows", "deal", "person", "owner"]) (st := s__law_sum) (j := 2) (f := f__law_sum) T.f__law_sum T.g__law_sum sc__law_sum rfl rfl (fun cdv A outer s H E hr => ⟨_, (pss_one (ps_ret (pe_callB (cr_sum rfl) (by rfl) T.b_sum bt_sum (pa_cons (pe_lc (own := [("one", 4), ("here", 5)]) (g := (gTup K 2 (gCons (gName 4) (gCons (gName 5) gNil)))) (tt := (tTest (tOp (rEqD K) (tVar 5) (tVar 3)))) (te := (tOp (rIx K) (tOp (rIx K) (tVar 0) (tVar 2)) (tVar 4))) rfl sc__law_sum.nd (pi_enumK (by rfl) T.b_enumerate (pv 1)) (blkOk_by (by kernel_rfl)) (fun _ _ _ _ _ => (pg_tup (n := 2) rfl (pgs_cons (pg_name (i := 4) sc__law_sum.nd rfl (by first | exact Or.inl rfl | exact Or.inr rfl)) (pgs_cons (pg_name (i := 5) sc__law_sum.nd rfl (by first | exact Or.inl rfl | exact Or.inr rfl)) pgs_nil)))) (fun _ _ _ _ _ => (pts_one (pt_cmpR (op_eqD hr.units) (pv 5) (pv 3) (nomark _)))) (fun _ _ _ _ _ => (pe_ix ix_seq (pe_ix ix_seq (pv 0) (pv 2) (fun _ _ => rfl)) (pv 4) (fun _ _ => rfl)))) pa_nil)))),
    dsK fun a0 h0 hs0 W hW => by
    exact (ds_ret (dt_cb dc_sum (dba_cons ((DF.t (df_lc (dib_enum (db_rd 1)) (dg_tup (n := 2) (dgs_cons (dg_name 4) (dgs_cons (dg_name 5) dgs_nil))) (by decide) (dtt_val (dt_op d2_eq (db_rd 5) (db_rd 3))) (dt_op d2_ix ((dt_op d2_ix (db_rd 0) (db_rd 2))).b (db_rd 4))))).b dba_nil)))⟩)
  (fun _ _ _ _ _ _ us hl => match us, hl with | [_, _, _, _], _ => rfl)
abbrev s__law_gains : Stmt := top 34
theorem sc__law_gains : FnScope ["rows", "deal", "person"] ["rows", "deal"] (defScope s__law_gains) := ⟨rfl, rfl, rfl, by decide +kernel, rfl, by decide +kernel, by decide +kernel⟩
theorem c__law_gains (T : Txt K mg) : Cal P w K mg base 2 "_law_gains" 2 m__law_gains := m__law_gains_eq.symm ▸ cal_of (N := ["rows", "deal", "person"]) (ps := ["rows", "deal"]) (st := s__law_gains) (j := 1) (f := f__law_gains) T.f__law_gains T.g__law_gains sc__law_gains rfl rfl (fun cdv A outer s H E hr => ⟨_, (pss_one (ps_ret (pe_callTy callA_tuple (by rfl) T.b_tuple bt_tuple (pa_cons (pe_lc (own := [("person", 2)]) (g := (gName 2)) (tt := tYes) (te := (tCall (spOf K 4 m__law_sum) [] E0 (tCons (tVar 0) (tCons (tVar 1) (tCons (tVar 2) (tCons (tVar 2) tNil)))))) rfl sc__law_gains.nd (pi_range1 (by rfl) T.b_range (pa_cons (pe_callB call_lenX (by rfl) T.b_len bt_len (pa_cons (pv 0) pa_nil)) pa_nil)) (blkOk_by (by kernel_rfl)) (fun _ _ _ _ _ => (pg_name (i := 2) sc__law_gains.nd rfl (by first | exact Or.inl rfl | exact Or.inr rfl))) (fun _ _ _ _ _ => pts_nil) (fun _ _ _ _ _ => (pe_cal (c__law_sum T) (hr.mono (by decide)) (by rfl) (pa_cons (pv 0) (pa_cons (pv 1) (pa_cons (pv 2) (pa_cons (pv 2) pa_nil))))))) pa_nil)))),
    dsK fun a0 h0 hs0 W hW => by
    exact (ds_ret (dt_cb dc_tuple (dba_cons ((DF.t (df_lc ((di_rg1 (dt_cb dc_len (dba_cons (db_rd 0) dba_nil)))).b (dg_name 2) (by decide) dtt_yes (dt_call hW (dan_cons (dt_var 0) (dan_cons (dt_var 1) (dan_cons (dt_var 2) (dan_cons (dt_var 2) dan_nil)))))))).b dba_nil)))⟩)
  (fun _ _ _ _ _ _ us hl => match us, hl with | [_, _], _ => rfl)
abbrev s__law_lots : Stmt := top 35
theorem sc__law_lots : FnScope ["things", "found", "one", "lot"] ["things"] (defScope s__law_lots) := ⟨rfl, rfl, rfl, by decide +kernel, rfl, by decide +kernel, by decide +kernel⟩
theorem c__law_lots (T : Txt K mg) : Cal P w K mg base 1 "_law_lots" 1 m__law_lots := m__law_lots_eq.symm ▸ cal_of (N := ["things", "found", "one", "lot"]) (ps := ["things"]) (st := s__law_lots) (j := 3) (f := f__law_lots) T.f__law_lots T.g__law_lots sc__law_lots rfl rfl (fun cdv A outer s H E hr => ⟨_, (pss_cons (ps_set (i := 1) sc__law_lots.nd rfl (by first | exact Or.inl rfl | exact Or.inr rfl) (pe_lst (pa_cons (pe_tup pa_nil) pa_nil)))
    (pss_cons (ps_for PassesOwn.never rfl (pi_seq (pv 0)) (pg_name (i := 2) sc__law_lots.nd rfl (by first | exact Or.inl rfl | exact Or.inr rfl)) (pss_one (ps_set (i := 1) sc__law_lots.nd rfl (by first | exact Or.inl rfl | exact Or.inr rfl) (pe_op op_addX (pv 1) (pe_lc (own := [("lot", 3)]) (g := (gName 3)) (tt := tYes) (te := (tOp (rAddX K) (tVar 3) (tTup (tCons (tVar 2) tNil)))) rfl sc__law_lots.nd (pi_seq (pv 1)) (blkOk_by (by kernel_rfl)) (fun _ _ _ _ _ => (pg_name (i := 3) sc__law_lots.nd rfl (by first | exact Or.inl rfl | exact Or.inr rfl))) (fun _ _ _ _ _ => pts_nil) (fun _ _ _ _ _ => (pe_op op_addX (pv 3) (pe_tup (pa_cons (pv 2) pa_nil)))))))))
    (pss_one (ps_ret (pv 1))))),
    dsK fun a0 h0 hs0 W hW => by
    exact (ds_seq (ds_asg (DF.t (df_lst (da_cons (dt_tup da_nil) da_nil))) (dg_name 1))
    (ds_seq (ds_for (di_seq (dt_var 0)) (dg_name 2) (ds_asg (DF.t (df_op d2f_add (db_rd 1) ((DF.t (df_lc (dib_seq (db_rd 1)) (dg_name 3) (by decide) dtt_yes (dt_op d2_add (db_rd 3) ((dt_tup (da_cons (dt_var 2) da_nil))).b)))).b)) (dg_name 1)))
    (ds_ret (dt_var 1))))⟩)
  (fun _ _ _ _ _ _ us hl => match us, hl with | [_], _ => rfl)
abbrev s__law_pair : Stmt := top 36
theorem sc__law_pair : FnScope ["row", "things", "whole", "best", "lot", "here", "least", "one"] ["row", "things"] (defScope s__law_pair) := ⟨rfl, rfl, rfl, by decide +kernel, rfl, by decide +kernel, by decide +kernel⟩
theorem c__law_pair (T : Txt K mg) : Cal P w K mg base 2 "_law_pair" 2 m__law_pair := m__law_pair_eq.symm ▸ cal_of (N := ["row", "things", "whole", "best", "lot", "here", "least", "one"]) (ps := ["row", "things"]) (st := s__law_pair) (j := 6) (f := f__law_pair) T.f__law_pair T.g__law_pair sc__law_pair rfl rfl (fun cdv A outer s H E hr => ⟨_, (pss_cons (ps_par2 (i := 2) (j := 3) rfl sc__law_pair.nd rfl rfl (by decide) rfl rfl (pa_cons (pe_callB (cr_sum rfl) (by rfl) T.b_sum bt_sum (pa_cons (pe_lc (own := [("one", 7)]) (g := (gName 7)) (tt := tYes) (te := (tOp (rIx K) (tVar 0) (tVar 7))) rfl sc__law_pair.nd (pi_seq (pv 1)) (blkOk_by (by kernel_rfl)) (fun _ _ _ _ _ => (pg_name (i := 7) sc__law_pair.nd rfl (by first | exact Or.inl rfl | exact Or.inr rfl))) (fun _ _ _ _ _ => pts_nil) (fun _ _ _ _ _ => (pe_ix ix_seq (pv 0) (pv 7) (fun _ _ => rfl)))) pa_nil)) (pa_cons pe_non pa_nil)) (by rfl))
    (pss_cons (ps_for PassesOwn.never rfl (pi_seq (pe_cal (c__law_lots T) (hr.mono (by decide)) (by rfl) (pa_cons (pv 1) pa_nil))) (pg_name (i := 4) sc__law_pair.nd rfl (by first | exact Or.inl rfl | exact Or.inr rfl)) (pss_cons (ps_set (i := 5) sc__law_pair.nd rfl (by first | exact Or.inl rfl | exact Or.inr rfl) (pe_callB (cr_sum rfl) (by rfl) T.b_sum bt_sum (pa_cons (pe_lc (own := [("one", 7)]) (g := (gName 7)) (tt := tYes) (te := (tOp (rIx K) (tVar 0) (tVar 7))) rfl sc__law_pair.nd (pi_seq (pv 4)) (blkOk_by (by kernel_rfl)) (fun _ _ _ _ _ => (pg_name (i := 7) sc__law_pair.nd rfl (by first | exact Or.inl rfl | exact Or.inr rfl))) (fun _ _ _ _ _ => pts_nil) (fun _ _ _ _ _ => (pe_ix ix_seq (pv 0) (pv 7) (fun _ _ => rfl)))) pa_nil)))
    (pss_cons (ps_set (i := 6) sc__law_pair.nd rfl (by first | exact Or.inl rfl | exact Or.inr rfl) (pe_callB (call_minX rfl) (by rfl) T.b_min bt_min (pa_cons (pv 5) (pa_cons (pe_op op_sub (pv 2) (pv 5)) pa_nil))))
    (pss_one (ps_set (i := 3) sc__law_pair.nd rfl (by first | exact Or.inl rfl | exact Or.inr rfl) (pe_ifExp (PW.pt (pw_or (pt_cmpR op_isX (pv 3) pe_non (nomark _)) (pw_or1 (pt_cmpR op_gt (pv 6) (pv 3) (nomark _))))) (pv 6) (pv 3)))))))
    (pss_one (ps_ret (pv 3))))),
    dsK fun a0 h0 hs0 W hW => by
    exact (ds_seq (ds_parN (is := [2, 3]) (dn_sh (dt_cb dc_sum (dba_cons ((DF.t (df_lc (dib_seq (db_rd 1)) (dg_name 7) (by decide) dtt_yes (dt_op d2_ix (db_rd 0) (db_rd 7))))).b dba_nil)) (dn_sh dt_non dn_nil)) rfl (by decide))
    (ds_seq (ds_for (di_seq (dt_call hW (dan_cons (dt_var 1) dan_nil))) (dg_name 4) (ds_seq (ds_asg (dt_cb dc_sum (dba_cons ((DF.t (df_lc (dib_seq (db_rd 4)) (dg_name 7) (by decide) dtt_yes (dt_op d2_ix (db_rd 0) (db_rd 7))))).b dba_nil)) (dg_name 5))
    (ds_seq (ds_asg (dt_cb dc_min (dba_cons (db_rd 5) (dba_cons ((dt_op d2_sub (db_rd 2) (db_rd 5))).b dba_nil))) (dg_name 6))
    (ds_asg (dt_if (dtt_or (dtt_val (dt_op d2_is (db_rd 3) (dt_non).b)) (dtt_val (dt_op d2_gt (db_rd 6) (db_rd 3)))) (dt_var 6) (dt_var 3)) (dg_name 3)))))
    (ds_ret (dt_var 3))))⟩)
  (fun _ _ _ _ _ _ us hl => match us, hl with | [_, _], _ => rfl)
abbrev s__law_bag : Stmt := top 37
theorem sc__law_bag : FnScope ["rows", "goals", "left", "deal", "bag", "one", "content", "here", "person", "owner"] ["rows", "goals"] (defScope s__law_bag) := ⟨rfl, rfl, rfl, by decide +kernel, rfl, by decide +kernel, by decide +kernel⟩
theorem c__law_bag (T : Txt K mg) : Cal P w K mg base 1 "_law_bag" 2 m__law_bag := m__law_bag_eq.symm ▸ cal_of (N := ["rows", "goals", "left", "deal", "bag", "one", "content", "here", "person", "owner"]) (ps := ["rows", "goals"]) (st := s__law_bag) (j := 8) (f := f__law_bag) T.f__law_bag T.g__law_bag sc__law_bag rfl rfl (fun cdv A outer s H E hr => ⟨_, (pss_cons (ps_asg (pe_tup (pa_cons (pe_listRg rfl (by rfl) T.b_list (prg_1 (by rfl) T.b_range (pe_callB call_lenX (by rfl) T.b_len bt_len (pa_cons (pv 0) pa_nil)))) (pa_cons (pe_op op_mulXX (pe_lst (pa_cons pe_non pa_nil)) (pe_callB call_lenX (by rfl) T.b_len bt_len (pa_cons (pe_ix ix_seq (pv 0) pe_int (fun _ _ => rfl)) pa_nil))) (pa_cons (pe_lst pa_nil) pa_nil)))) (pg_tup (n := 3) rfl (pgs_cons (pg_name (i := 2) sc__law_bag.nd rfl (by first | exact Or.inl rfl | exact Or.inr rfl)) (pgs_cons (pg_name (i := 3) sc__law_bag.nd rfl (by first | exact Or.inl rfl | exact Or.inr rfl)) (pgs_cons (pg_name (i := 4) sc__law_bag.nd rfl (by first | exact Or.inl rfl | exact Or.inr rfl)) pgs_nil)))))
    (pss_cons (ps_for PassesOwn.never rfl (pi_range1 (by rfl) T.b_range (pa_cons (pe_callB call_lenX (by rfl) T.b_len bt_len (pa_cons (pe_ix ix_seq (pv 0) pe_int (fun _ _ => rfl)) pa_nil)) pa_nil)) (pg_name (i := 5) sc__law_bag.nd rfl (by first | exact Or.inl rfl | exact Or.inr rfl)) (pss_cons (ps_expr (pe_bm PySem.F.plainAttrs_list PySem.F.slot_list_append PySem.F.type_list_append mt_append (pv 4) (pa_cons (pv 5) pa_nil)))
    (pss_cons (ps_setLc (i := 6) (own := [("person", 8)]) (g := (gName 8)) (tt := (tTest (tOp (rI0 fun i j => .bl (decide (j ≤ i))) (tCB (rSum K) (tCons (tLc (iSeq K (tVar 4)) (gName 7) tYes (tOp (rIx K) (tOp (rIx K) (tVar 0) (tVar 8)) (tVar 7)) [7]) tNil)) (tOp (rIx K) (tVar 1) (tVar 8))))) (te := (tVar 8)) rfl sc__law_bag.nd rfl rfl (sw_true rfl rfl rfl (by decide +kernel)) (pi_seq (pv 2)) (blkOk_by (by kernel_rfl)) (fun _ _ _ _ _ => (pg_name (i := 8) sc__law_bag.nd rfl (by first | exact Or.inl rfl | exact Or.inr rfl))) (fun _ _ _ _ _ => (pts_one (pt_cmpR op_ge (pe_callB (cr_sum rfl) (by rfl) T.b_sum bt_sum (pa_cons (pe_lc (own := [("here", 7)]) (g := (gName 7)) (tt := tYes) (te := (tOp (rIx K) (tOp (rIx K) (tVar 0) (tVar 8)) (tVar 7))) rfl sc__law_bag.nd (pi_seq (pv 4)) (blkOk_by (by kernel_rfl)) (fun _ _ _ _ _ => (pg_name (i := 7) sc__law_bag.nd rfl (by first | exact Or.inl rfl | exact Or.inr rfl))) (fun _ _ _ _ _ => pts_nil) (fun _ _ _ _ _ => (pe_ix ix_seq (pe_ix ix_seq (pv 0) (pv 8) (fun _ _ => rfl)) (pv 7) (fun _ _ => rfl)))) pa_nil)) (pe_ix ix_seq (pv 1) (pv 8) (fun _ _ => rfl)) (nomark _)))) (fun _ _ _ _ _ => (pv 8)))
    (pss_one (ps_if (PW.pt (pw_and (pt_cmpR op_gt (pe_callB call_lenX (by rfl) T.b_len bt_len (pa_cons (pv 6) pa_nil)) pe_int (nomark _)) (pw_and1 (pt_cmpR op_gt (pe_callB call_lenX (by rfl) T.b_len bt_len (pa_cons (pv 2) pa_nil)) pe_int (nomark _))))) (pss_cons (ps_for PassesOwn.never rfl (pi_seq (pv 4)) (pg_name (i := 7) sc__law_bag.nd rfl (by first | exact Or.inl rfl | exact Or.inr rfl)) (pss_one (ps_asg (pe_ix ix_seq (pv 6) pe_int (fun _ _ => rfl)) (pg_sub (pv 3) (pv 7) set_list))))
    (pss_cons (ps_expr (pe_bm PySem.F.plainAttrs_list PySem.F.slot_list_remove PySem.F.type_list_remove mt_remove (pv 2) (pa_cons (pe_ix ix_seq (pv 6) pe_int (fun _ _ => rfl)) pa_nil)))
    (pss_one (ps_set (i := 4) sc__law_bag.nd rfl (by first | exact Or.inl rfl | exact Or.inr rfl) (pe_lst pa_nil))))) pss_nil)))))
    (pss_cons (ps_if (pt_cmpR op_gt (pe_callB call_lenX (by rfl) T.b_len bt_len (pa_cons (pv 2) pa_nil)) pe_int (nomark _)) (pss_one (ps_ret pe_non)) pss_nil)
    (pss_one (ps_ret (pe_callTy callA_tuple (by rfl) T.b_tuple bt_tuple (pa_cons (pe_lc (own := [("owner", 9)]) (g := (gName 9)) (tt := tYes) (te := (tIf (tTest (tOp rIsX (tVar 9) (tC .non))) (tOp (rIx K) (tVar 2) (tC (.int 0))) (tVar 9))) rfl sc__law_bag.nd (pi_seq (pv 3)) (blkOk_by (by kernel_rfl)) (fun _ _ _ _ _ => (pg_name (i := 9) sc__law_bag.nd rfl (by first | exact Or.inl rfl | exact Or.inr rfl))) (fun _ _ _ _ _ => pts_nil) (fun _ _ _ _ _ => (pe_ifExp (pt_cmpR op_isX (pv 9) pe_non (nomark _)) (pe_ix ix_seq (pv 2) pe_int (fun _ _ => rfl)) (pv 9)))) pa_nil))))))),
    dsK fun a0 h0 hs0 W hW => by
    exact (ds_seq (ds_many (n := 3) (is := [2, 3, 4]) (dn_ol (df_listRg (dr_1 (dt_cb dc_len (dba_cons (db_rd 0) dba_nil)))) (dn_ol (df_op d2f_mul ((DF.t (df_lst (da_cons dt_non da_nil)))).b ((dt_cb dc_len (dba_cons ((dt_op d2_ix (db_rd 0) ((dt_int 0)).b)).b dba_nil))).b) (dn_ol (df_lst da_nil) dn_nil))) rfl (by decide) (by decide))
    (ds_seq (ds_for (di_rg1 (dt_cb dc_len (dba_cons ((dt_op d2_ix (db_rd 0) ((dt_int 0)).b)).b dba_nil))) (dg_name 5) (ds_seq (ds_app (i := 4) (dt_var 5))
    (ds_seq (ds_asg (DF.t (df_lc (dib_seq (db_rd 2)) (dg_name 8) (by decide) (dtt_val (dt_op d2_ge ((dt_cb dc_sum (dba_cons ((DF.t (df_lc (dib_seq (db_rd 4)) (dg_name 7) (by decide) dtt_yes (dt_op d2_ix ((dt_op d2_ix (db_rd 0) (db_rd 8))).b (db_rd 7))))).b dba_nil))).b ((dt_op d2_ix (db_rd 1) (db_rd 8))).b)) (dt_var 8))) (dg_name 6))
    (ds_if (dtt_and (dtt_val (dt_op d2_gt ((dt_cb dc_len (dba_cons (db_rd 6) dba_nil))).b ((dt_int 0)).b)) (dtt_val (dt_op d2_gt ((dt_cb dc_len (dba_cons (db_rd 2) dba_nil))).b ((dt_int 1)).b))) (ds_seq (ds_still (i := 4) (ds_for (di_seq (dt_var 4)) (dg_name 7) (ds_setI (i := 3) (dt_var 7) (dt_op d2_ix (db_rd 6) ((dt_int 0)).b))))
    (ds_seq (ds_rem (i := 2) (dt_op d2_ix (db_rd 6) ((dt_int 0)).b))
    (ds_own (i := 4) (df_lst da_nil)))) ds_next))))
    (ds_seq (ds_if (dtt_val (dt_op d2_gt ((dt_cb dc_len (dba_cons (db_rd 2) dba_nil))).b ((dt_int 1)).b)) (ds_ret dt_non) ds_next)
    (ds_ret (dt_cb dc_tuple (dba_cons ((DF.t (df_lc (dib_seq (db_rd 3)) (dg_name 9) (by decide) dtt_yes (dt_if (dtt_val (dt_op d2_is (db_rd 9) (dt_non).b)) (dt_op d2_ix (db_rd 2) ((dt_int 0)).b) (dt_var 9))))).b dba_nil))))))⟩)
  (fun _ _ _ _ _ _ us hl => match us, hl with | [_, _], _ => rfl)
abbrev s_law : Stmt := top 38
theorem sc_law : FnScope ["script", "hand", "turn", "persons", "things", "rows", "table", "lap", "deal", "fine", "person", "other", "both", "due", "goals", "told", "lots_v", "one", "row", "lot", "gain", "goal"] ["script"] (defScope s_law) := ⟨rfl, rfl, rfl, by decide +kernel, rfl, by decide +kernel, by decide +kernel⟩
theorem c_law (T : Txt K mg) (hm : ∀ ns : List Int, ns.length ≤ 63 → m__law_hand [.scr ns] (fun d => ∃ cells s, d = .lst (handD cells 0 0 s 0) ∧ cells.length ≤ 63) (fun _ => False))
    (hf : f_law ((List.replicate (1 + lawMore) .no).set lawSlot (.sh .hand)) ⟨fun _ => False, fun _ d => d = .bl true, fun _ => False, fun _ => False⟩ (fun _ => False)) :
    ∃ fd, FunD K "law" "law" (defArgs s_law) (defBody s_law) (defScope s_law) [] [] (He.ga K "law") fd ∧ FnOk P w K mg base CX0 8 (He.ga K "law") fd ["script"] (spLaw K) := by
  obtain ⟨fd, F⟩ := T.f_law
  refine ⟨fd, F, F.ok sc_law (fun vs H Q E h => ?_) (fun cdv A outer s H vs Q E hr h => ?_)⟩
  · obtain ⟨p, ns, rfl, _⟩ := h
    rfl
  · refine ⟨_, PSs.nox (pss_cons (ps_set (i := 1) sc_law.nd rfl (by first | exact Or.inl rfl | exact Or.inr rfl) (pe_cal (c__law_hand T) (hr.mono (by decide)) (by rfl) (pa_cons (pv 0) pa_nil)))
    (pss_cons (ps_for PassesOwn.never rfl (pi_range1 (by rfl) T.b_range (pa_cons pe_int pa_nil)) (pg_name (i := 2) sc_law.nd rfl (by first | exact Or.inl rfl | exact Or.inr rfl)) (pss_cons (ps_asg (pe_tup (pa_cons (pe_op op_addX pe_int (pe_cal (c__law_draw T) (hr.mono (by decide)) (by rfl) (pa_cons (pv 1) (pa_cons pe_int pa_nil)))) (pa_cons (pe_cal (c__law_draw T) (hr.mono (by decide)) (by rfl) (pa_cons (pv 1) (pa_cons pe_int pa_nil))) pa_nil))) (pg_tup (n := 2) rfl (pgs_cons (pg_name (i := 3) sc_law.nd rfl (by first | exact Or.inl rfl | exact Or.inr rfl)) (pgs_cons (pg_name (i := 4) sc_law.nd rfl (by first | exact Or.inl rfl | exact Or.inr rfl)) pgs_nil))))
    (pss_cons (ps_set (i := 5) sc_law.nd rfl (by first | exact Or.inl rfl | exact Or.inr rfl) (pe_cal (c__law_rows T) (hr.mono (by decide)) (by rfl) (pa_cons (pv 1) (pa_cons (pv 3) (pa_cons (pv 4) (pa_cons pe_int pa_nil))))))
    (pss_cons (ps_set (i := 6) sc_law.nd rfl (by first | exact Or.inl rfl | exact Or.inr rfl) (pe_mak (c_Table T) (hr.mono (by decide)) (by rfl) (pa_cons (pv 5) pa_nil)))
    (pss_cons (ps_for PassesOwn.never rfl (pi_range1 (by rfl) T.b_range (pa_cons pe_int pa_nil)) (pg_name (i := 7) sc_law.nd rfl (by first | exact Or.inl rfl | exact Or.inr rfl)) (pss_cons (ps_set (i := 8) sc_law.nd rfl (by first | exact Or.inl rfl | exact Or.inr rfl) (pe_callTy callA_tuple (by rfl) T.b_tuple bt_tuple (pa_cons (pe_lc (own := [("one", 17)]) (g := (gName 17)) (tt := tYes) (te := (tCall (spOf K 2 m__law_draw) [] E0 (tCons (tVar 1) (tCons (tVar 3) tNil)))) rfl sc_law.nd (pi_range1 (by rfl) T.b_range (pa_cons (pv 4) pa_nil)) (blkOk_by (by kernel_rfl)) (fun _ _ _ _ _ => (pg_name (i := 17) sc_law.nd rfl (by first | exact Or.inl rfl | exact Or.inr rfl))) (fun _ _ _ _ _ => pts_nil) (fun _ _ _ _ _ => (pe_cal (c__law_draw T) (hr.mono (by decide)) (by rfl) (pa_cons (pv 1) (pa_cons (pv 3) pa_nil))))) pa_nil)))
    (pss_cons (ps_set (i := 9) sc_law.nd rfl (by first | exact Or.inl rfl | exact Or.inr rfl) pe_bl)
    (pss_cons (ps_for PassesOwn.never rfl (pi_range1 (by rfl) T.b_range (pa_cons (pv 3) pa_nil)) (pg_name (i := 10) sc_law.nd rfl (by first | exact Or.inl rfl | exact Or.inr rfl)) (pss_one (ps_for PassesOwn.never rfl (pi_range1 (by rfl) T.b_range (pa_cons (pv 3) pa_nil)) (pg_name (i := 11) sc_law.nd rfl (by first | exact Or.inl rfl | exact Or.inr rfl)) (pss_one (ps_if (pt_cmpR (op_neD hr.units) (pv 11) (pv 10) (nomark _)) (pss_cons (ps_setLc (i := 12) (own := [("one", 17)]) (g := (gName 17)) (tt := (tTest (tOp (rIn K false) (tOp (rIx K) (tVar 8) (tVar 17)) (tTup (tCons (tVar 10) (tCons (tVar 11) tNil)))))) (te := (tVar 17)) rfl sc_law.nd rfl rfl (sw_true rfl rfl rfl (by decide +kernel)) (pi_range1 (by rfl) T.b_range (pa_cons (pv 4) pa_nil)) (blkOk_by (by kernel_rfl)) (fun _ _ _ _ _ => (pg_name (i := 17) sc_law.nd rfl (by first | exact Or.inl rfl | exact Or.inr rfl))) (fun _ _ _ _ _ => (pts_one (pt_cmpR op_in_seq (pe_ix ix_seq (pv 8) (pv 17) (fun _ _ => rfl)) (pe_tup (pa_cons (pv 10) (pa_cons (pv 11) pa_nil))) (by rfl)))) (fun _ _ _ _ _ => (pv 17)))
    (pss_cons (ps_set (i := 13) sc_law.nd rfl (by first | exact Or.inl rfl | exact Or.inr rfl) (pe_cal (c__law_pair T) (hr.mono (by decide)) (by rfl) (pa_cons (pe_ix ix_seq (pv 5) (pv 10) (fun _ _ => rfl)) (pa_cons (pv 12) pa_nil))))
    (pss_cons (ps_if (pt_cmpR (op_neD hr.units) (pe_cal (c_pairs_share T) (hr.mono (by decide)) (by rfl) (pa_cons (pv 6) (pa_cons (pv 10) (pa_cons (pv 11) (pa_cons (pv 8) pa_nil))))) (pv 13) (nomark _)) (pss_one (ps_ret pe_bl)) pss_nil)
    (pss_one (ps_set (i := 9) sc_law.nd rfl (by first | exact Or.inl rfl | exact Or.inr rfl) (pe_andT (pv 9) (pe_one (pe_cmpR op_ge (pe_cal (c__law_sum T) (hr.mono (by decide)) (by rfl) (pa_cons (pv 5) (pa_cons (pv 8) (pa_cons (pv 10) (pa_cons (pv 10) pa_nil))))) (pv 13) (nomark _))))))))) pss_nil)))))
    (pss_one (ps_if (pt_cmpR (op_neD hr.units) (pe_cal (c_is_kept_by_pairs T) (hr.mono (by decide)) (by rfl) (pa_cons (pv 6) (pa_cons (pv 8) pa_nil))) (pv 9) (nomark _)) (pss_one (ps_ret pe_bl)) pss_nil))))))
    (pss_cons (ps_if (pt_cmpR op_isNotX (pe_cal (c_is_kept_by_pairs T) (hr.mono (by decide)) (by rfl) (pa_cons (pv 6) (pa_cons (pe_cal (c__law_some T) (hr.mono (by decide)) (by rfl) (pa_cons (pv 1) (pa_cons (pe_lst (pa_cons pe_non (pa_cons pe_int (pa_cons (pe_callTy callA_list (by rfl) T.b_list bt_list (pa_cons (pv 8) pa_nil)) (pa_cons pe_str (pa_cons (pe_op op_addX (pv 8) (pe_tup (pa_cons pe_int pa_nil))) pa_nil)))))) pa_nil))) pa_nil))) pe_bl (nomark _)) (pss_one (ps_ret pe_bl)) pss_nil)
    (pss_cons (ps_setLc (i := 14) (own := [("row", 18)]) (g := (gName 18)) (tt := tYes) (te := (tOp (rAddX K) (tC (.int 1)) (tCall (spOf K 2 m__law_draw) [] E0 (tCons (tVar 1) (tCons (tOp (rAddX K) (tOp (rAddX K) (tC (.int 1)) (tOp (rI CDiv fun i j => .int (i / j)) (tCB (rSum K) (tCons (tVar 18) tNil)) (tVar 3))) (tC (.int 2))) tNil))))) rfl sc_law.nd rfl rfl (sw_true rfl rfl rfl (by decide +kernel)) (pi_seq (pv 5)) (blkOk_by (by kernel_rfl)) (fun _ _ _ _ _ => (pg_name (i := 18) sc_law.nd rfl (by first | exact Or.inl rfl | exact Or.inr rfl))) (fun _ _ _ _ _ => pts_nil) (fun _ _ _ _ _ => (pe_op op_addX pe_int (pe_cal (c__law_draw T) (hr.mono (by decide)) (by rfl) (pa_cons (pv 1) (pa_cons (pe_op op_addX (pe_op op_addX pe_int (pe_op op_fdiv (pe_callB (cr_sum rfl) (by rfl) T.b_sum bt_sum (pa_cons (pv 18) pa_nil)) (pv 3))) pe_int) pa_nil))))))
    (pss_cons (ps_asg (pe_tup (pa_cons (pe_cal (c__law_bag T) (hr.mono (by decide)) (by rfl) (pa_cons (pv 5) (pa_cons (pv 14) pa_nil))) (pa_cons (pe_cal (c_bag_filled T) (hr.mono (by decide)) (by rfl) (pa_cons (pv 6) (pa_cons (pv 14) pa_nil))) pa_nil))) (pg_tup (n := 2) rfl (pgs_cons (pg_name (i := 13) sc_law.nd rfl (by first | exact Or.inl rfl | exact Or.inr rfl)) (pgs_cons (pg_name (i := 15) sc_law.nd rfl (by first | exact Or.inl rfl | exact Or.inr rfl)) pgs_nil))))
    (pss_cons (ps_if (pt_cmpR (op_neD hr.units) (pe_cmpR op_isX (pv 15) pe_non (nomark _)) (pe_cmpR op_isX (pv 13) pe_non (nomark _)) (nomark _)) (pss_one (ps_ret pe_bl)) pss_nil)
    (pss_one (ps_if (pt_cmpR op_isX (pv 13) pe_non (nomark _)) (pss_one (ps_if (pt_cmpR op_isNotX (pe_cal (c_is_told_bag T) (hr.mono (by decide)) (by rfl) (pa_cons (pv 6) (pa_cons (pv 14) pa_nil))) pe_bl (nomark _)) (pss_one (ps_ret pe_bl)) pss_nil)) (pss_cons (ps_set (i := 16) sc_law.nd rfl (by first | exact Or.inl rfl | exact Or.inr rfl) (pe_callTy callA_tuple (by rfl) T.b_tuple bt_tuple (pa_cons (pe_lc (own := [("person", 10)]) (g := (gName 10)) (tt := tYes) (te := (tCB (rTupleOf K) (tCons (tLc (iRng1 (tCons (tVar 4) tNil)) (gName 17) (tTest (tOp (rEqD K) (tOp (rIx K) (tVar 13) (tVar 17)) (tVar 10))) (tVar 17) [17]) tNil))) rfl sc_law.nd (pi_range1 (by rfl) T.b_range (pa_cons (pv 3) pa_nil)) (blkOk_by (by kernel_rfl)) (fun _ _ _ _ _ => (pg_name (i := 10) sc_law.nd rfl (by first | exact Or.inl rfl | exact Or.inr rfl))) (fun _ _ _ _ _ => pts_nil) (fun _ _ _ _ _ => (pe_callTy callA_tuple (by rfl) T.b_tuple bt_tuple (pa_cons (pe_lc (own := [("one", 17)]) (g := (gName 17)) (tt := (tTest (tOp (rEqD K) (tOp (rIx K) (tVar 13) (tVar 17)) (tVar 10)))) (te := (tVar 17)) rfl sc_law.nd (pi_range1 (by rfl) T.b_range (pa_cons (pv 4) pa_nil)) (blkOk_by (by kernel_rfl)) (fun _ _ _ _ _ => (pg_name (i := 17) sc_law.nd rfl (by first | exact Or.inl rfl | exact Or.inr rfl))) (fun _ _ _ _ _ => (pts_one (pt_cmpR (op_eqD hr.units) (pe_ix ix_seq (pv 13) (pv 17) (fun _ _ => rfl)) (pv 10) (nomark _)))) (fun _ _ _ _ _ => (pv 17))) pa_nil)))) pa_nil)))
    (pss_cons (ps_if (PW.pt (pw_or (pt_cmpR (op_neD hr.units) (pe_ix ix_seq (pv 15) pe_int (fun _ _ => rfl)) (pv 13) (nomark _)) (pw_or1 (pt_cmpR (op_neD hr.units) (pe_callTy callA_tuple (by rfl) T.b_tuple bt_tuple (pa_cons (pe_lc (own := [("lot", 19)]) (g := (gName 19)) (tt := tYes) (te := (tCB (rTupleOf K) (tCons (tVar 19) tNil))) rfl sc_law.nd (pi_seq (pe_ix ix_seq (pv 15) pe_int (fun _ _ => rfl))) (blkOk_by (by kernel_rfl)) (fun _ _ _ _ _ => (pg_name (i := 19) sc_law.nd rfl (by first | exact Or.inl rfl | exact Or.inr rfl))) (fun _ _ _ _ _ => pts_nil) (fun _ _ _ _ _ => (pe_callTy callA_tuple (by rfl) T.b_tuple bt_tuple (pa_cons (pv 19) pa_nil)))) pa_nil)) (pv 16) (nomark _))))) (pss_one (ps_ret pe_bl)) pss_nil)
    (pss_cons (ps_set (i := 9) sc_law.nd rfl (by first | exact Or.inl rfl | exact Or.inr rfl) (pe_callB (cr_all rfl) (by rfl) T.b_all bt_all (pa_cons (pe_lc (own := [("gain", 20), ("goal", 21)]) (g := (gTup K 2 (gCons (gName 20) (gCons (gName 21) gNil)))) (tt := tYes) (te := (tOp (rI0 fun i j => .bl (decide (j ≤ i))) (tVar 20) (tVar 21))) rfl sc_law.nd (pi_zipK (by rfl) T.b_zip (pe_cal (c__law_gains T) (hr.mono (by decide)) (by rfl) (pa_cons (pv 5) (pa_cons (pv 13) pa_nil))) (pv 14)) (blkOk_by (by kernel_rfl)) (fun _ _ _ _ _ => (pg_tup (n := 2) rfl (pgs_cons (pg_name (i := 20) sc_law.nd rfl (by first | exact Or.inl rfl | exact Or.inr rfl)) (pgs_cons (pg_name (i := 21) sc_law.nd rfl (by first | exact Or.inl rfl | exact Or.inr rfl)) pgs_nil)))) (fun _ _ _ _ _ => pts_nil) (fun _ _ _ _ _ => (pe_cmpR op_ge (pv 20) (pv 21) (nomark _)))) pa_nil)))
    (pss_one (ps_if (pt_cmpR (op_neD hr.units) (pe_cal (c_is_told_bag T) (hr.mono (by decide)) (by rfl) (pa_cons (pv 6) (pa_cons (pv 14) pa_nil))) (pv 9) (nomark _)) (pss_one (ps_ret pe_bl)) pss_nil))))))))))))))))
    (pss_one (ps_ret pe_bl)))), law_ok (N := ["script", "hand", "turn", "persons", "things", "rows", "table", "lap", "deal", "fine", "person", "other", "both", "due", "goals", "told", "lots_v", "one", "row", "lot", "gain", "goal"]) (i := 1) (j := 21) (f := f_law) rfl (by decide) hm (dsK fun a0 h0 hs0 W hW => by
    exact (ds_seq (ds_for (di_rg1 (dt_int 3)) (dg_name 2) (ds_seq (ds_many (n := 2) (is := [3, 4]) (dn_sh (dt_op d2_add ((dt_int 2)).b ((dt_call hW (dan_cons (dt_var 1) (dan_cons (dt_int 2) dan_nil)))).b) (dn_sh (dt_call hW (dan_cons (dt_var 1) (dan_cons (dt_int 7) dan_nil))) dn_nil)) rfl (by decide) (by decide))
    (ds_seq (ds_asg (dt_call hW (dan_cons (dt_var 1) (dan_cons (dt_var 3) (dan_cons (dt_var 4) (dan_cons (dt_int 0) dan_nil))))) (dg_name 5))
    (ds_seq (ds_asg (dt_make hW (dan_cons (dt_var 5) dan_nil)) (dg_name 6))
    (ds_seq (ds_for (di_rg1 (dt_int 3)) (dg_name 7) (ds_seq (ds_asg (dt_cb dc_tuple (dba_cons ((DF.t (df_lc ((di_rg1 (dt_var 4))).b (dg_name 17) (by decide) dtt_yes (dt_call hW (dan_cons (dt_var 1) (dan_cons (dt_var 3) dan_nil)))))).b dba_nil)) (dg_name 8))
    (ds_seq (ds_asg (dt_bl true) (dg_name 9))
    (ds_seq (ds_for (di_rg1 (dt_var 3)) (dg_name 10) (ds_for (di_rg1 (dt_var 3)) (dg_name 11) (ds_if (dtt_val (dt_op d2_ne (db_rd 11) (db_rd 10))) (ds_seq (ds_asg (DF.t (df_lc ((di_rg1 (dt_var 4))).b (dg_name 17) (by decide) (dtt_val (dt_op d2_in ((dt_op d2_ix (db_rd 8) (db_rd 17))).b ((dt_tup (da_cons (dt_var 10) (da_cons (dt_var 11) da_nil)))).b)) (dt_var 17))) (dg_name 12))
    (ds_seq (ds_asg (dt_call hW (dan_cons (dt_op d2_ix (db_rd 5) (db_rd 10)) (dan_cons (dt_var 12) dan_nil))) (dg_name 13))
    (ds_seq (ds_if (dtt_val (dt_op d2_ne ((dt_call hW (dan_cons (dt_var 6) (dan_cons (dt_var 10) (dan_cons (dt_var 11) (dan_cons (dt_var 8) dan_nil)))))).b (db_rd 13))) (ds_ret (dt_bl false)) ds_next)
    (ds_asg (dt_and (dt_var 9) (dt_op d2_ge ((dt_call hW (dan_cons (dt_var 5) (dan_cons (dt_var 8) (dan_cons (dt_var 10) (dan_cons (dt_var 10) dan_nil)))))).b (db_rd 13))) (dg_name 9))))) ds_next)))
    (ds_if (dtt_val (dt_op d2_ne ((dt_call hW (dan_cons (dt_var 6) (dan_cons (dt_var 8) dan_nil)))).b (db_rd 9))) (ds_ret (dt_bl false)) ds_next)))))
    (ds_seq (ds_if (dtt_val (dt_op d2_isNot ((dt_call hW (dan_cons (dt_var 6) (dan_cons (dt_call hW (dan_cons (dt_var 1) (dan_cons (DF.t (df_lst (da_cons dt_non (da_cons (dt_int 0) (da_cons (DF.t (df_cb dcf_list (dba_cons (db_rd 8) dba_nil))) (da_cons (dt_str "deal") (da_cons (dt_op d2_add (db_rd 8) ((dt_tup (da_cons (dt_int 0) da_nil))).b) da_nil))))))) dan_nil))) dan_nil)))).b ((dt_bl false)).b)) (ds_ret (dt_bl false)) ds_next)
    (ds_seq (ds_asg (DF.t (df_lc (dib_seq (db_rd 5)) (dg_name 18) (by decide) dtt_yes (dt_op d2_add ((dt_int 1)).b ((dt_call hW (dan_cons (dt_var 1) (dan_cons (dt_op d2_add ((dt_op d2_add ((dt_int 1)).b ((dt_op d2_fdiv ((dt_cb dc_sum (dba_cons (db_rd 18) dba_nil))).b (db_rd 3))).b)).b ((dt_int 2)).b) dan_nil)))).b))) (dg_name 14))
    (ds_seq (ds_many (n := 2) (is := [13, 15]) (dn_sh (dt_call hW (dan_cons (dt_var 5) (dan_cons (dt_var 14) dan_nil))) (dn_sh (dt_call hW (dan_cons (dt_var 6) (dan_cons (dt_var 14) dan_nil))) dn_nil)) rfl (by decide) (by decide))
    (ds_seq (ds_if (dtt_val (dt_op d2_ne ((dt_op d2_is (db_rd 15) (dt_non).b)).b ((dt_op d2_is (db_rd 13) (dt_non).b)).b)) (ds_ret (dt_bl false)) ds_next)
    (ds_if (dtt_val (dt_op d2_is (db_rd 13) (dt_non).b)) (ds_if (dtt_val (dt_op d2_isNot ((dt_call hW (dan_cons (dt_var 6) (dan_cons (dt_var 14) dan_nil)))).b ((dt_bl false)).b)) (ds_ret (dt_bl false)) ds_next) (ds_seq (ds_asg (dt_cb dc_tuple (dba_cons ((DF.t (df_lc ((di_rg1 (dt_var 3))).b (dg_name 10) (by decide) dtt_yes (dt_cb dc_tuple (dba_cons ((DF.t (df_lc ((di_rg1 (dt_var 4))).b (dg_name 17) (by decide) (dtt_val (dt_op d2_eq ((dt_op d2_ix (db_rd 13) (db_rd 17))).b (db_rd 10))) (dt_var 17)))).b dba_nil))))).b dba_nil)) (dg_name 16))
    (ds_seq (ds_if (dtt_or (dtt_val (dt_op d2_ne ((dt_op d2_ix (db_rd 15) ((dt_int 0)).b)).b (db_rd 13))) (dtt_val (dt_op d2_ne ((dt_cb dc_tuple (dba_cons ((DF.t (df_lc (dib_seq ((dt_op d2_ix (db_rd 15) ((dt_int 1)).b)).b) (dg_name 19) (by decide) dtt_yes (dt_cb dc_tuple (dba_cons (db_rd 19) dba_nil))))).b dba_nil))).b (db_rd 16)))) (ds_ret (dt_bl false)) ds_next)
    (ds_seq (ds_asg (dt_cb dc_all (dba_cons ((DF.t (df_lc (dib_zip ((dt_call hW (dan_cons (dt_var 5) (dan_cons (dt_var 13) dan_nil)))).b (db_rd 14)) (dg_tup (n := 2) (dgs_cons (dg_name 20) (dgs_cons (dg_name 21) dgs_nil))) (by decide) dtt_yes (dt_op d2_ge (db_rd 20) (db_rd 21))))).b dba_nil)) (dg_name 9))
    (ds_if (dtt_val (dt_op d2_ne ((dt_call hW (dan_cons (dt_var 6) (dan_cons (dt_var 14) dan_nil)))).b (db_rd 9))) (ds_ret (dt_bl false)) ds_next))))))))))))))
    (ds_ret (dt_bl true)))) hf h⟩
end
end K12
/-! the law, over trees -/
namespace K12
open PySem L2 Fd
theorem cut63 {α : Type} (xs : List α) (h : xs.length ≤ 63) : cutD xs none (some 63) = xs := (cutD_to xs 63).trans (List.take_of_length_le h)
theorem hand_works : ∀ ns : List Int, ns.length ≤ 63 → m__law_hand [.scr ns] (fun d => ∃ cells s, d = .lst (handD cells 0 0 s 0) ∧ cells.length ≤ 63) (fun _ => False) := by
  intro ns h
  have hc : ∀ a : Int, CMul 7 a := fun a => .inl (by omega)
  simp only [m__law_hand_eq, f__law_hand, eVar, eRd, eC, e2, dAdd, dSub, dMul, dFdiv, dMod, dPow, dII, dI0, dLtI, dLe, dGt, dGe, eAnd, eOr, eNot, eIf, eNeg, eChain, mTru, mVal, mAnd, mOr, mNot, mYes, dTru_bl, dTru_int, dTru_non, dTru_tup, dTru_lst, dIx_lst, dIx_tup, eFld, eSl, oNone, oSome, eTup, fLst, eNew, eCB, fCB, dLen, dAbs, dInt, dTuple, dList, aNil, aCons, fLstRg, eTupRg, rRg1, rRg2, eIsi, fSeq, fRg1, fRg2, fEnum, fZip, D.items, gdName, gdTup, gdCons, gdNil, sSeq, sNext, sDrop, sRet, sRetN, sIf, sAsg, sOwn, sOwnD, sStill, sPar, sAugI, sApp, sExt, sSetI, sSetH, sFor, fLc, sForD, eGetD, dOf, keyD, sMany, setAll, nNil, nSh, nOl, nOd, eCall, mBody, mInit, eMake, sSelf, sSelf2, wipeE, dSl, List.getElem?_cons_zero, List.getElem?_cons_succ, List.set_cons_zero, List.set_cons_succ, List.replicate_succ, List.replicate_zero, List.map_cons, List.map_nil, List.cons_append, List.nil_append, List.length_cons, List.length_nil, List.length_map, atI_0, atI_1, atI_2, atI_3, atI_4, atI_n, ↓reduceIte, Bool.false_eq_true, dEq_int, dNe_int, Nat.reduceAdd, Nat.zero_add, putFD, f2, dAddF, dMulF, fSl]
  rw [cut63 _ (by rw [List.length_map]; exact h)]
  refine ⟨by rw [List.length_map]; unfold sizeLine; omega, lc_map (fun x => .int (if x < 0 then -x else x)) (fun x _ k hk => ?_) ?_⟩
  · simp only [eVar, eRd, eC, e2, dAdd, dSub, dMul, dFdiv, dMod, dPow, dII, dI0, dLtI, dLe, dGt, dGe, eAnd, eOr, eNot, eIf, eNeg, eChain, mTru, mVal, mAnd, mOr, mNot, mYes, dTru_bl, dTru_int, dTru_non, dTru_tup, dTru_lst, dIx_lst, dIx_tup, eFld, eSl, oNone, oSome, eTup, fLst, eNew, eCB, fCB, dLen, dAbs, dInt, dTuple, dList, aNil, aCons, fLstRg, eTupRg, rRg1, rRg2, eIsi, fSeq, fRg1, fRg2, fEnum, fZip, D.items, gdName, gdTup, gdCons, gdNil, sSeq, sNext, sDrop, sRet, sRetN, sIf, sAsg, sOwn, sOwnD, sStill, sPar, sAugI, sApp, sExt, sSetI, sSetH, sFor, fLc, sForD, eGetD, dOf, keyD, sMany, setAll, nNil, nSh, nOl, nOd, eCall, mBody, mInit, eMake, sSelf, sSelf2, wipeE, dSl, List.getElem?_cons_zero, List.getElem?_cons_succ, List.set_cons_zero, List.set_cons_succ, List.replicate_succ, List.replicate_zero, List.map_cons, List.map_nil, List.cons_append, List.nil_append, List.length_cons, List.length_nil, List.length_map, atI_0, atI_1, atI_2, atI_3, atI_4, atI_n, ↓reduceIte, Bool.false_eq_true, dEq_int, dNe_int, Nat.reduceAdd, Nat.zero_add, putFD, f2, dAddF, dMulF, fSl]
    exact hk
  · simp only [eVar, eRd, eC, e2, dAdd, dSub, dMul, dFdiv, dMod, dPow, dII, dI0, dLtI, dLe, dGt, dGe, eAnd, eOr, eNot, eIf, eNeg, eChain, mTru, mVal, mAnd, mOr, mNot, mYes, dTru_bl, dTru_int, dTru_non, dTru_tup, dTru_lst, dIx_lst, dIx_tup, eFld, eSl, oNone, oSome, eTup, fLst, eNew, eCB, fCB, dLen, dAbs, dInt, dTuple, dList, aNil, aCons, fLstRg, eTupRg, rRg1, rRg2, eIsi, fSeq, fRg1, fRg2, fEnum, fZip, D.items, gdName, gdTup, gdCons, gdNil, sSeq, sNext, sDrop, sRet, sRetN, sIf, sAsg, sOwn, sOwnD, sStill, sPar, sAugI, sApp, sExt, sSetI, sSetH, sFor, fLc, sForD, eGetD, dOf, keyD, sMany, setAll, nNil, nSh, nOl, nOd, eCall, mBody, mInit, eMake, sSelf, sSelf2, wipeE, dSl, List.getElem?_cons_zero, List.getElem?_cons_succ, List.set_cons_zero, List.set_cons_succ, List.replicate_succ, List.replicate_zero, List.map_cons, List.map_nil, List.cons_append, List.nil_append, List.length_cons, List.length_nil, List.length_map, atI_0, atI_1, atI_2, atI_3, atI_4, atI_n, ↓reduceIte, Bool.false_eq_true, dEq_int, dNe_int, Nat.reduceAdd, Nat.zero_add, putFD, f2, dAddF, dMulF, fSl, hc, true_and]
    exact ⟨by decide, ns.map fun x => if x < 0 then -x else x, _, by unfold handD; rw [List.map_map]; rfl, by rw [List.length_map]; exact h⟩
/-! ### worths, deals -/
abbrev natI (n : Nat) : D := .int (n : Int)
abbrev nats (xs : List Nat) : D := .tup (xs.map natI)
abbrev intT (xs : List Int) : D := .tup (xs.map .int)
abbrev intL (xs : List Int) : D := .lst (xs.map .int)
def tab (p t : Nat) (R : List (List Int)) : D := .obj "Table" [("persons", .int p), ("things", .int t), ("rows", .tup (R.map intT))]
def W (R : List (List Int)) (i j : Nat) : Int := (R.getD i []).getD j 0
structure Tab (p t : Nat) (R : List (List Int)) : Prop where
  rows : R.length = p
  cols : ∀ r ∈ R, r.length = t
  low : ∀ r ∈ R, ∀ x ∈ r, -100 ≤ x ∧ x ≤ 100
  p1 : 1 ≤ p
  p5 : p ≤ 5
  t9 : t ≤ 9
variable {p t : Nat} {R : List (List Int)} {q : D → Prop} {qe : QE}
theorem w_is_integer {i : Int} (h : q (.bl true)) : m_is_integer [.int i] q qe := by
  simp only [m_is_integer_eq, f_is_integer, D.ty, eVar, eRd, eC, e2, dAdd, dSub, dMul, dFdiv, dMod, dPow, dII, dI0, dLtI, dLe, dGt, dGe, eAnd, eOr, eNot, eIf, eNeg, eChain, mTru, mVal, mAnd, mOr, mNot, mYes, dTru_bl, dTru_int, dTru_non, dTru_tup, dTru_lst, dIx_lst, dIx_tup, eFld, eSl, oNone, oSome, eTup, fLst, eNew, eCB, fCB, dLen, dAbs, dInt, dTuple, dList, aNil, aCons, fLstRg, eTupRg, rRg1, rRg2, eIsi, fSeq, fRg1, fRg2, fEnum, fZip, D.items, gdName, gdTup, gdCons, gdNil, sSeq, sNext, sDrop, sRet, sRetN, sIf, sAsg, sOwn, sOwnD, sStill, sPar, sAugI, sApp, sExt, sSetI, sSetH, sFor, fLc, sForD, eGetD, dOf, keyD, sMany, setAll, nNil, nSh, nOl, nOd, eCall, mBody, mInit, eMake, sSelf, sSelf2, wipeE, dSl, List.getElem?_cons_zero, List.getElem?_cons_succ, List.set_cons_zero, List.set_cons_succ, List.replicate_succ, List.replicate_zero, List.map_cons, List.map_nil, List.cons_append, List.nil_append, List.length_cons, List.length_nil, List.length_map, atI_0, atI_1, atI_2, atI_3, atI_4, atI_n, ↓reduceIte, Bool.false_eq_true, dEq_int, dNe_int, Nat.reduceAdd, Nat.zero_add, putFD, f2, dAddF, dMulF, fSl]
  exact h
theorem w_is_within {a lo hi : Int} (h : q (.bl (decide (lo ≤ a) && decide (a ≤ hi)))) : m_is_within [.int a, .int lo, .int hi] q qe := by
  simp only [m_is_within_eq, f_is_within, eVar, eRd, eC, e2, dAdd, dSub, dMul, dFdiv, dMod, dPow, dII, dI0, dLtI, dLe, dGt, dGe, eAnd, eOr, eNot, eIf, eNeg, eChain, mTru, mVal, mAnd, mOr, mNot, mYes, dTru_bl, dTru_int, dTru_non, dTru_tup, dTru_lst, dIx_lst, dIx_tup, eFld, eSl, oNone, oSome, eTup, fLst, eNew, eCB, fCB, dLen, dAbs, dInt, dTuple, dList, aNil, aCons, fLstRg, eTupRg, rRg1, rRg2, eIsi, fSeq, fRg1, fRg2, fEnum, fZip, D.items, gdName, gdTup, gdCons, gdNil, sSeq, sNext, sDrop, sRet, sRetN, sIf, sAsg, sOwn, sOwnD, sStill, sPar, sAugI, sApp, sExt, sSetI, sSetH, sFor, fLc, sForD, eGetD, dOf, keyD, sMany, setAll, nNil, nSh, nOl, nOd, eCall, mBody, mInit, eMake, sSelf, sSelf2, wipeE, dSl, List.getElem?_cons_zero, List.getElem?_cons_succ, List.set_cons_zero, List.set_cons_succ, List.replicate_succ, List.replicate_zero, List.map_cons, List.map_nil, List.cons_append, List.nil_append, List.length_cons, List.length_nil, List.length_map, atI_0, atI_1, atI_2, atI_3, atI_4, atI_n, ↓reduceIte, Bool.false_eq_true, dEq_int, dNe_int, Nat.reduceAdd, Nat.zero_add, putFD, f2, dAddF, dMulF, fSl]
  refine w_is_integer ?_
  by_cases h1 : lo ≤ a
  · simp only [h1, decide_true, eVar, eRd, eC, e2, dAdd, dSub, dMul, dFdiv, dMod, dPow, dII, dI0, dLtI, dLe, dGt, dGe, eAnd, eOr, eNot, eIf, eNeg, eChain, mTru, mVal, mAnd, mOr, mNot, mYes, dTru_bl, dTru_int, dTru_non, dTru_tup, dTru_lst, dIx_lst, dIx_tup, eFld, eSl, oNone, oSome, eTup, fLst, eNew, eCB, fCB, dLen, dAbs, dInt, dTuple, dList, aNil, aCons, fLstRg, eTupRg, rRg1, rRg2, eIsi, fSeq, fRg1, fRg2, fEnum, fZip, D.items, gdName, gdTup, gdCons, gdNil, sSeq, sNext, sDrop, sRet, sRetN, sIf, sAsg, sOwn, sOwnD, sStill, sPar, sAugI, sApp, sExt, sSetI, sSetH, sFor, fLc, sForD, eGetD, dOf, keyD, sMany, setAll, nNil, nSh, nOl, nOd, eCall, mBody, mInit, eMake, sSelf, sSelf2, wipeE, dSl, List.getElem?_cons_zero, List.getElem?_cons_succ, List.set_cons_zero, List.set_cons_succ, List.replicate_succ, List.replicate_zero, List.map_cons, List.map_nil, List.cons_append, List.nil_append, List.length_cons, List.length_nil, List.length_map, atI_0, atI_1, atI_2, atI_3, atI_4, atI_n, ↓reduceIte, Bool.false_eq_true, dEq_int, dNe_int, Nat.reduceAdd, Nat.zero_add, putFD, f2, dAddF, dMulF, fSl]
    simpa only [h1, decide_true, Bool.true_and] using h
  · simp only [h1, decide_false, eVar, eRd, eC, e2, dAdd, dSub, dMul, dFdiv, dMod, dPow, dII, dI0, dLtI, dLe, dGt, dGe, eAnd, eOr, eNot, eIf, eNeg, eChain, mTru, mVal, mAnd, mOr, mNot, mYes, dTru_bl, dTru_int, dTru_non, dTru_tup, dTru_lst, dIx_lst, dIx_tup, eFld, eSl, oNone, oSome, eTup, fLst, eNew, eCB, fCB, dLen, dAbs, dInt, dTuple, dList, aNil, aCons, fLstRg, eTupRg, rRg1, rRg2, eIsi, fSeq, fRg1, fRg2, fEnum, fZip, D.items, gdName, gdTup, gdCons, gdNil, sSeq, sNext, sDrop, sRet, sRetN, sIf, sAsg, sOwn, sOwnD, sStill, sPar, sAugI, sApp, sExt, sSetI, sSetH, sFor, fLc, sForD, eGetD, dOf, keyD, sMany, setAll, nNil, nSh, nOl, nOd, eCall, mBody, mInit, eMake, sSelf, sSelf2, wipeE, dSl, List.getElem?_cons_zero, List.getElem?_cons_succ, List.set_cons_zero, List.set_cons_succ, List.replicate_succ, List.replicate_zero, List.map_cons, List.map_nil, List.cons_append, List.nil_append, List.length_cons, List.length_nil, List.length_map, atI_0, atI_1, atI_2, atI_3, atI_4, atI_n, ↓reduceIte, Bool.false_eq_true, dEq_int, dNe_int, Nat.reduceAdd, Nat.zero_add, putFD, f2, dAddF, dMulF, fSl]
    simpa only [h1, decide_false, Bool.false_and] using h
theorem lk_p (a b c : D) : List.lookup (Str.ofString "persons") [(Str.ofString "persons", a), (Str.ofString "things", b), (Str.ofString "rows", c)] = some a := rfl
theorem lk_t (a b c : D) : List.lookup (Str.ofString "things") [(Str.ofString "persons", a), (Str.ofString "things", b), (Str.ofString "rows", c)] = some b := rfl
theorem lk_r (a b c : D) : List.lookup (Str.ofString "rows") [(Str.ofString "persons", a), (Str.ofString "things", b), (Str.ofString "rows", c)] = some c := rfl
theorem inT : (Str.ofString "Table") ∈ [Str.ofString "Table"] := List.mem_cons_self ..
theorem w_check_person {i : Nat} (hi : i < p) (h : q .non) : m_check_person [tab p t R, .int i] q qe := by
  simp only [m_check_person_eq, f_check_person, tab, lk_p, inT, true_and, eVar, eRd, eC, e2, dAdd, dSub, dMul, dFdiv, dMod, dPow, dII, dI0, dLtI, dLe, dGt, dGe, eAnd, eOr, eNot, eIf, eNeg, eChain, mTru, mVal, mAnd, mOr, mNot, mYes, dTru_bl, dTru_int, dTru_non, dTru_tup, dTru_lst, dIx_lst, dIx_tup, eFld, eSl, oNone, oSome, eTup, fLst, eNew, eCB, fCB, dLen, dAbs, dInt, dTuple, dList, aNil, aCons, fLstRg, eTupRg, rRg1, rRg2, eIsi, fSeq, fRg1, fRg2, fEnum, fZip, D.items, gdName, gdTup, gdCons, gdNil, sSeq, sNext, sDrop, sRet, sRetN, sIf, sAsg, sOwn, sOwnD, sStill, sPar, sAugI, sApp, sExt, sSetI, sSetH, sFor, fLc, sForD, eGetD, dOf, keyD, sMany, setAll, nNil, nSh, nOl, nOd, eCall, mBody, mInit, eMake, sSelf, sSelf2, wipeE, dSl, List.getElem?_cons_zero, List.getElem?_cons_succ, List.set_cons_zero, List.set_cons_succ, List.replicate_succ, List.replicate_zero, List.map_cons, List.map_nil, List.cons_append, List.nil_append, List.length_cons, List.length_nil, List.length_map, atI_0, atI_1, atI_2, atI_3, atI_4, atI_n, ↓reduceIte, Bool.false_eq_true, dEq_int, dNe_int, Nat.reduceAdd, Nat.zero_add, putFD, f2, dAddF, dMulF, fSl]
  refine w_is_within ?_
  have h1 : (0 : Int) ≤ i := by omega
  have h2 : (i : Int) ≤ p - 1 := by omega
  simp only [h1, h2, decide_true, Bool.and_true, Bool.not_true, eVar, eRd, eC, e2, dAdd, dSub, dMul, dFdiv, dMod, dPow, dII, dI0, dLtI, dLe, dGt, dGe, eAnd, eOr, eNot, eIf, eNeg, eChain, mTru, mVal, mAnd, mOr, mNot, mYes, dTru_bl, dTru_int, dTru_non, dTru_tup, dTru_lst, dIx_lst, dIx_tup, eFld, eSl, oNone, oSome, eTup, fLst, eNew, eCB, fCB, dLen, dAbs, dInt, dTuple, dList, aNil, aCons, fLstRg, eTupRg, rRg1, rRg2, eIsi, fSeq, fRg1, fRg2, fEnum, fZip, D.items, gdName, gdTup, gdCons, gdNil, sSeq, sNext, sDrop, sRet, sRetN, sIf, sAsg, sOwn, sOwnD, sStill, sPar, sAugI, sApp, sExt, sSetI, sSetH, sFor, fLc, sForD, eGetD, dOf, keyD, sMany, setAll, nNil, nSh, nOl, nOd, eCall, mBody, mInit, eMake, sSelf, sSelf2, wipeE, dSl, List.getElem?_cons_zero, List.getElem?_cons_succ, List.set_cons_zero, List.set_cons_succ, List.replicate_succ, List.replicate_zero, List.map_cons, List.map_nil, List.cons_append, List.nil_append, List.length_cons, List.length_nil, List.length_map, atI_0, atI_1, atI_2, atI_3, atI_4, atI_n, ↓reduceIte, Bool.false_eq_true, dEq_int, dNe_int, Nat.reduceAdd, Nat.zero_add, putFD, f2, dAddF, dMulF, fSl]
  exact h
theorem isi_tt : (["tuple"].any fun n => isiB "tuple" n) = true := by decide
theorem isi_lt : (["list", "tuple"].any fun n => isiB "tuple" n) = true := by decide
theorem isi_ll : (["list", "tuple"].any fun n => isiB "list" n) = true := by decide
/-- places of things, in order -/
def Lot (t : Nat) (L : List Nat) : Prop := ∃ f, L = (List.range t).filter f
theorem Lot.len {L : List Nat} (h : Lot t L) : L.length ≤ t := by
  obtain ⟨f, rfl⟩ := h
  have := List.length_filter_le f (List.range t)
  rwa [List.length_range] at this
theorem Lot.lt {L : List Nat} (h : Lot t L) : ∀ i ∈ L, i < t := by
  obtain ⟨f, rfl⟩ := h
  exact fun i hi => List.mem_range.mp (List.mem_filter.mp hi).1
theorem Lot.pw {L : List Nat} (h : Lot t L) : L.Pairwise (· < ·) := by
  obtain ⟨f, rfl⟩ := h
  exact List.Pairwise.filter _ List.pairwise_lt_range
theorem zip_lt : ∀ {L : List Nat}, L.Pairwise (· < ·) → ∀ x ∈ L.zip (L.drop 1), x.1 < x.2
  | [], _, x, h => by cases h
  | [a], _, x, h => by cases h
  | a :: b :: r, h, x, hx => by
    have e : (a :: b :: r).zip ((a :: b :: r).drop 1) = (a, b) :: ((b :: r).zip ((b :: r).drop 1)) := rfl
    rw [e] at hx
    rcases List.mem_cons.mp hx with e | e
    · subst e
      exact (List.pairwise_cons.mp h).1 b (List.mem_cons_self ..)
    · exact zip_lt (List.pairwise_cons.mp h).2 x e
theorem small {n : Nat} (h : n ≤ 100000) : n ≤ sizeLine := Nat.le_trans h (by decide)
theorem w_is_lot {L : List Nat} (ht : t ≤ 9) (hL : Lot t L) (h : q (.bl true)) : m_is_lot [tab p t R, nats L] q qe := by
  have hl := hL.len
  simp only [m_is_lot_eq, f_is_lot, D.ty, tab, lk_t, inT, true_and, isi_tt, Bool.not_true, eVar, eRd, eC, e2, dAdd, dSub, dMul, dFdiv, dMod, dPow, dII, dI0, dLtI, dLe, dGt, dGe, eAnd, eOr, eNot, eIf, eNeg, eChain, mTru, mVal, mAnd, mOr, mNot, mYes, dTru_bl, dTru_int, dTru_non, dTru_tup, dTru_lst, dIx_lst, dIx_tup, eFld, eSl, oNone, oSome, eTup, fLst, eNew, eCB, fCB, dLen, dAbs, dInt, dTuple, dList, aNil, aCons, fLstRg, eTupRg, rRg1, rRg2, eIsi, fSeq, fRg1, fRg2, fEnum, fZip, D.items, gdName, gdTup, gdCons, gdNil, sSeq, sNext, sDrop, sRet, sRetN, sIf, sAsg, sOwn, sOwnD, sStill, sPar, sAugI, sApp, sExt, sSetI, sSetH, sFor, fLc, sForD, eGetD, dOf, keyD, sMany, setAll, nNil, nSh, nOl, nOd, eCall, mBody, mInit, eMake, sSelf, sSelf2, wipeE, dSl, List.getElem?_cons_zero, List.getElem?_cons_succ, List.set_cons_zero, List.set_cons_succ, List.replicate_succ, List.replicate_zero, List.map_cons, List.map_nil, List.cons_append, List.nil_append, List.length_cons, List.length_nil, List.length_map, atI_0, atI_1, atI_2, atI_3, atI_4, atI_n, ↓reduceIte, Bool.false_eq_true, dEq_int, dNe_int, Nat.reduceAdd, Nat.zero_add, putFD, f2, dAddF, dMulF, fSl]
  refine ⟨small (by omega), lc_map (fun x => .bl true) (fun x hx k hk => ?_) ?_⟩
  · have := hL.lt x hx
    simp only [lk_t, inT, true_and, eVar, eRd, eC, e2, dAdd, dSub, dMul, dFdiv, dMod, dPow, dII, dI0, dLtI, dLe, dGt, dGe, eAnd, eOr, eNot, eIf, eNeg, eChain, mTru, mVal, mAnd, mOr, mNot, mYes, dTru_bl, dTru_int, dTru_non, dTru_tup, dTru_lst, dIx_lst, dIx_tup, eFld, eSl, oNone, oSome, eTup, fLst, eNew, eCB, fCB, dLen, dAbs, dInt, dTuple, dList, aNil, aCons, fLstRg, eTupRg, rRg1, rRg2, eIsi, fSeq, fRg1, fRg2, fEnum, fZip, D.items, gdName, gdTup, gdCons, gdNil, sSeq, sNext, sDrop, sRet, sRetN, sIf, sAsg, sOwn, sOwnD, sStill, sPar, sAugI, sApp, sExt, sSetI, sSetH, sFor, fLc, sForD, eGetD, dOf, keyD, sMany, setAll, nNil, nSh, nOl, nOd, eCall, mBody, mInit, eMake, sSelf, sSelf2, wipeE, dSl, List.getElem?_cons_zero, List.getElem?_cons_succ, List.set_cons_zero, List.set_cons_succ, List.replicate_succ, List.replicate_zero, List.map_cons, List.map_nil, List.cons_append, List.nil_append, List.length_cons, List.length_nil, List.length_map, atI_0, atI_1, atI_2, atI_3, atI_4, atI_n, ↓reduceIte, Bool.false_eq_true, dEq_int, dNe_int, Nat.reduceAdd, Nat.zero_add, putFD, f2, dAddF, dMulF, fSl]
    refine w_is_within ?_
    rw [decide_eq_true (by omega : (0 : Int) ≤ x), decide_eq_true (by omega : (x : Int) ≤ t - 1)]
    exact hk
  · have e : (L.all fun _ => true) = true := by simp
    simp only [dAll_map, e, Bool.not_true, eVar, eRd, eC, e2, dAdd, dSub, dMul, dFdiv, dMod, dPow, dII, dI0, dLtI, dLe, dGt, dGe, eAnd, eOr, eNot, eIf, eNeg, eChain, mTru, mVal, mAnd, mOr, mNot, mYes, dTru_bl, dTru_int, dTru_non, dTru_tup, dTru_lst, dIx_lst, dIx_tup, eFld, eSl, oNone, oSome, eTup, fLst, eNew, eCB, fCB, dLen, dAbs, dInt, dTuple, dList, aNil, aCons, fLstRg, eTupRg, rRg1, rRg2, eIsi, fSeq, fRg1, fRg2, fEnum, fZip, D.items, gdName, gdTup, gdCons, gdNil, sSeq, sNext, sDrop, sRet, sRetN, sIf, sAsg, sOwn, sOwnD, sStill, sPar, sAugI, sApp, sExt, sSetI, sSetH, sFor, fLc, sForD, eGetD, dOf, keyD, sMany, setAll, nNil, nSh, nOl, nOd, eCall, mBody, mInit, eMake, sSelf, sSelf2, wipeE, dSl, List.getElem?_cons_zero, List.getElem?_cons_succ, List.set_cons_zero, List.set_cons_succ, List.replicate_succ, List.replicate_zero, List.map_cons, List.map_nil, List.cons_append, List.nil_append, List.length_cons, List.length_nil, List.length_map, atI_0, atI_1, atI_2, atI_3, atI_4, atI_n, ↓reduceIte, Bool.false_eq_true, dEq_int, dNe_int, Nat.reduceAdd, Nat.zero_add, putFD, f2, dAddF, dMulF, fSl]
    rw [cutD_f1, ← List.map_drop, zipD_map]
    refine ⟨small (by rw [List.length_map, List.length_zip]; omega), lc_map (fun _ => .bl true) (fun x hx k hk => ?_) ?_⟩
    · have := zip_lt hL.pw x hx
      simp only [eVar, eRd, eC, e2, dAdd, dSub, dMul, dFdiv, dMod, dPow, dII, dI0, dLtI, dLe, dGt, dGe, eAnd, eOr, eNot, eIf, eNeg, eChain, mTru, mVal, mAnd, mOr, mNot, mYes, dTru_bl, dTru_int, dTru_non, dTru_tup, dTru_lst, dIx_lst, dIx_tup, eFld, eSl, oNone, oSome, eTup, fLst, eNew, eCB, fCB, dLen, dAbs, dInt, dTuple, dList, aNil, aCons, fLstRg, eTupRg, rRg1, rRg2, eIsi, fSeq, fRg1, fRg2, fEnum, fZip, D.items, gdName, gdTup, gdCons, gdNil, sSeq, sNext, sDrop, sRet, sRetN, sIf, sAsg, sOwn, sOwnD, sStill, sPar, sAugI, sApp, sExt, sSetI, sSetH, sFor, fLc, sForD, eGetD, dOf, keyD, sMany, setAll, nNil, nSh, nOl, nOd, eCall, mBody, mInit, eMake, sSelf, sSelf2, wipeE, dSl, List.getElem?_cons_zero, List.getElem?_cons_succ, List.set_cons_zero, List.set_cons_succ, List.replicate_succ, List.replicate_zero, List.map_cons, List.map_nil, List.cons_append, List.nil_append, List.length_cons, List.length_nil, List.length_map, atI_0, atI_1, atI_2, atI_3, atI_4, atI_n, ↓reduceIte, Bool.false_eq_true, dEq_int, dNe_int, Nat.reduceAdd, Nat.zero_add, putFD, f2, dAddF, dMulF, fSl]
      refine ⟨trivial, ?_⟩
      rw [decide_eq_true (by omega)]
      exact hk
    · rw [dAll_map, List.all_eq_true.mpr (fun _ _ => rfl)]
      exact h
theorem w_check_lot {L : List Nat} (ht : t ≤ 9) (hL : Lot t L) (h : q .non) : m_check_lot [tab p t R, nats L] q qe := by
  simp only [m_check_lot_eq, f_check_lot, eVar, eRd, eC, e2, dAdd, dSub, dMul, dFdiv, dMod, dPow, dII, dI0, dLtI, dLe, dGt, dGe, eAnd, eOr, eNot, eIf, eNeg, eChain, mTru, mVal, mAnd, mOr, mNot, mYes, dTru_bl, dTru_int, dTru_non, dTru_tup, dTru_lst, dIx_lst, dIx_tup, eFld, eSl, oNone, oSome, eTup, fLst, eNew, eCB, fCB, dLen, dAbs, dInt, dTuple, dList, aNil, aCons, fLstRg, eTupRg, rRg1, rRg2, eIsi, fSeq, fRg1, fRg2, fEnum, fZip, D.items, gdName, gdTup, gdCons, gdNil, sSeq, sNext, sDrop, sRet, sRetN, sIf, sAsg, sOwn, sOwnD, sStill, sPar, sAugI, sApp, sExt, sSetI, sSetH, sFor, fLc, sForD, eGetD, dOf, keyD, sMany, setAll, nNil, nSh, nOl, nOd, eCall, mBody, mInit, eMake, sSelf, sSelf2, wipeE, dSl, List.getElem?_cons_zero, List.getElem?_cons_succ, List.set_cons_zero, List.set_cons_succ, List.replicate_succ, List.replicate_zero, List.map_cons, List.map_nil, List.cons_append, List.nil_append, List.length_cons, List.length_nil, List.length_map, atI_0, atI_1, atI_2, atI_3, atI_4, atI_n, ↓reduceIte, Bool.false_eq_true, dEq_int, dNe_int, Nat.reduceAdd, Nat.zero_add, putFD, f2, dAddF, dMulF, fSl]
  refine w_is_lot ht hL ?_
  simp only [Bool.not_true, eVar, eRd, eC, e2, dAdd, dSub, dMul, dFdiv, dMod, dPow, dII, dI0, dLtI, dLe, dGt, dGe, eAnd, eOr, eNot, eIf, eNeg, eChain, mTru, mVal, mAnd, mOr, mNot, mYes, dTru_bl, dTru_int, dTru_non, dTru_tup, dTru_lst, dIx_lst, dIx_tup, eFld, eSl, oNone, oSome, eTup, fLst, eNew, eCB, fCB, dLen, dAbs, dInt, dTuple, dList, aNil, aCons, fLstRg, eTupRg, rRg1, rRg2, eIsi, fSeq, fRg1, fRg2, fEnum, fZip, D.items, gdName, gdTup, gdCons, gdNil, sSeq, sNext, sDrop, sRet, sRetN, sIf, sAsg, sOwn, sOwnD, sStill, sPar, sAugI, sApp, sExt, sSetI, sSetH, sFor, fLc, sForD, eGetD, dOf, keyD, sMany, setAll, nNil, nSh, nOl, nOd, eCall, mBody, mInit, eMake, sSelf, sSelf2, wipeE, dSl, List.getElem?_cons_zero, List.getElem?_cons_succ, List.set_cons_zero, List.set_cons_succ, List.replicate_succ, List.replicate_zero, List.map_cons, List.map_nil, List.cons_append, List.nil_append, List.length_cons, List.length_nil, List.length_map, atI_0, atI_1, atI_2, atI_3, atI_4, atI_n, ↓reduceIte, Bool.false_eq_true, dEq_int, dNe_int, Nat.reduceAdd, Nat.zero_add, putFD, f2, dAddF, dMulF, fSl]
  exact h
theorem row_at (T : Tab p t R) {i : Nat} (hi : i < p) : atI (R.map intT) (i : Int) = some (intT (R.getD i [])) := by
  have h : i < R.length := by rw [T.rows]; exact hi
  rw [atI_n, List.getElem?_map, List.getElem?_eq_getElem h, List.getD_eq_getElem?_getD, List.getElem?_eq_getElem h]
  rfl
theorem row_atL (T : Tab p t R) {i : Nat} (hi : i < p) : atI (R.map intL) (i : Int) = some (intL (R.getD i [])) := by
  have h : i < R.length := by rw [T.rows]; exact hi
  rw [atI_n, List.getElem?_map, List.getElem?_eq_getElem h, List.getD_eq_getElem?_getD, List.getElem?_eq_getElem h]
  rfl
theorem row_mem (T : Tab p t R) {i : Nat} (hi : i < p) : R.getD i [] ∈ R := by
  have h : i < R.length := by rw [T.rows]; exact hi
  rw [List.getD_eq_getElem?_getD, List.getElem?_eq_getElem h]
  exact List.getElem_mem h
theorem cell_at (T : Tab p t R) {i j : Nat} (hi : i < p) (hj : j < t) : atI ((R.getD i []).map D.int) (j : Int) = some (.int (W R i j)) := by
  have h : j < (R.getD i []).length := by rw [T.cols _ (row_mem T hi)]; exact hj
  rw [atI_n, List.getElem?_map, List.getElem?_eq_getElem h]
  unfold W
  rw [List.getD_eq_getElem?_getD (i := j), List.getElem?_eq_getElem h]
  rfl
theorem w_worth (T : Tab p t R) {i : Nat} {L : List Nat} (hi : i < p) (hL : Lot t L) (h : q (.int (L.map (W R i)).sum)) : m_worth [tab p t R, .int i, nats L] q qe := by
  have hl := hL.len
  have ht := T.t9
  simp only [m_worth_eq, f_worth, eVar, eRd, eC, e2, dAdd, dSub, dMul, dFdiv, dMod, dPow, dII, dI0, dLtI, dLe, dGt, dGe, eAnd, eOr, eNot, eIf, eNeg, eChain, mTru, mVal, mAnd, mOr, mNot, mYes, dTru_bl, dTru_int, dTru_non, dTru_tup, dTru_lst, dIx_lst, dIx_tup, eFld, eSl, oNone, oSome, eTup, fLst, eNew, eCB, fCB, dLen, dAbs, dInt, dTuple, dList, aNil, aCons, fLstRg, eTupRg, rRg1, rRg2, eIsi, fSeq, fRg1, fRg2, fEnum, fZip, D.items, gdName, gdTup, gdCons, gdNil, sSeq, sNext, sDrop, sRet, sRetN, sIf, sAsg, sOwn, sOwnD, sStill, sPar, sAugI, sApp, sExt, sSetI, sSetH, sFor, fLc, sForD, eGetD, dOf, keyD, sMany, setAll, nNil, nSh, nOl, nOd, eCall, mBody, mInit, eMake, sSelf, sSelf2, wipeE, dSl, List.getElem?_cons_zero, List.getElem?_cons_succ, List.set_cons_zero, List.set_cons_succ, List.replicate_succ, List.replicate_zero, List.map_cons, List.map_nil, List.cons_append, List.nil_append, List.length_cons, List.length_nil, List.length_map, atI_0, atI_1, atI_2, atI_3, atI_4, atI_n, ↓reduceIte, Bool.false_eq_true, dEq_int, dNe_int, Nat.reduceAdd, Nat.zero_add, putFD, f2, dAddF, dMulF, fSl]
  refine w_check_person hi ?_
  refine w_check_lot T.t9 hL ?_
  refine ⟨small (by omega), lc_map (fun j => .int (W R i j)) (fun j hj k hk => ?_) ?_⟩
  · have := hL.lt j hj
    simp only [tab, lk_r, inT, true_and, row_at T hi, cell_at T hi this, eVar, eRd, eC, e2, dAdd, dSub, dMul, dFdiv, dMod, dPow, dII, dI0, dLtI, dLe, dGt, dGe, eAnd, eOr, eNot, eIf, eNeg, eChain, mTru, mVal, mAnd, mOr, mNot, mYes, dTru_bl, dTru_int, dTru_non, dTru_tup, dTru_lst, dIx_lst, dIx_tup, eFld, eSl, oNone, oSome, eTup, fLst, eNew, eCB, fCB, dLen, dAbs, dInt, dTuple, dList, aNil, aCons, fLstRg, eTupRg, rRg1, rRg2, eIsi, fSeq, fRg1, fRg2, fEnum, fZip, D.items, gdName, gdTup, gdCons, gdNil, sSeq, sNext, sDrop, sRet, sRetN, sIf, sAsg, sOwn, sOwnD, sStill, sPar, sAugI, sApp, sExt, sSetI, sSetH, sFor, fLc, sForD, eGetD, dOf, keyD, sMany, setAll, nNil, nSh, nOl, nOd, eCall, mBody, mInit, eMake, sSelf, sSelf2, wipeE, dSl, List.getElem?_cons_zero, List.getElem?_cons_succ, List.set_cons_zero, List.set_cons_succ, List.replicate_succ, List.replicate_zero, List.map_cons, List.map_nil, List.cons_append, List.nil_append, List.length_cons, List.length_nil, List.length_map, atI_0, atI_1, atI_2, atI_3, atI_4, atI_n, ↓reduceIte, Bool.false_eq_true, dEq_int, dNe_int, Nat.reduceAdd, Nat.zero_add, putFD, f2, dAddF, dMulF, fSl]
    exact hk
  · rw [dSum_map]
    exact h
/-! ### deals -/
structure Deal (p t : Nat) (d : List Nat) : Prop where
  len : d.length = t
  lt : ∀ x ∈ d, x < p
theorem Deal.at_ {d : List Nat} (h : Deal p t d) {j : Nat} (hj : j < t) : atI (d.map natI) (j : Int) = some (.int (d.getD j 0 : Nat)) := by
  have h' : j < d.length := by rw [h.len]; exact hj
  rw [atI_n, List.getElem?_map, List.getElem?_eq_getElem h', List.getD_eq_getElem?_getD, List.getElem?_eq_getElem h']
  rfl
theorem w_is_deal {d : List Nat} (ht : t ≤ 9) (hd : Deal p t d) (h : q (.bl true)) : m_is_deal [tab p t R, nats d] q qe := by
  simp only [m_is_deal_eq, f_is_deal, D.ty, tab, lk_t, inT, true_and, isi_tt, Bool.not_true, hd.len, beq_self_eq_true, eVar, eRd, eC, e2, dAdd, dSub, dMul, dFdiv, dMod, dPow, dII, dI0, dLtI, dLe, dGt, dGe, eAnd, eOr, eNot, eIf, eNeg, eChain, mTru, mVal, mAnd, mOr, mNot, mYes, dTru_bl, dTru_int, dTru_non, dTru_tup, dTru_lst, dIx_lst, dIx_tup, eFld, eSl, oNone, oSome, eTup, fLst, eNew, eCB, fCB, dLen, dAbs, dInt, dTuple, dList, aNil, aCons, fLstRg, eTupRg, rRg1, rRg2, eIsi, fSeq, fRg1, fRg2, fEnum, fZip, D.items, gdName, gdTup, gdCons, gdNil, sSeq, sNext, sDrop, sRet, sRetN, sIf, sAsg, sOwn, sOwnD, sStill, sPar, sAugI, sApp, sExt, sSetI, sSetH, sFor, fLc, sForD, eGetD, dOf, keyD, sMany, setAll, nNil, nSh, nOl, nOd, eCall, mBody, mInit, eMake, sSelf, sSelf2, wipeE, dSl, List.getElem?_cons_zero, List.getElem?_cons_succ, List.set_cons_zero, List.set_cons_succ, List.replicate_succ, List.replicate_zero, List.map_cons, List.map_nil, List.cons_append, List.nil_append, List.length_cons, List.length_nil, List.length_map, atI_0, atI_1, atI_2, atI_3, atI_4, atI_n, ↓reduceIte, Bool.false_eq_true, dEq_int, dNe_int, Nat.reduceAdd, Nat.zero_add, putFD, f2, dAddF, dMulF, fSl]
  refine ⟨small (by omega), lc_map (fun x => .bl true) (fun x hx k hk => ?_) ?_⟩
  · have := hd.lt x hx
    simp only [lk_p, inT, true_and, eVar, eRd, eC, e2, dAdd, dSub, dMul, dFdiv, dMod, dPow, dII, dI0, dLtI, dLe, dGt, dGe, eAnd, eOr, eNot, eIf, eNeg, eChain, mTru, mVal, mAnd, mOr, mNot, mYes, dTru_bl, dTru_int, dTru_non, dTru_tup, dTru_lst, dIx_lst, dIx_tup, eFld, eSl, oNone, oSome, eTup, fLst, eNew, eCB, fCB, dLen, dAbs, dInt, dTuple, dList, aNil, aCons, fLstRg, eTupRg, rRg1, rRg2, eIsi, fSeq, fRg1, fRg2, fEnum, fZip, D.items, gdName, gdTup, gdCons, gdNil, sSeq, sNext, sDrop, sRet, sRetN, sIf, sAsg, sOwn, sOwnD, sStill, sPar, sAugI, sApp, sExt, sSetI, sSetH, sFor, fLc, sForD, eGetD, dOf, keyD, sMany, setAll, nNil, nSh, nOl, nOd, eCall, mBody, mInit, eMake, sSelf, sSelf2, wipeE, dSl, List.getElem?_cons_zero, List.getElem?_cons_succ, List.set_cons_zero, List.set_cons_succ, List.replicate_succ, List.replicate_zero, List.map_cons, List.map_nil, List.cons_append, List.nil_append, List.length_cons, List.length_nil, List.length_map, atI_0, atI_1, atI_2, atI_3, atI_4, atI_n, ↓reduceIte, Bool.false_eq_true, dEq_int, dNe_int, Nat.reduceAdd, Nat.zero_add, putFD, f2, dAddF, dMulF, fSl]
    refine w_is_within ?_
    rw [decide_eq_true (by omega : (0 : Int) ≤ x), decide_eq_true (by omega : (x : Int) ≤ p - 1)]
    exact hk
  · rw [dAll_map, List.all_eq_true.mpr (fun _ _ => rfl)]
    exact h
theorem w_check_deal {d : List Nat} (ht : t ≤ 9) (hd : Deal p t d) (h : q .non) : m_check_deal [tab p t R, nats d] q qe := by
  simp only [m_check_deal_eq, f_check_deal, eVar, eRd, eC, e2, dAdd, dSub, dMul, dFdiv, dMod, dPow, dII, dI0, dLtI, dLe, dGt, dGe, eAnd, eOr, eNot, eIf, eNeg, eChain, mTru, mVal, mAnd, mOr, mNot, mYes, dTru_bl, dTru_int, dTru_non, dTru_tup, dTru_lst, dIx_lst, dIx_tup, eFld, eSl, oNone, oSome, eTup, fLst, eNew, eCB, fCB, dLen, dAbs, dInt, dTuple, dList, aNil, aCons, fLstRg, eTupRg, rRg1, rRg2, eIsi, fSeq, fRg1, fRg2, fEnum, fZip, D.items, gdName, gdTup, gdCons, gdNil, sSeq, sNext, sDrop, sRet, sRetN, sIf, sAsg, sOwn, sOwnD, sStill, sPar, sAugI, sApp, sExt, sSetI, sSetH, sFor, fLc, sForD, eGetD, dOf, keyD, sMany, setAll, nNil, nSh, nOl, nOd, eCall, mBody, mInit, eMake, sSelf, sSelf2, wipeE, dSl, List.getElem?_cons_zero, List.getElem?_cons_succ, List.set_cons_zero, List.set_cons_succ, List.replicate_succ, List.replicate_zero, List.map_cons, List.map_nil, List.cons_append, List.nil_append, List.length_cons, List.length_nil, List.length_map, atI_0, atI_1, atI_2, atI_3, atI_4, atI_n, ↓reduceIte, Bool.false_eq_true, dEq_int, dNe_int, Nat.reduceAdd, Nat.zero_add, putFD, f2, dAddF, dMulF, fSl]
  refine w_is_deal ht hd ?_
  simp only [Bool.not_true, eVar, eRd, eC, e2, dAdd, dSub, dMul, dFdiv, dMod, dPow, dII, dI0, dLtI, dLe, dGt, dGe, eAnd, eOr, eNot, eIf, eNeg, eChain, mTru, mVal, mAnd, mOr, mNot, mYes, dTru_bl, dTru_int, dTru_non, dTru_tup, dTru_lst, dIx_lst, dIx_tup, eFld, eSl, oNone, oSome, eTup, fLst, eNew, eCB, fCB, dLen, dAbs, dInt, dTuple, dList, aNil, aCons, fLstRg, eTupRg, rRg1, rRg2, eIsi, fSeq, fRg1, fRg2, fEnum, fZip, D.items, gdName, gdTup, gdCons, gdNil, sSeq, sNext, sDrop, sRet, sRetN, sIf, sAsg, sOwn, sOwnD, sStill, sPar, sAugI, sApp, sExt, sSetI, sSetH, sFor, fLc, sForD, eGetD, dOf, keyD, sMany, setAll, nNil, nSh, nOl, nOd, eCall, mBody, mInit, eMake, sSelf, sSelf2, wipeE, dSl, List.getElem?_cons_zero, List.getElem?_cons_succ, List.set_cons_zero, List.set_cons_succ, List.replicate_succ, List.replicate_zero, List.map_cons, List.map_nil, List.cons_append, List.nil_append, List.length_cons, List.length_nil, List.length_map, atI_0, atI_1, atI_2, atI_3, atI_4, atI_n, ↓reduceIte, Bool.false_eq_true, dEq_int, dNe_int, Nat.reduceAdd, Nat.zero_add, putFD, f2, dAddF, dMulF, fSl]
  exact h
/-- the lot of a person -/
def lotOf (t : Nat) (d : List Nat) (i : Nat) : List Nat := (List.range t).filter fun j => d.getD j 0 == i
theorem lotOf_lot (d : List Nat) (i : Nat) : Lot t (lotOf t d i) := ⟨_, rfl⟩
def gain (R : List (List Int)) (t : Nat) (d : List Nat) (i : Nat) : Int := ((lotOf t d i).map (W R i)).sum
theorem rgB_small {n : Nat} (h : n ≤ 1000) : RgB (n : Int) := rgB_nat (by omega)
theorem cast_beq (a b : Nat) : ((a : Int) == (b : Int)) = (a == b) := by
  rw [Bool.eq_iff_iff, beq_iff_eq, beq_iff_eq]
  omega
theorem w_lots (T : Tab p t R) {d : List Nat} (hd : Deal p t d) (h : q (.tup ((List.range p).map fun i => nats (lotOf t d i)))) : m_lots [tab p t R, nats d] q qe := by
  have ht := T.t9
  have hp := T.p5
  simp only [m_lots_eq, f_lots, eVar, eRd, eC, e2, dAdd, dSub, dMul, dFdiv, dMod, dPow, dII, dI0, dLtI, dLe, dGt, dGe, eAnd, eOr, eNot, eIf, eNeg, eChain, mTru, mVal, mAnd, mOr, mNot, mYes, dTru_bl, dTru_int, dTru_non, dTru_tup, dTru_lst, dIx_lst, dIx_tup, eFld, eSl, oNone, oSome, eTup, fLst, eNew, eCB, fCB, dLen, dAbs, dInt, dTuple, dList, aNil, aCons, fLstRg, eTupRg, rRg1, rRg2, eIsi, fSeq, fRg1, fRg2, fEnum, fZip, D.items, gdName, gdTup, gdCons, gdNil, sSeq, sNext, sDrop, sRet, sRetN, sIf, sAsg, sOwn, sOwnD, sStill, sPar, sAugI, sApp, sExt, sSetI, sSetH, sFor, fLc, sForD, eGetD, dOf, keyD, sMany, setAll, nNil, nSh, nOl, nOd, eCall, mBody, mInit, eMake, sSelf, sSelf2, wipeE, dSl, List.getElem?_cons_zero, List.getElem?_cons_succ, List.set_cons_zero, List.set_cons_succ, List.replicate_succ, List.replicate_zero, List.map_cons, List.map_nil, List.cons_append, List.nil_append, List.length_cons, List.length_nil, List.length_map, atI_0, atI_1, atI_2, atI_3, atI_4, atI_n, ↓reduceIte, Bool.false_eq_true, dEq_int, dNe_int, Nat.reduceAdd, Nat.zero_add, putFD, f2, dAddF, dMulF, fSl]
  refine w_check_deal T.t9 hd ?_
  simp only [tab, lk_p, inT, true_and, rgD_0, eVar, eRd, eC, e2, dAdd, dSub, dMul, dFdiv, dMod, dPow, dII, dI0, dLtI, dLe, dGt, dGe, eAnd, eOr, eNot, eIf, eNeg, eChain, mTru, mVal, mAnd, mOr, mNot, mYes, dTru_bl, dTru_int, dTru_non, dTru_tup, dTru_lst, dIx_lst, dIx_tup, eFld, eSl, oNone, oSome, eTup, fLst, eNew, eCB, fCB, dLen, dAbs, dInt, dTuple, dList, aNil, aCons, fLstRg, eTupRg, rRg1, rRg2, eIsi, fSeq, fRg1, fRg2, fEnum, fZip, D.items, gdName, gdTup, gdCons, gdNil, sSeq, sNext, sDrop, sRet, sRetN, sIf, sAsg, sOwn, sOwnD, sStill, sPar, sAugI, sApp, sExt, sSetI, sSetH, sFor, fLc, sForD, eGetD, dOf, keyD, sMany, setAll, nNil, nSh, nOl, nOd, eCall, mBody, mInit, eMake, sSelf, sSelf2, wipeE, dSl, List.getElem?_cons_zero, List.getElem?_cons_succ, List.set_cons_zero, List.set_cons_succ, List.replicate_succ, List.replicate_zero, List.map_cons, List.map_nil, List.cons_append, List.nil_append, List.length_cons, List.length_nil, List.length_map, atI_0, atI_1, atI_2, atI_3, atI_4, atI_n, ↓reduceIte, Bool.false_eq_true, dEq_int, dNe_int, Nat.reduceAdd, Nat.zero_add, putFD, f2, dAddF, dMulF, fSl]
  refine ⟨by decide, rgB_small (by omega), ?_⟩
  refine for_rng (fun i ρ => ∃ L e3 e4, L = ((List.range i).map fun i => nats (lotOf t d i)) ∧ ρ = [.sh (tab p t R), .sh (nats d), .ol L, e3, e4]) ⟨_, _, _, rfl, rfl⟩ (fun i ρ nx hi hs hk => ?_) (fun ρ hs => ?_)
  · obtain ⟨L, e3, e4, rfl, rfl⟩ := hs
    simp only [tab, lk_t, inT, true_and, rgD_0, List.length_range, eVar, eRd, eC, e2, dAdd, dSub, dMul, dFdiv, dMod, dPow, dII, dI0, dLtI, dLe, dGt, dGe, eAnd, eOr, eNot, eIf, eNeg, eChain, mTru, mVal, mAnd, mOr, mNot, mYes, dTru_bl, dTru_int, dTru_non, dTru_tup, dTru_lst, dIx_lst, dIx_tup, eFld, eSl, oNone, oSome, eTup, fLst, eNew, eCB, fCB, dLen, dAbs, dInt, dTuple, dList, aNil, aCons, fLstRg, eTupRg, rRg1, rRg2, eIsi, fSeq, fRg1, fRg2, fEnum, fZip, D.items, gdName, gdTup, gdCons, gdNil, sSeq, sNext, sDrop, sRet, sRetN, sIf, sAsg, sOwn, sOwnD, sStill, sPar, sAugI, sApp, sExt, sSetI, sSetH, sFor, fLc, sForD, eGetD, dOf, keyD, sMany, setAll, nNil, nSh, nOl, nOd, eCall, mBody, mInit, eMake, sSelf, sSelf2, wipeE, dSl, List.getElem?_cons_zero, List.getElem?_cons_succ, List.set_cons_zero, List.set_cons_succ, List.replicate_succ, List.replicate_zero, List.map_cons, List.map_nil, List.cons_append, List.nil_append, List.length_cons, List.length_nil, List.length_map, atI_0, atI_1, atI_2, atI_3, atI_4, atI_n, ↓reduceIte, Bool.false_eq_true, dEq_int, dNe_int, Nat.reduceAdd, Nat.zero_add, putFD, f2, dAddF, dMulF, fSl]
    refine ⟨rgB_small (by omega), small (by omega), lc_filter (fun j => d.getD j 0 == i) natI (fun j hj k k' h1 h2 => ?_) ⟨small (by omega), ?_⟩⟩
    · have hj' := List.mem_range.mp hj
      simp only [hd.at_ hj', cast_beq, eVar, eRd, eC, e2, dAdd, dSub, dMul, dFdiv, dMod, dPow, dII, dI0, dLtI, dLe, dGt, dGe, eAnd, eOr, eNot, eIf, eNeg, eChain, mTru, mVal, mAnd, mOr, mNot, mYes, dTru_bl, dTru_int, dTru_non, dTru_tup, dTru_lst, dIx_lst, dIx_tup, eFld, eSl, oNone, oSome, eTup, fLst, eNew, eCB, fCB, dLen, dAbs, dInt, dTuple, dList, aNil, aCons, fLstRg, eTupRg, rRg1, rRg2, eIsi, fSeq, fRg1, fRg2, fEnum, fZip, D.items, gdName, gdTup, gdCons, gdNil, sSeq, sNext, sDrop, sRet, sRetN, sIf, sAsg, sOwn, sOwnD, sStill, sPar, sAugI, sApp, sExt, sSetI, sSetH, sFor, fLc, sForD, eGetD, dOf, keyD, sMany, setAll, nNil, nSh, nOl, nOd, eCall, mBody, mInit, eMake, sSelf, sSelf2, wipeE, dSl, List.getElem?_cons_zero, List.getElem?_cons_succ, List.set_cons_zero, List.set_cons_succ, List.replicate_succ, List.replicate_zero, List.map_cons, List.map_nil, List.cons_append, List.nil_append, List.length_cons, List.length_nil, List.length_map, atI_0, atI_1, atI_2, atI_3, atI_4, atI_n, ↓reduceIte, Bool.false_eq_true, dEq_int, dNe_int, Nat.reduceAdd, Nat.zero_add, putFD, f2, dAddF, dMulF, fSl]
      by_cases e : (d.getD j 0 == i) = true
      · rw [if_pos e]; exact h1 e
      · rw [if_neg e]; exact h2 (by simpa using e)
    · refine hk _ ⟨_, _, _, ?_, rfl⟩
      rw [List.range_succ, List.map_append]
      rfl
  · obtain ⟨L, e3, e4, rfl, rfl⟩ := hs
    simp only [eVar, eRd, eC, e2, dAdd, dSub, dMul, dFdiv, dMod, dPow, dII, dI0, dLtI, dLe, dGt, dGe, eAnd, eOr, eNot, eIf, eNeg, eChain, mTru, mVal, mAnd, mOr, mNot, mYes, dTru_bl, dTru_int, dTru_non, dTru_tup, dTru_lst, dIx_lst, dIx_tup, eFld, eSl, oNone, oSome, eTup, fLst, eNew, eCB, fCB, dLen, dAbs, dInt, dTuple, dList, aNil, aCons, fLstRg, eTupRg, rRg1, rRg2, eIsi, fSeq, fRg1, fRg2, fEnum, fZip, D.items, gdName, gdTup, gdCons, gdNil, sSeq, sNext, sDrop, sRet, sRetN, sIf, sAsg, sOwn, sOwnD, sStill, sPar, sAugI, sApp, sExt, sSetI, sSetH, sFor, fLc, sForD, eGetD, dOf, keyD, sMany, setAll, nNil, nSh, nOl, nOd, eCall, mBody, mInit, eMake, sSelf, sSelf2, wipeE, dSl, List.getElem?_cons_zero, List.getElem?_cons_succ, List.set_cons_zero, List.set_cons_succ, List.replicate_succ, List.replicate_zero, List.map_cons, List.map_nil, List.cons_append, List.nil_append, List.length_cons, List.length_nil, List.length_map, atI_0, atI_1, atI_2, atI_3, atI_4, atI_n, ↓reduceIte, Bool.false_eq_true, dEq_int, dNe_int, Nat.reduceAdd, Nat.zero_add, putFD, f2, dAddF, dMulF, fSl]
    exact h
theorem w_gains (T : Tab p t R) {d : List Nat} (hd : Deal p t d) (h : q (.tup ((List.range p).map fun i => .int (gain R t d i)))) : m_gains [tab p t R, nats d] q qe := by
  have hp := T.p5
  simp only [m_gains_eq, f_gains, eVar, eRd, eC, e2, dAdd, dSub, dMul, dFdiv, dMod, dPow, dII, dI0, dLtI, dLe, dGt, dGe, eAnd, eOr, eNot, eIf, eNeg, eChain, mTru, mVal, mAnd, mOr, mNot, mYes, dTru_bl, dTru_int, dTru_non, dTru_tup, dTru_lst, dIx_lst, dIx_tup, eFld, eSl, oNone, oSome, eTup, fLst, eNew, eCB, fCB, dLen, dAbs, dInt, dTuple, dList, aNil, aCons, fLstRg, eTupRg, rRg1, rRg2, eIsi, fSeq, fRg1, fRg2, fEnum, fZip, D.items, gdName, gdTup, gdCons, gdNil, sSeq, sNext, sDrop, sRet, sRetN, sIf, sAsg, sOwn, sOwnD, sStill, sPar, sAugI, sApp, sExt, sSetI, sSetH, sFor, fLc, sForD, eGetD, dOf, keyD, sMany, setAll, nNil, nSh, nOl, nOd, eCall, mBody, mInit, eMake, sSelf, sSelf2, wipeE, dSl, List.getElem?_cons_zero, List.getElem?_cons_succ, List.set_cons_zero, List.set_cons_succ, List.replicate_succ, List.replicate_zero, List.map_cons, List.map_nil, List.cons_append, List.nil_append, List.length_cons, List.length_nil, List.length_map, atI_0, atI_1, atI_2, atI_3, atI_4, atI_n, ↓reduceIte, Bool.false_eq_true, dEq_int, dNe_int, Nat.reduceAdd, Nat.zero_add, putFD, f2, dAddF, dMulF, fSl]
  refine w_lots T hd ?_
  simp only [enum_range nats (lotOf t d) p, List.length_range, eVar, eRd, eC, e2, dAdd, dSub, dMul, dFdiv, dMod, dPow, dII, dI0, dLtI, dLe, dGt, dGe, eAnd, eOr, eNot, eIf, eNeg, eChain, mTru, mVal, mAnd, mOr, mNot, mYes, dTru_bl, dTru_int, dTru_non, dTru_tup, dTru_lst, dIx_lst, dIx_tup, eFld, eSl, oNone, oSome, eTup, fLst, eNew, eCB, fCB, dLen, dAbs, dInt, dTuple, dList, aNil, aCons, fLstRg, eTupRg, rRg1, rRg2, eIsi, fSeq, fRg1, fRg2, fEnum, fZip, D.items, gdName, gdTup, gdCons, gdNil, sSeq, sNext, sDrop, sRet, sRetN, sIf, sAsg, sOwn, sOwnD, sStill, sPar, sAugI, sApp, sExt, sSetI, sSetH, sFor, fLc, sForD, eGetD, dOf, keyD, sMany, setAll, nNil, nSh, nOl, nOd, eCall, mBody, mInit, eMake, sSelf, sSelf2, wipeE, dSl, List.getElem?_cons_zero, List.getElem?_cons_succ, List.set_cons_zero, List.set_cons_succ, List.replicate_succ, List.replicate_zero, List.map_cons, List.map_nil, List.cons_append, List.nil_append, List.length_cons, List.length_nil, List.length_map, atI_0, atI_1, atI_2, atI_3, atI_4, atI_n, ↓reduceIte, Bool.false_eq_true, dEq_int, dNe_int, Nat.reduceAdd, Nat.zero_add, putFD, f2, dAddF, dMulF, fSl]
  refine ⟨small (by omega), lc_map (fun i => .int (gain R t d i)) (fun i hi k hk => ?_) h⟩
  simp only [true_and, eVar, eRd, eC, e2, dAdd, dSub, dMul, dFdiv, dMod, dPow, dII, dI0, dLtI, dLe, dGt, dGe, eAnd, eOr, eNot, eIf, eNeg, eChain, mTru, mVal, mAnd, mOr, mNot, mYes, dTru_bl, dTru_int, dTru_non, dTru_tup, dTru_lst, dIx_lst, dIx_tup, eFld, eSl, oNone, oSome, eTup, fLst, eNew, eCB, fCB, dLen, dAbs, dInt, dTuple, dList, aNil, aCons, fLstRg, eTupRg, rRg1, rRg2, eIsi, fSeq, fRg1, fRg2, fEnum, fZip, D.items, gdName, gdTup, gdCons, gdNil, sSeq, sNext, sDrop, sRet, sRetN, sIf, sAsg, sOwn, sOwnD, sStill, sPar, sAugI, sApp, sExt, sSetI, sSetH, sFor, fLc, sForD, eGetD, dOf, keyD, sMany, setAll, nNil, nSh, nOl, nOd, eCall, mBody, mInit, eMake, sSelf, sSelf2, wipeE, dSl, List.getElem?_cons_zero, List.getElem?_cons_succ, List.set_cons_zero, List.set_cons_succ, List.replicate_succ, List.replicate_zero, List.map_cons, List.map_nil, List.cons_append, List.nil_append, List.length_cons, List.length_nil, List.length_map, atI_0, atI_1, atI_2, atI_3, atI_4, atI_n, ↓reduceIte, Bool.false_eq_true, dEq_int, dNe_int, Nat.reduceAdd, Nat.zero_add, putFD, f2, dAddF, dMulF, fSl]
  exact w_worth T (List.mem_range.mp hi) (lotOf_lot d i) hk
/-! ### the share of two -/
def subs (L : List Nat) : List (List Nat) := L.foldl (fun ls x => ls ++ ls.map (· ++ [x])) [[]]
theorem subs_snoc (L : List Nat) (x : Nat) : subs (L ++ [x]) = subs L ++ (subs L).map (· ++ [x]) := by
  unfold subs
  rw [List.foldl_append]
  rfl
theorem subs_take {L : List Nat} {i x : Nat} (h : L[i]? = some x) : subs (L.take (i + 1)) = subs (L.take i) ++ (subs (L.take i)).map (· ++ [x]) := by
  rw [List.take_succ, h]
  exact subs_snoc _ _
theorem subs_len (L : List Nat) : ∀ n : Nat, L.length = n → (subs L).length = 2 ^ n := by
  intro n
  induction n generalizing L with
  | zero =>
    intro h
    have := List.eq_nil_of_length_eq_zero h
    subst this
    rfl
  | succ n ih =>
    intro h
    have hne : L ≠ [] := by intro e; subst e; cases h
    rw [← List.dropLast_concat_getLast hne, subs_snoc, List.length_append, List.length_map, ih L.dropLast (by rw [List.length_dropLast, h]; rfl)]
    omega
theorem subs_mem (L : List Nat) : ∀ n : Nat, L.length = n → ∀ l ∈ subs L, l.length ≤ n ∧ ∀ x ∈ l, x ∈ L := by
  intro n
  induction n generalizing L with
  | zero =>
    intro h l hl
    have := List.eq_nil_of_length_eq_zero h
    subst this
    rcases List.mem_cons.mp hl with e | e
    · subst e; exact ⟨Nat.le_refl _, fun x hx => by cases hx⟩
    · cases e
  | succ n ih =>
    intro h l hl
    have hne : L ≠ [] := by intro e; subst e; cases h
    have e := List.dropLast_concat_getLast hne
    have ih' := ih L.dropLast (by rw [List.length_dropLast, h]; rfl)
    have sub : ∀ x ∈ L.dropLast, x ∈ L := fun x hx => (List.dropLast_sublist L).subset hx
    rw [← e, subs_snoc, List.mem_append] at hl
    rcases hl with hl | hl
    · exact ⟨by have := (ih' l hl).1; omega, fun x hx => sub x ((ih' l hl).2 x hx)⟩
    · obtain ⟨m, hm, rfl⟩ := List.mem_map.mp hl
      refine ⟨by rw [List.length_append]; have := (ih' m hm).1; simp; omega, fun x hx => ?_⟩
      rcases List.mem_append.mp hx with hx | hx
      · exact sub x ((ih' m hm).2 x hx)
      · rw [List.mem_singleton] at hx
        subst hx
        exact List.getLast_mem hne
/-- the better of what is known and this lot's lesser side -/
def step (v : Nat → Int) (every : Int) (b : Option Int) (lot : List Nat) : Option Int :=
  let here := (lot.map v).sum
  let least := if every - here < here then every - here else here
  match b with
  | none => some least
  | some x => if x < least then some least else some x
def bestO (v : Nat → Int) (L : List Nat) : Option Int := (subs L).foldl (step v ((L.map v).sum)) none
def optD : Option Int → D
  | none => .non
  | some i => .int i
theorem step_some (v : Nat → Int) (e : Int) (b : Option Int) (l : List Nat) : ∃ i, step v e b l = some i := by
  unfold step
  cases b with
  | none => exact ⟨_, rfl⟩
  | some x =>
    dsimp only
    generalize (if e - (l.map v).sum < (l.map v).sum then e - (l.map v).sum else (l.map v).sum) = m
    by_cases h : x < m
    · exact ⟨_, if_pos h⟩
    · exact ⟨_, if_neg h⟩
theorem fold_some (v : Nat → Int) (e : Int) : ∀ (ls : List (List Nat)) (b : Option Int), ls ≠ [] → ∃ i, ls.foldl (step v e) b = some i
  | [], _, h => absurd rfl h
  | [l], b, _ => step_some v e b l
  | l :: m :: r, b, _ => fold_some v e (m :: r) (step v e b l) (by simp)
theorem best_some (v : Nat → Int) (L : List Nat) : ∃ i, bestO v L = some i := by
  refine fold_some _ _ _ _ fun h => ?_
  have := subs_len L _ rfl
  rw [h] at this
  have h2 : 0 < 2 ^ L.length := Nat.two_pow_pos _
  rw [List.length_nil] at this
  omega
def bestI (v : Nat → Int) (L : List Nat) : Int := (bestO v L).getD 0
theorem best_eq (v : Nat → Int) (L : List Nat) : optD (bestO v L) = .int (bestI v L) := by
  obtain ⟨i, e⟩ := best_some v L
  unfold bestI
  rw [e]
  rfl
theorem step_eq (v : Nat → Int) (e : Int) (b : Option Int) (l : List Nat) (K : D → Prop) (h : K (optD (step v e b l))) :
    (match b with
      | none => K (.int (if e - (l.map v).sum < (l.map v).sum then e - (l.map v).sum else (l.map v).sum))
      | some x => if x < (if e - (l.map v).sum < (l.map v).sum then e - (l.map v).sum else (l.map v).sum) then K (.int (if e - (l.map v).sum < (l.map v).sum then e - (l.map v).sum else (l.map v).sum)) else K (.int x)) := by
  unfold step at h
  cases b with
  | none => exact h
  | some x =>
    dsimp only at h ⊢
    generalize (if e - (l.map v).sum < (l.map v).sum then e - (l.map v).sum else (l.map v).sum) = m at h ⊢
    by_cases hx : x < m
    · rw [if_pos hx] at h ⊢; exact h
    · rw [if_neg hx] at h ⊢; exact h
/-- the things of two -/
def both (t : Nat) (d : List Nat) (a b : Nat) : List Nat := (List.range t).filter fun j => d.getD j 0 == a || d.getD j 0 == b
theorem both_lot (d : List Nat) (a b : Nat) : Lot t (both t d a b) := ⟨_, rfl⟩
theorem nats_snoc (l : List Nat) (x : Nat) : D.tup (l.map natI ++ [.int (x : Int)]) = nats (l ++ [x]) := by
  show _ = D.tup ((l ++ [x]).map natI)
  rw [List.map_append]
  rfl
theorem in2 (x a b : Nat) : inV (D.int (x : Int)).v [(D.int (a : Int)).v, (D.int (b : Int)).v] = (x == a || x == b) := by
  show ((a : Int) == (x : Int) || ((b : Int) == (x : Int) || false)) = _
  rw [cast_beq, cast_beq, Bool.or_false, BEq.comm (a := a), BEq.comm (a := b)]
theorem flat2 (a b : Nat) : [D.int (a : Int), D.int (b : Int)].all D.flat = true := rfl
theorem flat1 (a : Nat) : (D.int (a : Int)).flat = true := rfl
theorem one_le : 1 ≤ sizeLine := by decide
theorem two_le : 2 ≤ sizeLine := by decide
theorem sum_worth (T : Tab p t R) {i : Nat} (hi : i < p) {L : List Nat} (hL : ∀ j ∈ L, j < t) {q : List D → Prop} {ρ : List En} {k : ME} (hk : ∀ (j : Nat), j < t → ∀ (q : D → Prop), q (.int (W R i j)) → k (ρ.set 7 (.sh (natI j))) q qe)
    (h : q (L.map fun j => .int (W R i j))) : lcL (gdName 7) mYes k ρ (L.map natI) q qe :=
  lc_map (fun j => .int (W R i j)) (fun j hj q hq => hk j (hL j hj) q hq) h
theorem w_pairs_share (T : Tab p t R) {d : List Nat} (hd : Deal p t d) {i j : Nat} (hi : i < p) (hj : j < p) (h : q (.int (bestI (W R i) (both t d i j)))) :
    m_pairs_share [tab p t R, .int i, .int j, nats d] q qe := by
  have ht := T.t9
  have hp := T.p5
  have hb := both_lot (t := t) d i j
  have hbl := hb.len
  simp only [m_pairs_share_eq, f_pairs_share, eVar, eRd, eC, e2, dAdd, dSub, dMul, dFdiv, dMod, dPow, dII, dI0, dLtI, dLe, dGt, dGe, eAnd, eOr, eNot, eIf, eNeg, eChain, mTru, mVal, mAnd, mOr, mNot, mYes, dTru_bl, dTru_int, dTru_non, dTru_tup, dTru_lst, dIx_lst, dIx_tup, eFld, eSl, oNone, oSome, eTup, fLst, eNew, eCB, fCB, dLen, dAbs, dInt, dTuple, dList, aNil, aCons, fLstRg, eTupRg, rRg1, rRg2, eIsi, fSeq, fRg1, fRg2, fEnum, fZip, D.items, gdName, gdTup, gdCons, gdNil, sSeq, sNext, sDrop, sRet, sRetN, sIf, sAsg, sOwn, sOwnD, sStill, sPar, sAugI, sApp, sExt, sSetI, sSetH, sFor, fLc, sForD, eGetD, dOf, keyD, sMany, setAll, nNil, nSh, nOl, nOd, eCall, mBody, mInit, eMake, sSelf, sSelf2, wipeE, dSl, List.getElem?_cons_zero, List.getElem?_cons_succ, List.set_cons_zero, List.set_cons_succ, List.replicate_succ, List.replicate_zero, List.map_cons, List.map_nil, List.cons_append, List.nil_append, List.length_cons, List.length_nil, List.length_map, atI_0, atI_1, atI_2, atI_3, atI_4, atI_n, ↓reduceIte, Bool.false_eq_true, dEq_int, dNe_int, Nat.reduceAdd, Nat.zero_add, putFD, f2, dAddF, dMulF, fSl]
  refine w_check_person hi ?_
  refine w_check_person hj ?_
  simp only [tab, lk_t, inT, true_and, rgD_0, List.length_range, eVar, eRd, eC, e2, dAdd, dSub, dMul, dFdiv, dMod, dPow, dII, dI0, dLtI, dLe, dGt, dGe, eAnd, eOr, eNot, eIf, eNeg, eChain, mTru, mVal, mAnd, mOr, mNot, mYes, dTru_bl, dTru_int, dTru_non, dTru_tup, dTru_lst, dIx_lst, dIx_tup, eFld, eSl, oNone, oSome, eTup, fLst, eNew, eCB, fCB, dLen, dAbs, dInt, dTuple, dList, aNil, aCons, fLstRg, eTupRg, rRg1, rRg2, eIsi, fSeq, fRg1, fRg2, fEnum, fZip, D.items, gdName, gdTup, gdCons, gdNil, sSeq, sNext, sDrop, sRet, sRetN, sIf, sAsg, sOwn, sOwnD, sStill, sPar, sAugI, sApp, sExt, sSetI, sSetH, sFor, fLc, sForD, eGetD, dOf, keyD, sMany, setAll, nNil, nSh, nOl, nOd, eCall, mBody, mInit, eMake, sSelf, sSelf2, wipeE, dSl, List.getElem?_cons_zero, List.getElem?_cons_succ, List.set_cons_zero, List.set_cons_succ, List.replicate_succ, List.replicate_zero, List.map_cons, List.map_nil, List.cons_append, List.nil_append, List.length_cons, List.length_nil, List.length_map, atI_0, atI_1, atI_2, atI_3, atI_4, atI_n, ↓reduceIte, Bool.false_eq_true, dEq_int, dNe_int, Nat.reduceAdd, Nat.zero_add, putFD, f2, dAddF, dMulF, fSl]
  refine ⟨rgB_small (by omega), small (by omega), lc_filter (fun o => d.getD o 0 == i || d.getD o 0 == j) natI (fun o ho k k' h1 h2 => ?_) ⟨by decide, by decide, ?_⟩⟩
  · have ho' := List.mem_range.mp ho
    simp only [hd.at_ ho', dIn, in2, flat1, flat2, two_le, true_and, Bool.false_eq_true, eVar, eRd, eC, e2, dAdd, dSub, dMul, dFdiv, dMod, dPow, dII, dI0, dLtI, dLe, dGt, dGe, eAnd, eOr, eNot, eIf, eNeg, eChain, mTru, mVal, mAnd, mOr, mNot, mYes, dTru_bl, dTru_int, dTru_non, dTru_tup, dTru_lst, dIx_lst, dIx_tup, eFld, eSl, oNone, oSome, eTup, fLst, eNew, eCB, fCB, dLen, dAbs, dInt, dTuple, dList, aNil, aCons, fLstRg, eTupRg, rRg1, rRg2, eIsi, fSeq, fRg1, fRg2, fEnum, fZip, D.items, gdName, gdTup, gdCons, gdNil, sSeq, sNext, sDrop, sRet, sRetN, sIf, sAsg, sOwn, sOwnD, sStill, sPar, sAugI, sApp, sExt, sSetI, sSetH, sFor, fLc, sForD, eGetD, dOf, keyD, sMany, setAll, nNil, nSh, nOl, nOd, eCall, mBody, mInit, eMake, sSelf, sSelf2, wipeE, dSl, List.getElem?_cons_zero, List.getElem?_cons_succ, List.set_cons_zero, List.set_cons_succ, List.replicate_succ, List.replicate_zero, List.map_cons, List.map_nil, List.cons_append, List.nil_append, List.length_cons, List.length_nil, List.length_map, atI_0, atI_1, atI_2, atI_3, atI_4, atI_n, ↓reduceIte, Bool.false_eq_true, dEq_int, dNe_int, Nat.reduceAdd, Nat.zero_add, putFD, f2, dAddF, dMulF, fSl]
    by_cases e : (d.getD o 0 == i || d.getD o 0 == j) = true
    · rw [if_pos e]; exact h1 e
    · rw [if_neg e]; exact h2 (by simpa using e)
  · refine for_inv (fun k ρ => ∃ L e7, L = (subs ((both t d i j).take k)).map nats ∧ ρ = [.sh (tab p t R), .sh (.int i), .sh (.int j), .sh (nats d), .sh (.lst ((both t d i j).map natI)), .sh .non, .sh (.lst L), e7, .no, .no, .no, .no]) ⟨_, _, rfl, rfl⟩ (fun k x ρ nx hx hs hk => ?_) (fun ρ hs => ?_)
    · obtain ⟨L, e7, rfl, rfl⟩ := hs
      have hkl : k < (both t d i j).length := (List.getElem?_eq_some_iff.mp hx).1
      have hsl : (subs ((both t d i j).take k)).length ≤ 2 ^ 9 := by
        rw [subs_len _ k (by rw [List.length_take]; omega)]
        exact Nat.pow_le_pow_right (by omega) (by omega)
      have hml := subs_mem ((both t d i j).take k) _ rfl
      simp only [eVar, eRd, eC, e2, dAdd, dSub, dMul, dFdiv, dMod, dPow, dII, dI0, dLtI, dLe, dGt, dGe, eAnd, eOr, eNot, eIf, eNeg, eChain, mTru, mVal, mAnd, mOr, mNot, mYes, dTru_bl, dTru_int, dTru_non, dTru_tup, dTru_lst, dIx_lst, dIx_tup, eFld, eSl, oNone, oSome, eTup, fLst, eNew, eCB, fCB, dLen, dAbs, dInt, dTuple, dList, aNil, aCons, fLstRg, eTupRg, rRg1, rRg2, eIsi, fSeq, fRg1, fRg2, fEnum, fZip, D.items, gdName, gdTup, gdCons, gdNil, sSeq, sNext, sDrop, sRet, sRetN, sIf, sAsg, sOwn, sOwnD, sStill, sPar, sAugI, sApp, sExt, sSetI, sSetH, sFor, fLc, sForD, eGetD, dOf, keyD, sMany, setAll, nNil, nSh, nOl, nOd, eCall, mBody, mInit, eMake, sSelf, sSelf2, wipeE, dSl, List.getElem?_cons_zero, List.getElem?_cons_succ, List.set_cons_zero, List.set_cons_succ, List.replicate_succ, List.replicate_zero, List.map_cons, List.map_nil, List.cons_append, List.nil_append, List.length_cons, List.length_nil, List.length_map, atI_0, atI_1, atI_2, atI_3, atI_4, atI_n, ↓reduceIte, Bool.false_eq_true, dEq_int, dNe_int, Nat.reduceAdd, Nat.zero_add, putFD, f2, dAddF, dMulF, fSl]
      refine ⟨small (by omega), lc_map (fun l => nats (l ++ [x])) (fun l hl q hq => ?_) ?_⟩
      · have := (hml l hl).1
        rw [List.length_take] at this
        simp only [one_le, true_and, nats_snoc, eVar, eRd, eC, e2, dAdd, dSub, dMul, dFdiv, dMod, dPow, dII, dI0, dLtI, dLe, dGt, dGe, eAnd, eOr, eNot, eIf, eNeg, eChain, mTru, mVal, mAnd, mOr, mNot, mYes, dTru_bl, dTru_int, dTru_non, dTru_tup, dTru_lst, dIx_lst, dIx_tup, eFld, eSl, oNone, oSome, eTup, fLst, eNew, eCB, fCB, dLen, dAbs, dInt, dTuple, dList, aNil, aCons, fLstRg, eTupRg, rRg1, rRg2, eIsi, fSeq, fRg1, fRg2, fEnum, fZip, D.items, gdName, gdTup, gdCons, gdNil, sSeq, sNext, sDrop, sRet, sRetN, sIf, sAsg, sOwn, sOwnD, sStill, sPar, sAugI, sApp, sExt, sSetI, sSetH, sFor, fLc, sForD, eGetD, dOf, keyD, sMany, setAll, nNil, nSh, nOl, nOd, eCall, mBody, mInit, eMake, sSelf, sSelf2, wipeE, dSl, List.getElem?_cons_zero, List.getElem?_cons_succ, List.set_cons_zero, List.set_cons_succ, List.replicate_succ, List.replicate_zero, List.map_cons, List.map_nil, List.cons_append, List.nil_append, List.length_cons, List.length_nil, List.length_map, atI_0, atI_1, atI_2, atI_3, atI_4, atI_n, ↓reduceIte, Bool.false_eq_true, dEq_int, dNe_int, Nat.reduceAdd, Nat.zero_add, putFD, f2, dAddF, dMulF, fSl]
        exact ⟨small (by omega), hq⟩
      · refine ⟨small (by rw [List.length_map]; omega), hk _ ⟨_, _, ?_, rfl⟩⟩
        rw [subs_take (L := both t d i j) hx, List.map_append, List.map_map]
        rfl
    · obtain ⟨L, e7, hL, rfl⟩ := hs
      have hL' : L = (subs ((both t d i j).take (both t d i j).length)).map nats := hL
      rw [List.take_length] at hL'
      subst hL'
      simp only [eVar, eRd, eC, e2, dAdd, dSub, dMul, dFdiv, dMod, dPow, dII, dI0, dLtI, dLe, dGt, dGe, eAnd, eOr, eNot, eIf, eNeg, eChain, mTru, mVal, mAnd, mOr, mNot, mYes, dTru_bl, dTru_int, dTru_non, dTru_tup, dTru_lst, dIx_lst, dIx_tup, eFld, eSl, oNone, oSome, eTup, fLst, eNew, eCB, fCB, dLen, dAbs, dInt, dTuple, dList, aNil, aCons, fLstRg, eTupRg, rRg1, rRg2, eIsi, fSeq, fRg1, fRg2, fEnum, fZip, D.items, gdName, gdTup, gdCons, gdNil, sSeq, sNext, sDrop, sRet, sRetN, sIf, sAsg, sOwn, sOwnD, sStill, sPar, sAugI, sApp, sExt, sSetI, sSetH, sFor, fLc, sForD, eGetD, dOf, keyD, sMany, setAll, nNil, nSh, nOl, nOd, eCall, mBody, mInit, eMake, sSelf, sSelf2, wipeE, dSl, List.getElem?_cons_zero, List.getElem?_cons_succ, List.set_cons_zero, List.set_cons_succ, List.replicate_succ, List.replicate_zero, List.map_cons, List.map_nil, List.cons_append, List.nil_append, List.length_cons, List.length_nil, List.length_map, atI_0, atI_1, atI_2, atI_3, atI_4, atI_n, ↓reduceIte, Bool.false_eq_true, dEq_int, dNe_int, Nat.reduceAdd, Nat.zero_add, putFD, f2, dAddF, dMulF, fSl]
      refine ⟨small (by omega), lc_map (fun j => .int (W R i j)) (fun o ho q hq => ?_) ?_⟩
      · have := hb.lt o ho
        simp only [tab, lk_r, inT, true_and, row_at T hi, cell_at T hi this, eVar, eRd, eC, e2, dAdd, dSub, dMul, dFdiv, dMod, dPow, dII, dI0, dLtI, dLe, dGt, dGe, eAnd, eOr, eNot, eIf, eNeg, eChain, mTru, mVal, mAnd, mOr, mNot, mYes, dTru_bl, dTru_int, dTru_non, dTru_tup, dTru_lst, dIx_lst, dIx_tup, eFld, eSl, oNone, oSome, eTup, fLst, eNew, eCB, fCB, dLen, dAbs, dInt, dTuple, dList, aNil, aCons, fLstRg, eTupRg, rRg1, rRg2, eIsi, fSeq, fRg1, fRg2, fEnum, fZip, D.items, gdName, gdTup, gdCons, gdNil, sSeq, sNext, sDrop, sRet, sRetN, sIf, sAsg, sOwn, sOwnD, sStill, sPar, sAugI, sApp, sExt, sSetI, sSetH, sFor, fLc, sForD, eGetD, dOf, keyD, sMany, setAll, nNil, nSh, nOl, nOd, eCall, mBody, mInit, eMake, sSelf, sSelf2, wipeE, dSl, List.getElem?_cons_zero, List.getElem?_cons_succ, List.set_cons_zero, List.set_cons_succ, List.replicate_succ, List.replicate_zero, List.map_cons, List.map_nil, List.cons_append, List.nil_append, List.length_cons, List.length_nil, List.length_map, atI_0, atI_1, atI_2, atI_3, atI_4, atI_n, ↓reduceIte, Bool.false_eq_true, dEq_int, dNe_int, Nat.reduceAdd, Nat.zero_add, putFD, f2, dAddF, dMulF, fSl]
        exact hq
      · simp only [dSum_map, eVar, eRd, eC, e2, dAdd, dSub, dMul, dFdiv, dMod, dPow, dII, dI0, dLtI, dLe, dGt, dGe, eAnd, eOr, eNot, eIf, eNeg, eChain, mTru, mVal, mAnd, mOr, mNot, mYes, dTru_bl, dTru_int, dTru_non, dTru_tup, dTru_lst, dIx_lst, dIx_tup, eFld, eSl, oNone, oSome, eTup, fLst, eNew, eCB, fCB, dLen, dAbs, dInt, dTuple, dList, aNil, aCons, fLstRg, eTupRg, rRg1, rRg2, eIsi, fSeq, fRg1, fRg2, fEnum, fZip, D.items, gdName, gdTup, gdCons, gdNil, sSeq, sNext, sDrop, sRet, sRetN, sIf, sAsg, sOwn, sOwnD, sStill, sPar, sAugI, sApp, sExt, sSetI, sSetH, sFor, fLc, sForD, eGetD, dOf, keyD, sMany, setAll, nNil, nSh, nOl, nOd, eCall, mBody, mInit, eMake, sSelf, sSelf2, wipeE, dSl, List.getElem?_cons_zero, List.getElem?_cons_succ, List.set_cons_zero, List.set_cons_succ, List.replicate_succ, List.replicate_zero, List.map_cons, List.map_nil, List.cons_append, List.nil_append, List.length_cons, List.length_nil, List.length_map, atI_0, atI_1, atI_2, atI_3, atI_4, atI_n, ↓reduceIte, Bool.false_eq_true, dEq_int, dNe_int, Nat.reduceAdd, Nat.zero_add, putFD, f2, dAddF, dMulF, fSl]
        refine for_fold (fun (s : Option Int) ρ => ∃ e7 e9 e10 e11, ρ = [.sh (tab p t R), .sh (.int i), .sh (.int j), .sh (nats d), .sh (.lst ((both t d i j).map natI)), .sh (optD s), .sh (.lst ((subs (both t d i j)).map nats)), e7, .sh (.int (((both t d i j).map (W R i)).sum)), e9, e10, e11])
          (step (W R i) ((both t d i j).map (W R i)).sum) none ⟨_, _, _, _, rfl⟩ (fun l s ρ nx hl hs hk => ?_) (fun ρ hs => ?_)
        · obtain ⟨e7, e9, e10, e11, rfl⟩ := hs
          have hml := subs_mem (both t d i j) _ rfl l hl
          simp only [eVar, eRd, eC, e2, dAdd, dSub, dMul, dFdiv, dMod, dPow, dII, dI0, dLtI, dLe, dGt, dGe, eAnd, eOr, eNot, eIf, eNeg, eChain, mTru, mVal, mAnd, mOr, mNot, mYes, dTru_bl, dTru_int, dTru_non, dTru_tup, dTru_lst, dIx_lst, dIx_tup, eFld, eSl, oNone, oSome, eTup, fLst, eNew, eCB, fCB, dLen, dAbs, dInt, dTuple, dList, aNil, aCons, fLstRg, eTupRg, rRg1, rRg2, eIsi, fSeq, fRg1, fRg2, fEnum, fZip, D.items, gdName, gdTup, gdCons, gdNil, sSeq, sNext, sDrop, sRet, sRetN, sIf, sAsg, sOwn, sOwnD, sStill, sPar, sAugI, sApp, sExt, sSetI, sSetH, sFor, fLc, sForD, eGetD, dOf, keyD, sMany, setAll, nNil, nSh, nOl, nOd, eCall, mBody, mInit, eMake, sSelf, sSelf2, wipeE, dSl, List.getElem?_cons_zero, List.getElem?_cons_succ, List.set_cons_zero, List.set_cons_succ, List.replicate_succ, List.replicate_zero, List.map_cons, List.map_nil, List.cons_append, List.nil_append, List.length_cons, List.length_nil, List.length_map, atI_0, atI_1, atI_2, atI_3, atI_4, atI_n, ↓reduceIte, Bool.false_eq_true, dEq_int, dNe_int, Nat.reduceAdd, Nat.zero_add, putFD, f2, dAddF, dMulF, fSl]
          refine ⟨small (by omega), lc_map (fun j => .int (W R i j)) (fun o ho q hq => ?_) ?_⟩
          · have := hb.lt o (hml.2 o ho)
            simp only [tab, lk_r, inT, true_and, row_at T hi, cell_at T hi this, eVar, eRd, eC, e2, dAdd, dSub, dMul, dFdiv, dMod, dPow, dII, dI0, dLtI, dLe, dGt, dGe, eAnd, eOr, eNot, eIf, eNeg, eChain, mTru, mVal, mAnd, mOr, mNot, mYes, dTru_bl, dTru_int, dTru_non, dTru_tup, dTru_lst, dIx_lst, dIx_tup, eFld, eSl, oNone, oSome, eTup, fLst, eNew, eCB, fCB, dLen, dAbs, dInt, dTuple, dList, aNil, aCons, fLstRg, eTupRg, rRg1, rRg2, eIsi, fSeq, fRg1, fRg2, fEnum, fZip, D.items, gdName, gdTup, gdCons, gdNil, sSeq, sNext, sDrop, sRet, sRetN, sIf, sAsg, sOwn, sOwnD, sStill, sPar, sAugI, sApp, sExt, sSetI, sSetH, sFor, fLc, sForD, eGetD, dOf, keyD, sMany, setAll, nNil, nSh, nOl, nOd, eCall, mBody, mInit, eMake, sSelf, sSelf2, wipeE, dSl, List.getElem?_cons_zero, List.getElem?_cons_succ, List.set_cons_zero, List.set_cons_succ, List.replicate_succ, List.replicate_zero, List.map_cons, List.map_nil, List.cons_append, List.nil_append, List.length_cons, List.length_nil, List.length_map, atI_0, atI_1, atI_2, atI_3, atI_4, atI_n, ↓reduceIte, Bool.false_eq_true, dEq_int, dNe_int, Nat.reduceAdd, Nat.zero_add, putFD, f2, dAddF, dMulF, fSl]
            exact hq
          · have key : ∀ e7 e9 e10 e11, nx [.sh (tab p t R), .sh (.int i), .sh (.int j), .sh (nats d), .sh (.lst ((both t d i j).map natI)), .sh (optD (step (W R i) ((both t d i j).map (W R i)).sum s l)), .sh (.lst ((subs (both t d i j)).map nats)), e7, .sh (.int (((both t d i j).map (W R i)).sum)), e9, e10, e11] :=
              fun _ _ _ _ => hk _ ⟨_, _, _, _, rfl⟩
            simp only [dSum_map, dMin_2, dIs, eVar, eRd, eC, e2, dAdd, dSub, dMul, dFdiv, dMod, dPow, dII, dI0, dLtI, dLe, dGt, dGe, eAnd, eOr, eNot, eIf, eNeg, eChain, mTru, mVal, mAnd, mOr, mNot, mYes, dTru_bl, dTru_int, dTru_non, dTru_tup, dTru_lst, dIx_lst, dIx_tup, eFld, eSl, oNone, oSome, eTup, fLst, eNew, eCB, fCB, dLen, dAbs, dInt, dTuple, dList, aNil, aCons, fLstRg, eTupRg, rRg1, rRg2, eIsi, fSeq, fRg1, fRg2, fEnum, fZip, D.items, gdName, gdTup, gdCons, gdNil, sSeq, sNext, sDrop, sRet, sRetN, sIf, sAsg, sOwn, sOwnD, sStill, sPar, sAugI, sApp, sExt, sSetI, sSetH, sFor, fLc, sForD, eGetD, dOf, keyD, sMany, setAll, nNil, nSh, nOl, nOd, eCall, mBody, mInit, eMake, sSelf, sSelf2, wipeE, dSl, List.getElem?_cons_zero, List.getElem?_cons_succ, List.set_cons_zero, List.set_cons_succ, List.replicate_succ, List.replicate_zero, List.map_cons, List.map_nil, List.cons_append, List.nil_append, List.length_cons, List.length_nil, List.length_map, atI_0, atI_1, atI_2, atI_3, atI_4, atI_n, ↓reduceIte, Bool.false_eq_true, dEq_int, dNe_int, Nat.reduceAdd, Nat.zero_add, putFD, f2, dAddF, dMulF, fSl]
            cases s with
            | none =>
              simp only [optD, D.isNon, eVar, eRd, eC, e2, dAdd, dSub, dMul, dFdiv, dMod, dPow, dII, dI0, dLtI, dLe, dGt, dGe, eAnd, eOr, eNot, eIf, eNeg, eChain, mTru, mVal, mAnd, mOr, mNot, mYes, dTru_bl, dTru_int, dTru_non, dTru_tup, dTru_lst, dIx_lst, dIx_tup, eFld, eSl, oNone, oSome, eTup, fLst, eNew, eCB, fCB, dLen, dAbs, dInt, dTuple, dList, aNil, aCons, fLstRg, eTupRg, rRg1, rRg2, eIsi, fSeq, fRg1, fRg2, fEnum, fZip, D.items, gdName, gdTup, gdCons, gdNil, sSeq, sNext, sDrop, sRet, sRetN, sIf, sAsg, sOwn, sOwnD, sStill, sPar, sAugI, sApp, sExt, sSetI, sSetH, sFor, fLc, sForD, eGetD, dOf, keyD, sMany, setAll, nNil, nSh, nOl, nOd, eCall, mBody, mInit, eMake, sSelf, sSelf2, wipeE, dSl, List.getElem?_cons_zero, List.getElem?_cons_succ, List.set_cons_zero, List.set_cons_succ, List.replicate_succ, List.replicate_zero, List.map_cons, List.map_nil, List.cons_append, List.nil_append, List.length_cons, List.length_nil, List.length_map, atI_0, atI_1, atI_2, atI_3, atI_4, atI_n, ↓reduceIte, Bool.false_eq_true, dEq_int, dNe_int, Nat.reduceAdd, Nat.zero_add, putFD, f2, dAddF, dMulF, fSl]
              exact key _ _ _ _
            | some x =>
              dsimp only [step] at key
              generalize (if ((both t d i j).map (W R i)).sum - (l.map (W R i)).sum < (l.map (W R i)).sum then ((both t d i j).map (W R i)).sum - (l.map (W R i)).sum else (l.map (W R i)).sum) = m at key ⊢
              simp only [optD, D.isNon, eVar, eRd, eC, e2, dAdd, dSub, dMul, dFdiv, dMod, dPow, dII, dI0, dLtI, dLe, dGt, dGe, eAnd, eOr, eNot, eIf, eNeg, eChain, mTru, mVal, mAnd, mOr, mNot, mYes, dTru_bl, dTru_int, dTru_non, dTru_tup, dTru_lst, dIx_lst, dIx_tup, eFld, eSl, oNone, oSome, eTup, fLst, eNew, eCB, fCB, dLen, dAbs, dInt, dTuple, dList, aNil, aCons, fLstRg, eTupRg, rRg1, rRg2, eIsi, fSeq, fRg1, fRg2, fEnum, fZip, D.items, gdName, gdTup, gdCons, gdNil, sSeq, sNext, sDrop, sRet, sRetN, sIf, sAsg, sOwn, sOwnD, sStill, sPar, sAugI, sApp, sExt, sSetI, sSetH, sFor, fLc, sForD, eGetD, dOf, keyD, sMany, setAll, nNil, nSh, nOl, nOd, eCall, mBody, mInit, eMake, sSelf, sSelf2, wipeE, dSl, List.getElem?_cons_zero, List.getElem?_cons_succ, List.set_cons_zero, List.set_cons_succ, List.replicate_succ, List.replicate_zero, List.map_cons, List.map_nil, List.cons_append, List.nil_append, List.length_cons, List.length_nil, List.length_map, atI_0, atI_1, atI_2, atI_3, atI_4, atI_n, ↓reduceIte, Bool.false_eq_true, dEq_int, dNe_int, Nat.reduceAdd, Nat.zero_add, putFD, f2, dAddF, dMulF, fSl]
              by_cases hm : x < m
              · simp only [hm, decide_true, eVar, eRd, eC, e2, dAdd, dSub, dMul, dFdiv, dMod, dPow, dII, dI0, dLtI, dLe, dGt, dGe, eAnd, eOr, eNot, eIf, eNeg, eChain, mTru, mVal, mAnd, mOr, mNot, mYes, dTru_bl, dTru_int, dTru_non, dTru_tup, dTru_lst, dIx_lst, dIx_tup, eFld, eSl, oNone, oSome, eTup, fLst, eNew, eCB, fCB, dLen, dAbs, dInt, dTuple, dList, aNil, aCons, fLstRg, eTupRg, rRg1, rRg2, eIsi, fSeq, fRg1, fRg2, fEnum, fZip, D.items, gdName, gdTup, gdCons, gdNil, sSeq, sNext, sDrop, sRet, sRetN, sIf, sAsg, sOwn, sOwnD, sStill, sPar, sAugI, sApp, sExt, sSetI, sSetH, sFor, fLc, sForD, eGetD, dOf, keyD, sMany, setAll, nNil, nSh, nOl, nOd, eCall, mBody, mInit, eMake, sSelf, sSelf2, wipeE, dSl, List.getElem?_cons_zero, List.getElem?_cons_succ, List.set_cons_zero, List.set_cons_succ, List.replicate_succ, List.replicate_zero, List.map_cons, List.map_nil, List.cons_append, List.nil_append, List.length_cons, List.length_nil, List.length_map, atI_0, atI_1, atI_2, atI_3, atI_4, atI_n, ↓reduceIte, Bool.false_eq_true, dEq_int, dNe_int, Nat.reduceAdd, Nat.zero_add, putFD, f2, dAddF, dMulF, fSl]
                simp only [hm, ↓reduceIte] at key
                exact key _ _ _ _
              · simp only [hm, decide_false, eVar, eRd, eC, e2, dAdd, dSub, dMul, dFdiv, dMod, dPow, dII, dI0, dLtI, dLe, dGt, dGe, eAnd, eOr, eNot, eIf, eNeg, eChain, mTru, mVal, mAnd, mOr, mNot, mYes, dTru_bl, dTru_int, dTru_non, dTru_tup, dTru_lst, dIx_lst, dIx_tup, eFld, eSl, oNone, oSome, eTup, fLst, eNew, eCB, fCB, dLen, dAbs, dInt, dTuple, dList, aNil, aCons, fLstRg, eTupRg, rRg1, rRg2, eIsi, fSeq, fRg1, fRg2, fEnum, fZip, D.items, gdName, gdTup, gdCons, gdNil, sSeq, sNext, sDrop, sRet, sRetN, sIf, sAsg, sOwn, sOwnD, sStill, sPar, sAugI, sApp, sExt, sSetI, sSetH, sFor, fLc, sForD, eGetD, dOf, keyD, sMany, setAll, nNil, nSh, nOl, nOd, eCall, mBody, mInit, eMake, sSelf, sSelf2, wipeE, dSl, List.getElem?_cons_zero, List.getElem?_cons_succ, List.set_cons_zero, List.set_cons_succ, List.replicate_succ, List.replicate_zero, List.map_cons, List.map_nil, List.cons_append, List.nil_append, List.length_cons, List.length_nil, List.length_map, atI_0, atI_1, atI_2, atI_3, atI_4, atI_n, ↓reduceIte, Bool.false_eq_true, dEq_int, dNe_int, Nat.reduceAdd, Nat.zero_add, putFD, f2, dAddF, dMulF, fSl]
                simp only [hm, ↓reduceIte] at key
                exact key _ _ _ _
        · obtain ⟨e7, e9, e10, e11, rfl⟩ := hs
          simp only [eVar, eRd, eC, e2, dAdd, dSub, dMul, dFdiv, dMod, dPow, dII, dI0, dLtI, dLe, dGt, dGe, eAnd, eOr, eNot, eIf, eNeg, eChain, mTru, mVal, mAnd, mOr, mNot, mYes, dTru_bl, dTru_int, dTru_non, dTru_tup, dTru_lst, dIx_lst, dIx_tup, eFld, eSl, oNone, oSome, eTup, fLst, eNew, eCB, fCB, dLen, dAbs, dInt, dTuple, dList, aNil, aCons, fLstRg, eTupRg, rRg1, rRg2, eIsi, fSeq, fRg1, fRg2, fEnum, fZip, D.items, gdName, gdTup, gdCons, gdNil, sSeq, sNext, sDrop, sRet, sRetN, sIf, sAsg, sOwn, sOwnD, sStill, sPar, sAugI, sApp, sExt, sSetI, sSetH, sFor, fLc, sForD, eGetD, dOf, keyD, sMany, setAll, nNil, nSh, nOl, nOd, eCall, mBody, mInit, eMake, sSelf, sSelf2, wipeE, dSl, List.getElem?_cons_zero, List.getElem?_cons_succ, List.set_cons_zero, List.set_cons_succ, List.replicate_succ, List.replicate_zero, List.map_cons, List.map_nil, List.cons_append, List.nil_append, List.length_cons, List.length_nil, List.length_map, atI_0, atI_1, atI_2, atI_3, atI_4, atI_n, ↓reduceIte, Bool.false_eq_true, dEq_int, dNe_int, Nat.reduceAdd, Nat.zero_add, putFD, f2, dAddF, dMulF, fSl]
          have e : optD ((subs (both t d i j)).foldl (step (W R i) ((both t d i j).map (W R i)).sum) none) = .int (bestI (W R i) (both t d i j)) := best_eq _ _
          rw [e]
          exact h
/-! ### the law's own -/
theorem w_law_lots {L : List Nat} (hl : L.length ≤ 9) (h : q (.lst ((subs L).map nats))) : m__law_lots [.lst (L.map natI)] q qe := by
  simp only [m__law_lots_eq, f__law_lots, eVar, eRd, eC, e2, dAdd, dSub, dMul, dFdiv, dMod, dPow, dII, dI0, dLtI, dLe, dGt, dGe, eAnd, eOr, eNot, eIf, eNeg, eChain, mTru, mVal, mAnd, mOr, mNot, mYes, dTru_bl, dTru_int, dTru_non, dTru_tup, dTru_lst, dIx_lst, dIx_tup, eFld, eSl, oNone, oSome, eTup, fLst, eNew, eCB, fCB, dLen, dAbs, dInt, dTuple, dList, aNil, aCons, fLstRg, eTupRg, rRg1, rRg2, eIsi, fSeq, fRg1, fRg2, fEnum, fZip, D.items, gdName, gdTup, gdCons, gdNil, sSeq, sNext, sDrop, sRet, sRetN, sIf, sAsg, sOwn, sOwnD, sStill, sPar, sAugI, sApp, sExt, sSetI, sSetH, sFor, fLc, sForD, eGetD, dOf, keyD, sMany, setAll, nNil, nSh, nOl, nOd, eCall, mBody, mInit, eMake, sSelf, sSelf2, wipeE, dSl, List.getElem?_cons_zero, List.getElem?_cons_succ, List.set_cons_zero, List.set_cons_succ, List.replicate_succ, List.replicate_zero, List.map_cons, List.map_nil, List.cons_append, List.nil_append, List.length_cons, List.length_nil, List.length_map, atI_0, atI_1, atI_2, atI_3, atI_4, atI_n, ↓reduceIte, Bool.false_eq_true, dEq_int, dNe_int, Nat.reduceAdd, Nat.zero_add, putFD, f2, dAddF, dMulF, fSl]
  refine ⟨by decide, by decide, ?_⟩
  refine for_inv (fun k ρ => ∃ M u2 u3, M = (subs (L.take k)).map nats ∧ ρ = [.sh (.lst (L.map natI)), .sh (.lst M), u2, u3]) ⟨_, _, _, rfl, rfl⟩ (fun k x ρ nx hx hs hk => ?_) (fun ρ hs => ?_)
  · obtain ⟨M, u2, u3, rfl, rfl⟩ := hs
    have hkl : k < L.length := (List.getElem?_eq_some_iff.mp hx).1
    have hsl : (subs (L.take k)).length ≤ 2 ^ 9 := by
      rw [subs_len _ k (by rw [List.length_take]; omega)]
      exact Nat.pow_le_pow_right (by omega) (by omega)
    have hml := subs_mem (L.take k) _ rfl
    simp only [eVar, eRd, eC, e2, dAdd, dSub, dMul, dFdiv, dMod, dPow, dII, dI0, dLtI, dLe, dGt, dGe, eAnd, eOr, eNot, eIf, eNeg, eChain, mTru, mVal, mAnd, mOr, mNot, mYes, dTru_bl, dTru_int, dTru_non, dTru_tup, dTru_lst, dIx_lst, dIx_tup, eFld, eSl, oNone, oSome, eTup, fLst, eNew, eCB, fCB, dLen, dAbs, dInt, dTuple, dList, aNil, aCons, fLstRg, eTupRg, rRg1, rRg2, eIsi, fSeq, fRg1, fRg2, fEnum, fZip, D.items, gdName, gdTup, gdCons, gdNil, sSeq, sNext, sDrop, sRet, sRetN, sIf, sAsg, sOwn, sOwnD, sStill, sPar, sAugI, sApp, sExt, sSetI, sSetH, sFor, fLc, sForD, eGetD, dOf, keyD, sMany, setAll, nNil, nSh, nOl, nOd, eCall, mBody, mInit, eMake, sSelf, sSelf2, wipeE, dSl, List.getElem?_cons_zero, List.getElem?_cons_succ, List.set_cons_zero, List.set_cons_succ, List.replicate_succ, List.replicate_zero, List.map_cons, List.map_nil, List.cons_append, List.nil_append, List.length_cons, List.length_nil, List.length_map, atI_0, atI_1, atI_2, atI_3, atI_4, atI_n, ↓reduceIte, Bool.false_eq_true, dEq_int, dNe_int, Nat.reduceAdd, Nat.zero_add, putFD, f2, dAddF, dMulF, fSl]
    refine ⟨small (by omega), lc_map (fun l => nats (l ++ [x])) (fun l hl q hq => ?_) ?_⟩
    · have := (hml l hl).1
      rw [List.length_take] at this
      simp only [one_le, true_and, nats_snoc, eVar, eRd, eC, e2, dAdd, dSub, dMul, dFdiv, dMod, dPow, dII, dI0, dLtI, dLe, dGt, dGe, eAnd, eOr, eNot, eIf, eNeg, eChain, mTru, mVal, mAnd, mOr, mNot, mYes, dTru_bl, dTru_int, dTru_non, dTru_tup, dTru_lst, dIx_lst, dIx_tup, eFld, eSl, oNone, oSome, eTup, fLst, eNew, eCB, fCB, dLen, dAbs, dInt, dTuple, dList, aNil, aCons, fLstRg, eTupRg, rRg1, rRg2, eIsi, fSeq, fRg1, fRg2, fEnum, fZip, D.items, gdName, gdTup, gdCons, gdNil, sSeq, sNext, sDrop, sRet, sRetN, sIf, sAsg, sOwn, sOwnD, sStill, sPar, sAugI, sApp, sExt, sSetI, sSetH, sFor, fLc, sForD, eGetD, dOf, keyD, sMany, setAll, nNil, nSh, nOl, nOd, eCall, mBody, mInit, eMake, sSelf, sSelf2, wipeE, dSl, List.getElem?_cons_zero, List.getElem?_cons_succ, List.set_cons_zero, List.set_cons_succ, List.replicate_succ, List.replicate_zero, List.map_cons, List.map_nil, List.cons_append, List.nil_append, List.length_cons, List.length_nil, List.length_map, atI_0, atI_1, atI_2, atI_3, atI_4, atI_n, ↓reduceIte, Bool.false_eq_true, dEq_int, dNe_int, Nat.reduceAdd, Nat.zero_add, putFD, f2, dAddF, dMulF, fSl]
      exact ⟨small (by omega), hq⟩
    · refine ⟨small (by rw [List.length_map]; omega), hk _ ⟨_, _, _, ?_, rfl⟩⟩
      rw [subs_take hx, List.map_append, List.map_map]
      rfl
  · obtain ⟨M, u2, u3, hM, rfl⟩ := hs
    rw [List.take_length] at hM
    subst hM
    simp only [eVar, eRd, eC, e2, dAdd, dSub, dMul, dFdiv, dMod, dPow, dII, dI0, dLtI, dLe, dGt, dGe, eAnd, eOr, eNot, eIf, eNeg, eChain, mTru, mVal, mAnd, mOr, mNot, mYes, dTru_bl, dTru_int, dTru_non, dTru_tup, dTru_lst, dIx_lst, dIx_tup, eFld, eSl, oNone, oSome, eTup, fLst, eNew, eCB, fCB, dLen, dAbs, dInt, dTuple, dList, aNil, aCons, fLstRg, eTupRg, rRg1, rRg2, eIsi, fSeq, fRg1, fRg2, fEnum, fZip, D.items, gdName, gdTup, gdCons, gdNil, sSeq, sNext, sDrop, sRet, sRetN, sIf, sAsg, sOwn, sOwnD, sStill, sPar, sAugI, sApp, sExt, sSetI, sSetH, sFor, fLc, sForD, eGetD, dOf, keyD, sMany, setAll, nNil, nSh, nOl, nOd, eCall, mBody, mInit, eMake, sSelf, sSelf2, wipeE, dSl, List.getElem?_cons_zero, List.getElem?_cons_succ, List.set_cons_zero, List.set_cons_succ, List.replicate_succ, List.replicate_zero, List.map_cons, List.map_nil, List.cons_append, List.nil_append, List.length_cons, List.length_nil, List.length_map, atI_0, atI_1, atI_2, atI_3, atI_4, atI_n, ↓reduceIte, Bool.false_eq_true, dEq_int, dNe_int, Nat.reduceAdd, Nat.zero_add, putFD, f2, dAddF, dMulF, fSl]
    exact h
theorem cell_of {r : List Int} {j : Nat} (h : j < r.length) : atI (r.map D.int) (j : Int) = some (.int (r.getD j 0)) := by
  rw [atI_n, List.getElem?_map, List.getElem?_eq_getElem h, List.getD_eq_getElem?_getD, List.getElem?_eq_getElem h]
  rfl
theorem w_law_pair {r : List Int} {L : List Nat} (hl : L.length ≤ 9) (hL : ∀ j ∈ L, j < r.length) (h : q (.int (bestI (fun j => r.getD j 0) L))) : m__law_pair [intL r, .lst (L.map natI)] q qe := by
  simp only [m__law_pair_eq, f__law_pair, eVar, eRd, eC, e2, dAdd, dSub, dMul, dFdiv, dMod, dPow, dII, dI0, dLtI, dLe, dGt, dGe, eAnd, eOr, eNot, eIf, eNeg, eChain, mTru, mVal, mAnd, mOr, mNot, mYes, dTru_bl, dTru_int, dTru_non, dTru_tup, dTru_lst, dIx_lst, dIx_tup, eFld, eSl, oNone, oSome, eTup, fLst, eNew, eCB, fCB, dLen, dAbs, dInt, dTuple, dList, aNil, aCons, fLstRg, eTupRg, rRg1, rRg2, eIsi, fSeq, fRg1, fRg2, fEnum, fZip, D.items, gdName, gdTup, gdCons, gdNil, sSeq, sNext, sDrop, sRet, sRetN, sIf, sAsg, sOwn, sOwnD, sStill, sPar, sAugI, sApp, sExt, sSetI, sSetH, sFor, fLc, sForD, eGetD, dOf, keyD, sMany, setAll, nNil, nSh, nOl, nOd, eCall, mBody, mInit, eMake, sSelf, sSelf2, wipeE, dSl, List.getElem?_cons_zero, List.getElem?_cons_succ, List.set_cons_zero, List.set_cons_succ, List.replicate_succ, List.replicate_zero, List.map_cons, List.map_nil, List.cons_append, List.nil_append, List.length_cons, List.length_nil, List.length_map, atI_0, atI_1, atI_2, atI_3, atI_4, atI_n, ↓reduceIte, Bool.false_eq_true, dEq_int, dNe_int, Nat.reduceAdd, Nat.zero_add, putFD, f2, dAddF, dMulF, fSl]
  refine ⟨small (by omega), lc_map (fun j => .int (r.getD j 0)) (fun o ho q hq => ?_) ?_⟩
  · simp only [cell_of (hL o ho), eVar, eRd, eC, e2, dAdd, dSub, dMul, dFdiv, dMod, dPow, dII, dI0, dLtI, dLe, dGt, dGe, eAnd, eOr, eNot, eIf, eNeg, eChain, mTru, mVal, mAnd, mOr, mNot, mYes, dTru_bl, dTru_int, dTru_non, dTru_tup, dTru_lst, dIx_lst, dIx_tup, eFld, eSl, oNone, oSome, eTup, fLst, eNew, eCB, fCB, dLen, dAbs, dInt, dTuple, dList, aNil, aCons, fLstRg, eTupRg, rRg1, rRg2, eIsi, fSeq, fRg1, fRg2, fEnum, fZip, D.items, gdName, gdTup, gdCons, gdNil, sSeq, sNext, sDrop, sRet, sRetN, sIf, sAsg, sOwn, sOwnD, sStill, sPar, sAugI, sApp, sExt, sSetI, sSetH, sFor, fLc, sForD, eGetD, dOf, keyD, sMany, setAll, nNil, nSh, nOl, nOd, eCall, mBody, mInit, eMake, sSelf, sSelf2, wipeE, dSl, List.getElem?_cons_zero, List.getElem?_cons_succ, List.set_cons_zero, List.set_cons_succ, List.replicate_succ, List.replicate_zero, List.map_cons, List.map_nil, List.cons_append, List.nil_append, List.length_cons, List.length_nil, List.length_map, atI_0, atI_1, atI_2, atI_3, atI_4, atI_n, ↓reduceIte, Bool.false_eq_true, dEq_int, dNe_int, Nat.reduceAdd, Nat.zero_add, putFD, f2, dAddF, dMulF, fSl]
    exact hq
  · simp only [dSum_map, eVar, eRd, eC, e2, dAdd, dSub, dMul, dFdiv, dMod, dPow, dII, dI0, dLtI, dLe, dGt, dGe, eAnd, eOr, eNot, eIf, eNeg, eChain, mTru, mVal, mAnd, mOr, mNot, mYes, dTru_bl, dTru_int, dTru_non, dTru_tup, dTru_lst, dIx_lst, dIx_tup, eFld, eSl, oNone, oSome, eTup, fLst, eNew, eCB, fCB, dLen, dAbs, dInt, dTuple, dList, aNil, aCons, fLstRg, eTupRg, rRg1, rRg2, eIsi, fSeq, fRg1, fRg2, fEnum, fZip, D.items, gdName, gdTup, gdCons, gdNil, sSeq, sNext, sDrop, sRet, sRetN, sIf, sAsg, sOwn, sOwnD, sStill, sPar, sAugI, sApp, sExt, sSetI, sSetH, sFor, fLc, sForD, eGetD, dOf, keyD, sMany, setAll, nNil, nSh, nOl, nOd, eCall, mBody, mInit, eMake, sSelf, sSelf2, wipeE, dSl, List.getElem?_cons_zero, List.getElem?_cons_succ, List.set_cons_zero, List.set_cons_succ, List.replicate_succ, List.replicate_zero, List.map_cons, List.map_nil, List.cons_append, List.nil_append, List.length_cons, List.length_nil, List.length_map, atI_0, atI_1, atI_2, atI_3, atI_4, atI_n, ↓reduceIte, Bool.false_eq_true, dEq_int, dNe_int, Nat.reduceAdd, Nat.zero_add, putFD, f2, dAddF, dMulF, fSl]
    refine w_law_lots hl ?_
    simp only [eVar, eRd, eC, e2, dAdd, dSub, dMul, dFdiv, dMod, dPow, dII, dI0, dLtI, dLe, dGt, dGe, eAnd, eOr, eNot, eIf, eNeg, eChain, mTru, mVal, mAnd, mOr, mNot, mYes, dTru_bl, dTru_int, dTru_non, dTru_tup, dTru_lst, dIx_lst, dIx_tup, eFld, eSl, oNone, oSome, eTup, fLst, eNew, eCB, fCB, dLen, dAbs, dInt, dTuple, dList, aNil, aCons, fLstRg, eTupRg, rRg1, rRg2, eIsi, fSeq, fRg1, fRg2, fEnum, fZip, D.items, gdName, gdTup, gdCons, gdNil, sSeq, sNext, sDrop, sRet, sRetN, sIf, sAsg, sOwn, sOwnD, sStill, sPar, sAugI, sApp, sExt, sSetI, sSetH, sFor, fLc, sForD, eGetD, dOf, keyD, sMany, setAll, nNil, nSh, nOl, nOd, eCall, mBody, mInit, eMake, sSelf, sSelf2, wipeE, dSl, List.getElem?_cons_zero, List.getElem?_cons_succ, List.set_cons_zero, List.set_cons_succ, List.replicate_succ, List.replicate_zero, List.map_cons, List.map_nil, List.cons_append, List.nil_append, List.length_cons, List.length_nil, List.length_map, atI_0, atI_1, atI_2, atI_3, atI_4, atI_n, ↓reduceIte, Bool.false_eq_true, dEq_int, dNe_int, Nat.reduceAdd, Nat.zero_add, putFD, f2, dAddF, dMulF, fSl]
    refine for_fold (fun (s : Option Int) ρ => ∃ e4 e5 e6 e7, ρ = [.sh (intL r), .sh (.lst (L.map natI)), .sh (.int ((L.map fun j => r.getD j 0).sum)), .sh (optD s), e4, e5, e6, e7])
      (step (fun j => r.getD j 0) ((L.map fun j => r.getD j 0)).sum) none ⟨_, _, _, _, rfl⟩ (fun l s ρ nx hl' hs hk => ?_) (fun ρ hs => ?_)
    · obtain ⟨e4, e5, e6, e7, rfl⟩ := hs
      have hml := subs_mem L _ rfl l hl'
      simp only [eVar, eRd, eC, e2, dAdd, dSub, dMul, dFdiv, dMod, dPow, dII, dI0, dLtI, dLe, dGt, dGe, eAnd, eOr, eNot, eIf, eNeg, eChain, mTru, mVal, mAnd, mOr, mNot, mYes, dTru_bl, dTru_int, dTru_non, dTru_tup, dTru_lst, dIx_lst, dIx_tup, eFld, eSl, oNone, oSome, eTup, fLst, eNew, eCB, fCB, dLen, dAbs, dInt, dTuple, dList, aNil, aCons, fLstRg, eTupRg, rRg1, rRg2, eIsi, fSeq, fRg1, fRg2, fEnum, fZip, D.items, gdName, gdTup, gdCons, gdNil, sSeq, sNext, sDrop, sRet, sRetN, sIf, sAsg, sOwn, sOwnD, sStill, sPar, sAugI, sApp, sExt, sSetI, sSetH, sFor, fLc, sForD, eGetD, dOf, keyD, sMany, setAll, nNil, nSh, nOl, nOd, eCall, mBody, mInit, eMake, sSelf, sSelf2, wipeE, dSl, List.getElem?_cons_zero, List.getElem?_cons_succ, List.set_cons_zero, List.set_cons_succ, List.replicate_succ, List.replicate_zero, List.map_cons, List.map_nil, List.cons_append, List.nil_append, List.length_cons, List.length_nil, List.length_map, atI_0, atI_1, atI_2, atI_3, atI_4, atI_n, ↓reduceIte, Bool.false_eq_true, dEq_int, dNe_int, Nat.reduceAdd, Nat.zero_add, putFD, f2, dAddF, dMulF, fSl]
      refine ⟨small (by omega), lc_map (fun j => .int (r.getD j 0)) (fun o ho q hq => ?_) ?_⟩
      · simp only [cell_of (hL o (hml.2 o ho)), eVar, eRd, eC, e2, dAdd, dSub, dMul, dFdiv, dMod, dPow, dII, dI0, dLtI, dLe, dGt, dGe, eAnd, eOr, eNot, eIf, eNeg, eChain, mTru, mVal, mAnd, mOr, mNot, mYes, dTru_bl, dTru_int, dTru_non, dTru_tup, dTru_lst, dIx_lst, dIx_tup, eFld, eSl, oNone, oSome, eTup, fLst, eNew, eCB, fCB, dLen, dAbs, dInt, dTuple, dList, aNil, aCons, fLstRg, eTupRg, rRg1, rRg2, eIsi, fSeq, fRg1, fRg2, fEnum, fZip, D.items, gdName, gdTup, gdCons, gdNil, sSeq, sNext, sDrop, sRet, sRetN, sIf, sAsg, sOwn, sOwnD, sStill, sPar, sAugI, sApp, sExt, sSetI, sSetH, sFor, fLc, sForD, eGetD, dOf, keyD, sMany, setAll, nNil, nSh, nOl, nOd, eCall, mBody, mInit, eMake, sSelf, sSelf2, wipeE, dSl, List.getElem?_cons_zero, List.getElem?_cons_succ, List.set_cons_zero, List.set_cons_succ, List.replicate_succ, List.replicate_zero, List.map_cons, List.map_nil, List.cons_append, List.nil_append, List.length_cons, List.length_nil, List.length_map, atI_0, atI_1, atI_2, atI_3, atI_4, atI_n, ↓reduceIte, Bool.false_eq_true, dEq_int, dNe_int, Nat.reduceAdd, Nat.zero_add, putFD, f2, dAddF, dMulF, fSl]
        exact hq
      · have key : ∀ e4 e5 e6 e7, nx [.sh (intL r), .sh (.lst (L.map natI)), .sh (.int ((L.map fun j => r.getD j 0).sum)), .sh (optD (step (fun j => r.getD j 0) ((L.map fun j => r.getD j 0)).sum s l)), e4, e5, e6, e7] :=
          fun _ _ _ _ => hk _ ⟨_, _, _, _, rfl⟩
        simp only [dSum_map, dMin_2, dIs, eVar, eRd, eC, e2, dAdd, dSub, dMul, dFdiv, dMod, dPow, dII, dI0, dLtI, dLe, dGt, dGe, eAnd, eOr, eNot, eIf, eNeg, eChain, mTru, mVal, mAnd, mOr, mNot, mYes, dTru_bl, dTru_int, dTru_non, dTru_tup, dTru_lst, dIx_lst, dIx_tup, eFld, eSl, oNone, oSome, eTup, fLst, eNew, eCB, fCB, dLen, dAbs, dInt, dTuple, dList, aNil, aCons, fLstRg, eTupRg, rRg1, rRg2, eIsi, fSeq, fRg1, fRg2, fEnum, fZip, D.items, gdName, gdTup, gdCons, gdNil, sSeq, sNext, sDrop, sRet, sRetN, sIf, sAsg, sOwn, sOwnD, sStill, sPar, sAugI, sApp, sExt, sSetI, sSetH, sFor, fLc, sForD, eGetD, dOf, keyD, sMany, setAll, nNil, nSh, nOl, nOd, eCall, mBody, mInit, eMake, sSelf, sSelf2, wipeE, dSl, List.getElem?_cons_zero, List.getElem?_cons_succ, List.set_cons_zero, List.set_cons_succ, List.replicate_succ, List.replicate_zero, List.map_cons, List.map_nil, List.cons_append, List.nil_append, List.length_cons, List.length_nil, List.length_map, atI_0, atI_1, atI_2, atI_3, atI_4, atI_n, ↓reduceIte, Bool.false_eq_true, dEq_int, dNe_int, Nat.reduceAdd, Nat.zero_add, putFD, f2, dAddF, dMulF, fSl]
        cases s with
        | none =>
          simp only [optD, D.isNon, eVar, eRd, eC, e2, dAdd, dSub, dMul, dFdiv, dMod, dPow, dII, dI0, dLtI, dLe, dGt, dGe, eAnd, eOr, eNot, eIf, eNeg, eChain, mTru, mVal, mAnd, mOr, mNot, mYes, dTru_bl, dTru_int, dTru_non, dTru_tup, dTru_lst, dIx_lst, dIx_tup, eFld, eSl, oNone, oSome, eTup, fLst, eNew, eCB, fCB, dLen, dAbs, dInt, dTuple, dList, aNil, aCons, fLstRg, eTupRg, rRg1, rRg2, eIsi, fSeq, fRg1, fRg2, fEnum, fZip, D.items, gdName, gdTup, gdCons, gdNil, sSeq, sNext, sDrop, sRet, sRetN, sIf, sAsg, sOwn, sOwnD, sStill, sPar, sAugI, sApp, sExt, sSetI, sSetH, sFor, fLc, sForD, eGetD, dOf, keyD, sMany, setAll, nNil, nSh, nOl, nOd, eCall, mBody, mInit, eMake, sSelf, sSelf2, wipeE, dSl, List.getElem?_cons_zero, List.getElem?_cons_succ, List.set_cons_zero, List.set_cons_succ, List.replicate_succ, List.replicate_zero, List.map_cons, List.map_nil, List.cons_append, List.nil_append, List.length_cons, List.length_nil, List.length_map, atI_0, atI_1, atI_2, atI_3, atI_4, atI_n, ↓reduceIte, Bool.false_eq_true, dEq_int, dNe_int, Nat.reduceAdd, Nat.zero_add, putFD, f2, dAddF, dMulF, fSl]
          exact key _ _ _ _
        | some x =>
          dsimp only [step] at key
          generalize (if (L.map fun j => r.getD j 0).sum - (l.map fun j => r.getD j 0).sum < (l.map fun j => r.getD j 0).sum then (L.map fun j => r.getD j 0).sum - (l.map fun j => r.getD j 0).sum else (l.map fun j => r.getD j 0).sum) = m at key ⊢
          simp only [optD, D.isNon, eVar, eRd, eC, e2, dAdd, dSub, dMul, dFdiv, dMod, dPow, dII, dI0, dLtI, dLe, dGt, dGe, eAnd, eOr, eNot, eIf, eNeg, eChain, mTru, mVal, mAnd, mOr, mNot, mYes, dTru_bl, dTru_int, dTru_non, dTru_tup, dTru_lst, dIx_lst, dIx_tup, eFld, eSl, oNone, oSome, eTup, fLst, eNew, eCB, fCB, dLen, dAbs, dInt, dTuple, dList, aNil, aCons, fLstRg, eTupRg, rRg1, rRg2, eIsi, fSeq, fRg1, fRg2, fEnum, fZip, D.items, gdName, gdTup, gdCons, gdNil, sSeq, sNext, sDrop, sRet, sRetN, sIf, sAsg, sOwn, sOwnD, sStill, sPar, sAugI, sApp, sExt, sSetI, sSetH, sFor, fLc, sForD, eGetD, dOf, keyD, sMany, setAll, nNil, nSh, nOl, nOd, eCall, mBody, mInit, eMake, sSelf, sSelf2, wipeE, dSl, List.getElem?_cons_zero, List.getElem?_cons_succ, List.set_cons_zero, List.set_cons_succ, List.replicate_succ, List.replicate_zero, List.map_cons, List.map_nil, List.cons_append, List.nil_append, List.length_cons, List.length_nil, List.length_map, atI_0, atI_1, atI_2, atI_3, atI_4, atI_n, ↓reduceIte, Bool.false_eq_true, dEq_int, dNe_int, Nat.reduceAdd, Nat.zero_add, putFD, f2, dAddF, dMulF, fSl]
          by_cases hm : x < m
          · simp only [hm, decide_true, eVar, eRd, eC, e2, dAdd, dSub, dMul, dFdiv, dMod, dPow, dII, dI0, dLtI, dLe, dGt, dGe, eAnd, eOr, eNot, eIf, eNeg, eChain, mTru, mVal, mAnd, mOr, mNot, mYes, dTru_bl, dTru_int, dTru_non, dTru_tup, dTru_lst, dIx_lst, dIx_tup, eFld, eSl, oNone, oSome, eTup, fLst, eNew, eCB, fCB, dLen, dAbs, dInt, dTuple, dList, aNil, aCons, fLstRg, eTupRg, rRg1, rRg2, eIsi, fSeq, fRg1, fRg2, fEnum, fZip, D.items, gdName, gdTup, gdCons, gdNil, sSeq, sNext, sDrop, sRet, sRetN, sIf, sAsg, sOwn, sOwnD, sStill, sPar, sAugI, sApp, sExt, sSetI, sSetH, sFor, fLc, sForD, eGetD, dOf, keyD, sMany, setAll, nNil, nSh, nOl, nOd, eCall, mBody, mInit, eMake, sSelf, sSelf2, wipeE, dSl, List.getElem?_cons_zero, List.getElem?_cons_succ, List.set_cons_zero, List.set_cons_succ, List.replicate_succ, List.replicate_zero, List.map_cons, List.map_nil, List.cons_append, List.nil_append, List.length_cons, List.length_nil, List.length_map, atI_0, atI_1, atI_2, atI_3, atI_4, atI_n, ↓reduceIte, Bool.false_eq_true, dEq_int, dNe_int, Nat.reduceAdd, Nat.zero_add, putFD, f2, dAddF, dMulF, fSl]
            simp only [hm, ↓reduceIte] at key
            exact key _ _ _ _
          · simp only [hm, decide_false, eVar, eRd, eC, e2, dAdd, dSub, dMul, dFdiv, dMod, dPow, dII, dI0, dLtI, dLe, dGt, dGe, eAnd, eOr, eNot, eIf, eNeg, eChain, mTru, mVal, mAnd, mOr, mNot, mYes, dTru_bl, dTru_int, dTru_non, dTru_tup, dTru_lst, dIx_lst, dIx_tup, eFld, eSl, oNone, oSome, eTup, fLst, eNew, eCB, fCB, dLen, dAbs, dInt, dTuple, dList, aNil, aCons, fLstRg, eTupRg, rRg1, rRg2, eIsi, fSeq, fRg1, fRg2, fEnum, fZip, D.items, gdName, gdTup, gdCons, gdNil, sSeq, sNext, sDrop, sRet, sRetN, sIf, sAsg, sOwn, sOwnD, sStill, sPar, sAugI, sApp, sExt, sSetI, sSetH, sFor, fLc, sForD, eGetD, dOf, keyD, sMany, setAll, nNil, nSh, nOl, nOd, eCall, mBody, mInit, eMake, sSelf, sSelf2, wipeE, dSl, List.getElem?_cons_zero, List.getElem?_cons_succ, List.set_cons_zero, List.set_cons_succ, List.replicate_succ, List.replicate_zero, List.map_cons, List.map_nil, List.cons_append, List.nil_append, List.length_cons, List.length_nil, List.length_map, atI_0, atI_1, atI_2, atI_3, atI_4, atI_n, ↓reduceIte, Bool.false_eq_true, dEq_int, dNe_int, Nat.reduceAdd, Nat.zero_add, putFD, f2, dAddF, dMulF, fSl]
            simp only [hm, ↓reduceIte] at key
            exact key _ _ _ _
    · obtain ⟨e4, e5, e6, e7, rfl⟩ := hs
      simp only [eVar, eRd, eC, e2, dAdd, dSub, dMul, dFdiv, dMod, dPow, dII, dI0, dLtI, dLe, dGt, dGe, eAnd, eOr, eNot, eIf, eNeg, eChain, mTru, mVal, mAnd, mOr, mNot, mYes, dTru_bl, dTru_int, dTru_non, dTru_tup, dTru_lst, dIx_lst, dIx_tup, eFld, eSl, oNone, oSome, eTup, fLst, eNew, eCB, fCB, dLen, dAbs, dInt, dTuple, dList, aNil, aCons, fLstRg, eTupRg, rRg1, rRg2, eIsi, fSeq, fRg1, fRg2, fEnum, fZip, D.items, gdName, gdTup, gdCons, gdNil, sSeq, sNext, sDrop, sRet, sRetN, sIf, sAsg, sOwn, sOwnD, sStill, sPar, sAugI, sApp, sExt, sSetI, sSetH, sFor, fLc, sForD, eGetD, dOf, keyD, sMany, setAll, nNil, nSh, nOl, nOd, eCall, mBody, mInit, eMake, sSelf, sSelf2, wipeE, dSl, List.getElem?_cons_zero, List.getElem?_cons_succ, List.set_cons_zero, List.set_cons_succ, List.replicate_succ, List.replicate_zero, List.map_cons, List.map_nil, List.cons_append, List.nil_append, List.length_cons, List.length_nil, List.length_map, atI_0, atI_1, atI_2, atI_3, atI_4, atI_n, ↓reduceIte, Bool.false_eq_true, dEq_int, dNe_int, Nat.reduceAdd, Nat.zero_add, putFD, f2, dAddF, dMulF, fSl]
      have e : optD ((subs L).foldl (step (fun j => r.getD j 0) (L.map fun j => r.getD j 0).sum) none) = .int (bestI (fun j => r.getD j 0) L) := best_eq _ _
      rw [e]
      exact h
theorem enum_len : ∀ (n : Nat) (xs : List D), (enumD n xs).length = xs.length := enumD_length
theorem own_sum {d : List Nat} (hd : Deal p t d) (i : Nat) : (((d.zipIdx).filter (fun x => x.1 == i)).map fun x => W R i x.2).sum = gain R t d i := by
  unfold gain lotOf
  have e := zipIdx_filter_range d i 0
  rw [hd.len] at e
  have e2 : ((d.zipIdx).filter (fun x => x.1 == i)).map (fun x => W R i x.2) = (((d.zipIdx).filter (fun x => x.1 == i)).map (·.2)).map (W R i) := by rw [List.map_map]; rfl
  rw [e2, e]
  congr 2
  rw [show (fun x => 0 + x) = (id : Nat → Nat) from funext fun x => Nat.zero_add x, List.map_id]
theorem w_law_sum (T : Tab p t R) {d : List Nat} (hd : Deal p t d) {i : Nat} (hi : i < p) (h : q (.int (gain R t d i))) : m__law_sum [.lst (R.map intL), nats d, .int i, .int i] q qe := by
  have ht := T.t9
  have hl := hd.len
  simp only [m__law_sum_eq, f__law_sum, enumD_map, List.length_zipIdx, eVar, eRd, eC, e2, dAdd, dSub, dMul, dFdiv, dMod, dPow, dII, dI0, dLtI, dLe, dGt, dGe, eAnd, eOr, eNot, eIf, eNeg, eChain, mTru, mVal, mAnd, mOr, mNot, mYes, dTru_bl, dTru_int, dTru_non, dTru_tup, dTru_lst, dIx_lst, dIx_tup, eFld, eSl, oNone, oSome, eTup, fLst, eNew, eCB, fCB, dLen, dAbs, dInt, dTuple, dList, aNil, aCons, fLstRg, eTupRg, rRg1, rRg2, eIsi, fSeq, fRg1, fRg2, fEnum, fZip, D.items, gdName, gdTup, gdCons, gdNil, sSeq, sNext, sDrop, sRet, sRetN, sIf, sAsg, sOwn, sOwnD, sStill, sPar, sAugI, sApp, sExt, sSetI, sSetH, sFor, fLc, sForD, eGetD, dOf, keyD, sMany, setAll, nNil, nSh, nOl, nOd, eCall, mBody, mInit, eMake, sSelf, sSelf2, wipeE, dSl, List.getElem?_cons_zero, List.getElem?_cons_succ, List.set_cons_zero, List.set_cons_succ, List.replicate_succ, List.replicate_zero, List.map_cons, List.map_nil, List.cons_append, List.nil_append, List.length_cons, List.length_nil, List.length_map, atI_0, atI_1, atI_2, atI_3, atI_4, atI_n, ↓reduceIte, Bool.false_eq_true, dEq_int, dNe_int, Nat.reduceAdd, Nat.zero_add, putFD, f2, dAddF, dMulF, fSl]
  refine ⟨small (by omega), lc_filter (fun x => x.1 == i) (fun x => .int (W R i x.2)) (fun x hx k k' h1 h2 => ?_) ?_⟩
  · have hx2 : x.2 < t := by
      have := List.snd_lt_of_mem_zipIdx hx
      omega
    simp only [true_and, cast_beq, natI, row_atL T hi, cell_at T hi hx2, eVar, eRd, eC, e2, dAdd, dSub, dMul, dFdiv, dMod, dPow, dII, dI0, dLtI, dLe, dGt, dGe, eAnd, eOr, eNot, eIf, eNeg, eChain, mTru, mVal, mAnd, mOr, mNot, mYes, dTru_bl, dTru_int, dTru_non, dTru_tup, dTru_lst, dIx_lst, dIx_tup, eFld, eSl, oNone, oSome, eTup, fLst, eNew, eCB, fCB, dLen, dAbs, dInt, dTuple, dList, aNil, aCons, fLstRg, eTupRg, rRg1, rRg2, eIsi, fSeq, fRg1, fRg2, fEnum, fZip, D.items, gdName, gdTup, gdCons, gdNil, sSeq, sNext, sDrop, sRet, sRetN, sIf, sAsg, sOwn, sOwnD, sStill, sPar, sAugI, sApp, sExt, sSetI, sSetH, sFor, fLc, sForD, eGetD, dOf, keyD, sMany, setAll, nNil, nSh, nOl, nOd, eCall, mBody, mInit, eMake, sSelf, sSelf2, wipeE, dSl, List.getElem?_cons_zero, List.getElem?_cons_succ, List.set_cons_zero, List.set_cons_succ, List.replicate_succ, List.replicate_zero, List.map_cons, List.map_nil, List.cons_append, List.nil_append, List.length_cons, List.length_nil, List.length_map, atI_0, atI_1, atI_2, atI_3, atI_4, atI_n, ↓reduceIte, Bool.false_eq_true, dEq_int, dNe_int, Nat.reduceAdd, Nat.zero_add, putFD, f2, dAddF, dMulF, fSl]
    by_cases e : (x.1 == i) = true
    · rw [if_pos e]; exact h1 e
    · rw [if_neg e]; exact h2 (by simpa using e)
  · rw [dSum_map, own_sum hd]
    exact h
theorem w_law_gains (T : Tab p t R) {d : List Nat} (hd : Deal p t d) (h : q (.tup ((List.range p).map fun i => .int (gain R t d i)))) : m__law_gains [.lst (R.map intL), nats d] q qe := by
  have hp := T.p5
  have hr := T.rows
  simp only [m__law_gains_eq, f__law_gains, hr, rgD_0, List.length_range, eVar, eRd, eC, e2, dAdd, dSub, dMul, dFdiv, dMod, dPow, dII, dI0, dLtI, dLe, dGt, dGe, eAnd, eOr, eNot, eIf, eNeg, eChain, mTru, mVal, mAnd, mOr, mNot, mYes, dTru_bl, dTru_int, dTru_non, dTru_tup, dTru_lst, dIx_lst, dIx_tup, eFld, eSl, oNone, oSome, eTup, fLst, eNew, eCB, fCB, dLen, dAbs, dInt, dTuple, dList, aNil, aCons, fLstRg, eTupRg, rRg1, rRg2, eIsi, fSeq, fRg1, fRg2, fEnum, fZip, D.items, gdName, gdTup, gdCons, gdNil, sSeq, sNext, sDrop, sRet, sRetN, sIf, sAsg, sOwn, sOwnD, sStill, sPar, sAugI, sApp, sExt, sSetI, sSetH, sFor, fLc, sForD, eGetD, dOf, keyD, sMany, setAll, nNil, nSh, nOl, nOd, eCall, mBody, mInit, eMake, sSelf, sSelf2, wipeE, dSl, List.getElem?_cons_zero, List.getElem?_cons_succ, List.set_cons_zero, List.set_cons_succ, List.replicate_succ, List.replicate_zero, List.map_cons, List.map_nil, List.cons_append, List.nil_append, List.length_cons, List.length_nil, List.length_map, atI_0, atI_1, atI_2, atI_3, atI_4, atI_n, ↓reduceIte, Bool.false_eq_true, dEq_int, dNe_int, Nat.reduceAdd, Nat.zero_add, putFD, f2, dAddF, dMulF, fSl]
  refine ⟨rgB_small (by omega), small (by omega), lc_map (fun i => .int (gain R t d i)) (fun i hi k hk => ?_) h⟩
  simp only [eVar, eRd, eC, e2, dAdd, dSub, dMul, dFdiv, dMod, dPow, dII, dI0, dLtI, dLe, dGt, dGe, eAnd, eOr, eNot, eIf, eNeg, eChain, mTru, mVal, mAnd, mOr, mNot, mYes, dTru_bl, dTru_int, dTru_non, dTru_tup, dTru_lst, dIx_lst, dIx_tup, eFld, eSl, oNone, oSome, eTup, fLst, eNew, eCB, fCB, dLen, dAbs, dInt, dTuple, dList, aNil, aCons, fLstRg, eTupRg, rRg1, rRg2, eIsi, fSeq, fRg1, fRg2, fEnum, fZip, D.items, gdName, gdTup, gdCons, gdNil, sSeq, sNext, sDrop, sRet, sRetN, sIf, sAsg, sOwn, sOwnD, sStill, sPar, sAugI, sApp, sExt, sSetI, sSetH, sFor, fLc, sForD, eGetD, dOf, keyD, sMany, setAll, nNil, nSh, nOl, nOd, eCall, mBody, mInit, eMake, sSelf, sSelf2, wipeE, dSl, List.getElem?_cons_zero, List.getElem?_cons_succ, List.set_cons_zero, List.set_cons_succ, List.replicate_succ, List.replicate_zero, List.map_cons, List.map_nil, List.cons_append, List.nil_append, List.length_cons, List.length_nil, List.length_map, atI_0, atI_1, atI_2, atI_3, atI_4, atI_n, ↓reduceIte, Bool.false_eq_true, dEq_int, dNe_int, Nat.reduceAdd, Nat.zero_add, putFD, f2, dAddF, dMulF, fSl]
  exact w_law_sum T hd (List.mem_range.mp hi) hk
/-! ### kept by pairs -/
def okP (R : List (List Int)) (t : Nat) (d : List Nat) (i j : Nat) : Bool := j == i || decide (bestI (W R i) (both t d i j) ≤ gain R t d i)
def keptB (R : List (List Int)) (p t : Nat) (d : List Nat) : Bool := (List.range p).all fun i => (List.range p).all fun j => okP R t d i j
theorem gains_at {i : Nat} (d : List Nat) (hi : i < p) : atI ((List.range p).map fun i => D.int (gain R t d i)) (i : Int) = some (.int (gain R t d i)) := by
  rw [atI_n, List.getElem?_map, List.getElem?_range hi]
  rfl
theorem gains_get {i : Nat} (d : List Nat) (hi : i < p) : ((List.range p).map fun i => D.int (gain R t d i))[i]? = some (.int (gain R t d i)) := by
  rw [List.getElem?_map, List.getElem?_range hi]
  rfl
theorem w_kept (T : Tab p t R) {d : List Nat} (hd : Deal p t d) (h : q (.bl (keptB R p t d))) : m_is_kept_by_pairs [tab p t R, nats d] q qe := by
  have hp := T.p5
  simp only [m_is_kept_by_pairs_eq, f_is_kept_by_pairs, eVar, eRd, eC, e2, dAdd, dSub, dMul, dFdiv, dMod, dPow, dII, dI0, dLtI, dLe, dGt, dGe, eAnd, eOr, eNot, eIf, eNeg, eChain, mTru, mVal, mAnd, mOr, mNot, mYes, dTru_bl, dTru_int, dTru_non, dTru_tup, dTru_lst, dIx_lst, dIx_tup, eFld, eSl, oNone, oSome, eTup, fLst, eNew, eCB, fCB, dLen, dAbs, dInt, dTuple, dList, aNil, aCons, fLstRg, eTupRg, rRg1, rRg2, eIsi, fSeq, fRg1, fRg2, fEnum, fZip, D.items, gdName, gdTup, gdCons, gdNil, sSeq, sNext, sDrop, sRet, sRetN, sIf, sAsg, sOwn, sOwnD, sStill, sPar, sAugI, sApp, sExt, sSetI, sSetH, sFor, fLc, sForD, eGetD, dOf, keyD, sMany, setAll, nNil, nSh, nOl, nOd, eCall, mBody, mInit, eMake, sSelf, sSelf2, wipeE, dSl, List.getElem?_cons_zero, List.getElem?_cons_succ, List.set_cons_zero, List.set_cons_succ, List.replicate_succ, List.replicate_zero, List.map_cons, List.map_nil, List.cons_append, List.nil_append, List.length_cons, List.length_nil, List.length_map, atI_0, atI_1, atI_2, atI_3, atI_4, atI_n, ↓reduceIte, Bool.false_eq_true, dEq_int, dNe_int, Nat.reduceAdd, Nat.zero_add, putFD, f2, dAddF, dMulF, fSl]
  refine w_is_deal T.t9 hd ?_
  simp only [Bool.not_true, eVar, eRd, eC, e2, dAdd, dSub, dMul, dFdiv, dMod, dPow, dII, dI0, dLtI, dLe, dGt, dGe, eAnd, eOr, eNot, eIf, eNeg, eChain, mTru, mVal, mAnd, mOr, mNot, mYes, dTru_bl, dTru_int, dTru_non, dTru_tup, dTru_lst, dIx_lst, dIx_tup, eFld, eSl, oNone, oSome, eTup, fLst, eNew, eCB, fCB, dLen, dAbs, dInt, dTuple, dList, aNil, aCons, fLstRg, eTupRg, rRg1, rRg2, eIsi, fSeq, fRg1, fRg2, fEnum, fZip, D.items, gdName, gdTup, gdCons, gdNil, sSeq, sNext, sDrop, sRet, sRetN, sIf, sAsg, sOwn, sOwnD, sStill, sPar, sAugI, sApp, sExt, sSetI, sSetH, sFor, fLc, sForD, eGetD, dOf, keyD, sMany, setAll, nNil, nSh, nOl, nOd, eCall, mBody, mInit, eMake, sSelf, sSelf2, wipeE, dSl, List.getElem?_cons_zero, List.getElem?_cons_succ, List.set_cons_zero, List.set_cons_succ, List.replicate_succ, List.replicate_zero, List.map_cons, List.map_nil, List.cons_append, List.nil_append, List.length_cons, List.length_nil, List.length_map, atI_0, atI_1, atI_2, atI_3, atI_4, atI_n, ↓reduceIte, Bool.false_eq_true, dEq_int, dNe_int, Nat.reduceAdd, Nat.zero_add, putFD, f2, dAddF, dMulF, fSl]
  refine w_gains T hd ?_
  simp only [tab, lk_p, inT, true_and, rgD_0, eVar, eRd, eC, e2, dAdd, dSub, dMul, dFdiv, dMod, dPow, dII, dI0, dLtI, dLe, dGt, dGe, eAnd, eOr, eNot, eIf, eNeg, eChain, mTru, mVal, mAnd, mOr, mNot, mYes, dTru_bl, dTru_int, dTru_non, dTru_tup, dTru_lst, dIx_lst, dIx_tup, eFld, eSl, oNone, oSome, eTup, fLst, eNew, eCB, fCB, dLen, dAbs, dInt, dTuple, dList, aNil, aCons, fLstRg, eTupRg, rRg1, rRg2, eIsi, fSeq, fRg1, fRg2, fEnum, fZip, D.items, gdName, gdTup, gdCons, gdNil, sSeq, sNext, sDrop, sRet, sRetN, sIf, sAsg, sOwn, sOwnD, sStill, sPar, sAugI, sApp, sExt, sSetI, sSetH, sFor, fLc, sForD, eGetD, dOf, keyD, sMany, setAll, nNil, nSh, nOl, nOd, eCall, mBody, mInit, eMake, sSelf, sSelf2, wipeE, dSl, List.getElem?_cons_zero, List.getElem?_cons_succ, List.set_cons_zero, List.set_cons_succ, List.replicate_succ, List.replicate_zero, List.map_cons, List.map_nil, List.cons_append, List.nil_append, List.length_cons, List.length_nil, List.length_map, atI_0, atI_1, atI_2, atI_3, atI_4, atI_n, ↓reduceIte, Bool.false_eq_true, dEq_int, dNe_int, Nat.reduceAdd, Nat.zero_add, putFD, f2, dAddF, dMulF, fSl]
  refine ⟨rgB_small (by omega), ?_⟩
  refine for_chk (fun ρ => ∃ e3 e4, ρ = [.sh (tab p t R), .sh (nats d), .sh (.tup ((List.range p).map fun i => .int (gain R t d i))), e3, e4]) (fun i => (List.range p).all fun j => okP R t d i j) ⟨_, _, rfl⟩ (fun i ρ nx hi hs h1 h2 => ?_) (fun ρ hs ha => ?_)
  · obtain ⟨e3, e4, rfl⟩ := hs
    have hi' := List.mem_range.mp hi
    simp only [tab, lk_p, inT, true_and, rgD_0, eVar, eRd, eC, e2, dAdd, dSub, dMul, dFdiv, dMod, dPow, dII, dI0, dLtI, dLe, dGt, dGe, eAnd, eOr, eNot, eIf, eNeg, eChain, mTru, mVal, mAnd, mOr, mNot, mYes, dTru_bl, dTru_int, dTru_non, dTru_tup, dTru_lst, dIx_lst, dIx_tup, eFld, eSl, oNone, oSome, eTup, fLst, eNew, eCB, fCB, dLen, dAbs, dInt, dTuple, dList, aNil, aCons, fLstRg, eTupRg, rRg1, rRg2, eIsi, fSeq, fRg1, fRg2, fEnum, fZip, D.items, gdName, gdTup, gdCons, gdNil, sSeq, sNext, sDrop, sRet, sRetN, sIf, sAsg, sOwn, sOwnD, sStill, sPar, sAugI, sApp, sExt, sSetI, sSetH, sFor, fLc, sForD, eGetD, dOf, keyD, sMany, setAll, nNil, nSh, nOl, nOd, eCall, mBody, mInit, eMake, sSelf, sSelf2, wipeE, dSl, List.getElem?_cons_zero, List.getElem?_cons_succ, List.set_cons_zero, List.set_cons_succ, List.replicate_succ, List.replicate_zero, List.map_cons, List.map_nil, List.cons_append, List.nil_append, List.length_cons, List.length_nil, List.length_map, atI_0, atI_1, atI_2, atI_3, atI_4, atI_n, ↓reduceIte, Bool.false_eq_true, dEq_int, dNe_int, Nat.reduceAdd, Nat.zero_add, putFD, f2, dAddF, dMulF, fSl]
    refine ⟨rgB_small (by omega), ?_⟩
    refine for_chk (fun ρ => ∃ e4, ρ = [.sh (tab p t R), .sh (nats d), .sh (.tup ((List.range p).map fun i => .int (gain R t d i))), .sh (.int i), e4]) (fun j => okP R t d i j) ⟨_, rfl⟩ (fun j ρ nx' hj hs k1 k2 => ?_) (fun ρ hs ha => ?_)
    · obtain ⟨e4, rfl⟩ := hs
      have hj' := List.mem_range.mp hj
      simp only [cast_beq, eVar, eRd, eC, e2, dAdd, dSub, dMul, dFdiv, dMod, dPow, dII, dI0, dLtI, dLe, dGt, dGe, eAnd, eOr, eNot, eIf, eNeg, eChain, mTru, mVal, mAnd, mOr, mNot, mYes, dTru_bl, dTru_int, dTru_non, dTru_tup, dTru_lst, dIx_lst, dIx_tup, eFld, eSl, oNone, oSome, eTup, fLst, eNew, eCB, fCB, dLen, dAbs, dInt, dTuple, dList, aNil, aCons, fLstRg, eTupRg, rRg1, rRg2, eIsi, fSeq, fRg1, fRg2, fEnum, fZip, D.items, gdName, gdTup, gdCons, gdNil, sSeq, sNext, sDrop, sRet, sRetN, sIf, sAsg, sOwn, sOwnD, sStill, sPar, sAugI, sApp, sExt, sSetI, sSetH, sFor, fLc, sForD, eGetD, dOf, keyD, sMany, setAll, nNil, nSh, nOl, nOd, eCall, mBody, mInit, eMake, sSelf, sSelf2, wipeE, dSl, List.getElem?_cons_zero, List.getElem?_cons_succ, List.set_cons_zero, List.set_cons_succ, List.replicate_succ, List.replicate_zero, List.map_cons, List.map_nil, List.cons_append, List.nil_append, List.length_cons, List.length_nil, List.length_map, atI_0, atI_1, atI_2, atI_3, atI_4, atI_n, ↓reduceIte, Bool.false_eq_true, dEq_int, dNe_int, Nat.reduceAdd, Nat.zero_add, putFD, f2, dAddF, dMulF, fSl]
      by_cases e : (j == i) = true
      · simp only [e, Bool.not_true, eVar, eRd, eC, e2, dAdd, dSub, dMul, dFdiv, dMod, dPow, dII, dI0, dLtI, dLe, dGt, dGe, eAnd, eOr, eNot, eIf, eNeg, eChain, mTru, mVal, mAnd, mOr, mNot, mYes, dTru_bl, dTru_int, dTru_non, dTru_tup, dTru_lst, dIx_lst, dIx_tup, eFld, eSl, oNone, oSome, eTup, fLst, eNew, eCB, fCB, dLen, dAbs, dInt, dTuple, dList, aNil, aCons, fLstRg, eTupRg, rRg1, rRg2, eIsi, fSeq, fRg1, fRg2, fEnum, fZip, D.items, gdName, gdTup, gdCons, gdNil, sSeq, sNext, sDrop, sRet, sRetN, sIf, sAsg, sOwn, sOwnD, sStill, sPar, sAugI, sApp, sExt, sSetI, sSetH, sFor, fLc, sForD, eGetD, dOf, keyD, sMany, setAll, nNil, nSh, nOl, nOd, eCall, mBody, mInit, eMake, sSelf, sSelf2, wipeE, dSl, List.getElem?_cons_zero, List.getElem?_cons_succ, List.set_cons_zero, List.set_cons_succ, List.replicate_succ, List.replicate_zero, List.map_cons, List.map_nil, List.cons_append, List.nil_append, List.length_cons, List.length_nil, List.length_map, atI_0, atI_1, atI_2, atI_3, atI_4, atI_n, ↓reduceIte, Bool.false_eq_true, dEq_int, dNe_int, Nat.reduceAdd, Nat.zero_add, putFD, f2, dAddF, dMulF, fSl]
        exact k1 (by unfold okP; rw [e]; rfl) _ ⟨_, rfl⟩
      · have e' : (j == i) = false := by simpa using e
        simp only [e', Bool.not_false, gains_get d hi', eVar, eRd, eC, e2, dAdd, dSub, dMul, dFdiv, dMod, dPow, dII, dI0, dLtI, dLe, dGt, dGe, eAnd, eOr, eNot, eIf, eNeg, eChain, mTru, mVal, mAnd, mOr, mNot, mYes, dTru_bl, dTru_int, dTru_non, dTru_tup, dTru_lst, dIx_lst, dIx_tup, eFld, eSl, oNone, oSome, eTup, fLst, eNew, eCB, fCB, dLen, dAbs, dInt, dTuple, dList, aNil, aCons, fLstRg, eTupRg, rRg1, rRg2, eIsi, fSeq, fRg1, fRg2, fEnum, fZip, D.items, gdName, gdTup, gdCons, gdNil, sSeq, sNext, sDrop, sRet, sRetN, sIf, sAsg, sOwn, sOwnD, sStill, sPar, sAugI, sApp, sExt, sSetI, sSetH, sFor, fLc, sForD, eGetD, dOf, keyD, sMany, setAll, nNil, nSh, nOl, nOd, eCall, mBody, mInit, eMake, sSelf, sSelf2, wipeE, dSl, List.getElem?_cons_zero, List.getElem?_cons_succ, List.set_cons_zero, List.set_cons_succ, List.replicate_succ, List.replicate_zero, List.map_cons, List.map_nil, List.cons_append, List.nil_append, List.length_cons, List.length_nil, List.length_map, atI_0, atI_1, atI_2, atI_3, atI_4, atI_n, ↓reduceIte, Bool.false_eq_true, dEq_int, dNe_int, Nat.reduceAdd, Nat.zero_add, putFD, f2, dAddF, dMulF, fSl]
        refine w_pairs_share T hd hi' hj' ?_
        simp only [eVar, eRd, eC, e2, dAdd, dSub, dMul, dFdiv, dMod, dPow, dII, dI0, dLtI, dLe, dGt, dGe, eAnd, eOr, eNot, eIf, eNeg, eChain, mTru, mVal, mAnd, mOr, mNot, mYes, dTru_bl, dTru_int, dTru_non, dTru_tup, dTru_lst, dIx_lst, dIx_tup, eFld, eSl, oNone, oSome, eTup, fLst, eNew, eCB, fCB, dLen, dAbs, dInt, dTuple, dList, aNil, aCons, fLstRg, eTupRg, rRg1, rRg2, eIsi, fSeq, fRg1, fRg2, fEnum, fZip, D.items, gdName, gdTup, gdCons, gdNil, sSeq, sNext, sDrop, sRet, sRetN, sIf, sAsg, sOwn, sOwnD, sStill, sPar, sAugI, sApp, sExt, sSetI, sSetH, sFor, fLc, sForD, eGetD, dOf, keyD, sMany, setAll, nNil, nSh, nOl, nOd, eCall, mBody, mInit, eMake, sSelf, sSelf2, wipeE, dSl, List.getElem?_cons_zero, List.getElem?_cons_succ, List.set_cons_zero, List.set_cons_succ, List.replicate_succ, List.replicate_zero, List.map_cons, List.map_nil, List.cons_append, List.nil_append, List.length_cons, List.length_nil, List.length_map, atI_0, atI_1, atI_2, atI_3, atI_4, atI_n, ↓reduceIte, Bool.false_eq_true, dEq_int, dNe_int, Nat.reduceAdd, Nat.zero_add, putFD, f2, dAddF, dMulF, fSl]
        by_cases hb : bestI (W R i) (both t d i j) ≤ gain R t d i
        · have : ¬ gain R t d i < bestI (W R i) (both t d i j) := by omega
          simp only [this, decide_false, eVar, eRd, eC, e2, dAdd, dSub, dMul, dFdiv, dMod, dPow, dII, dI0, dLtI, dLe, dGt, dGe, eAnd, eOr, eNot, eIf, eNeg, eChain, mTru, mVal, mAnd, mOr, mNot, mYes, dTru_bl, dTru_int, dTru_non, dTru_tup, dTru_lst, dIx_lst, dIx_tup, eFld, eSl, oNone, oSome, eTup, fLst, eNew, eCB, fCB, dLen, dAbs, dInt, dTuple, dList, aNil, aCons, fLstRg, eTupRg, rRg1, rRg2, eIsi, fSeq, fRg1, fRg2, fEnum, fZip, D.items, gdName, gdTup, gdCons, gdNil, sSeq, sNext, sDrop, sRet, sRetN, sIf, sAsg, sOwn, sOwnD, sStill, sPar, sAugI, sApp, sExt, sSetI, sSetH, sFor, fLc, sForD, eGetD, dOf, keyD, sMany, setAll, nNil, nSh, nOl, nOd, eCall, mBody, mInit, eMake, sSelf, sSelf2, wipeE, dSl, List.getElem?_cons_zero, List.getElem?_cons_succ, List.set_cons_zero, List.set_cons_succ, List.replicate_succ, List.replicate_zero, List.map_cons, List.map_nil, List.cons_append, List.nil_append, List.length_cons, List.length_nil, List.length_map, atI_0, atI_1, atI_2, atI_3, atI_4, atI_n, ↓reduceIte, Bool.false_eq_true, dEq_int, dNe_int, Nat.reduceAdd, Nat.zero_add, putFD, f2, dAddF, dMulF, fSl]
          exact k1 (by unfold okP; rw [decide_eq_true hb, Bool.or_true]) _ ⟨_, rfl⟩
        · have : gain R t d i < bestI (W R i) (both t d i j) := by omega
          simp only [this, decide_true, eVar, eRd, eC, e2, dAdd, dSub, dMul, dFdiv, dMod, dPow, dII, dI0, dLtI, dLe, dGt, dGe, eAnd, eOr, eNot, eIf, eNeg, eChain, mTru, mVal, mAnd, mOr, mNot, mYes, dTru_bl, dTru_int, dTru_non, dTru_tup, dTru_lst, dIx_lst, dIx_tup, eFld, eSl, oNone, oSome, eTup, fLst, eNew, eCB, fCB, dLen, dAbs, dInt, dTuple, dList, aNil, aCons, fLstRg, eTupRg, rRg1, rRg2, eIsi, fSeq, fRg1, fRg2, fEnum, fZip, D.items, gdName, gdTup, gdCons, gdNil, sSeq, sNext, sDrop, sRet, sRetN, sIf, sAsg, sOwn, sOwnD, sStill, sPar, sAugI, sApp, sExt, sSetI, sSetH, sFor, fLc, sForD, eGetD, dOf, keyD, sMany, setAll, nNil, nSh, nOl, nOd, eCall, mBody, mInit, eMake, sSelf, sSelf2, wipeE, dSl, List.getElem?_cons_zero, List.getElem?_cons_succ, List.set_cons_zero, List.set_cons_succ, List.replicate_succ, List.replicate_zero, List.map_cons, List.map_nil, List.cons_append, List.nil_append, List.length_cons, List.length_nil, List.length_map, atI_0, atI_1, atI_2, atI_3, atI_4, atI_n, ↓reduceIte, Bool.false_eq_true, dEq_int, dNe_int, Nat.reduceAdd, Nat.zero_add, putFD, f2, dAddF, dMulF, fSl]
          have f1 : okP R t d i j = false := by unfold okP; rw [e', decide_eq_false hb]; rfl
          have f2 : ((List.range p).all fun j => okP R t d i j) = false := List.all_eq_false.mpr ⟨j, hj, by rw [f1]; exact Bool.false_ne_true⟩
          have f3 : keptB R p t d = false := List.all_eq_false.mpr ⟨i, hi, by rw [f2]; exact Bool.false_ne_true⟩
          rw [f3] at h
          exact h
    · obtain ⟨e4, rfl⟩ := hs
      exact h1 (List.all_eq_true.mpr ha) _ ⟨_, _, rfl⟩
  · obtain ⟨e3, e4, rfl⟩ := hs
    simp only [eVar, eRd, eC, e2, dAdd, dSub, dMul, dFdiv, dMod, dPow, dII, dI0, dLtI, dLe, dGt, dGe, eAnd, eOr, eNot, eIf, eNeg, eChain, mTru, mVal, mAnd, mOr, mNot, mYes, dTru_bl, dTru_int, dTru_non, dTru_tup, dTru_lst, dIx_lst, dIx_tup, eFld, eSl, oNone, oSome, eTup, fLst, eNew, eCB, fCB, dLen, dAbs, dInt, dTuple, dList, aNil, aCons, fLstRg, eTupRg, rRg1, rRg2, eIsi, fSeq, fRg1, fRg2, fEnum, fZip, D.items, gdName, gdTup, gdCons, gdNil, sSeq, sNext, sDrop, sRet, sRetN, sIf, sAsg, sOwn, sOwnD, sStill, sPar, sAugI, sApp, sExt, sSetI, sSetH, sFor, fLc, sForD, eGetD, dOf, keyD, sMany, setAll, nNil, nSh, nOl, nOd, eCall, mBody, mInit, eMake, sSelf, sSelf2, wipeE, dSl, List.getElem?_cons_zero, List.getElem?_cons_succ, List.set_cons_zero, List.set_cons_succ, List.replicate_succ, List.replicate_zero, List.map_cons, List.map_nil, List.cons_append, List.nil_append, List.length_cons, List.length_nil, List.length_map, atI_0, atI_1, atI_2, atI_3, atI_4, atI_n, ↓reduceIte, Bool.false_eq_true, dEq_int, dNe_int, Nat.reduceAdd, Nat.zero_add, putFD, f2, dAddF, dMulF, fSl]
    have f3 : keptB R p t d = true := List.all_eq_true.mpr ha
    rw [f3] at h
    exact h
/-! ### no deals -/
theorem w_no_deal {x : D} (hx : x = .non ∨ x = .int 0 ∨ x = .str "deal" ∨ (∃ l, x = .lst l) ∨ ∃ l, x = .tup l ∧ l.length ≠ t) (h : q (.bl false)) : m_is_deal [tab p t R, x] q qe := by
  have s1 : (["tuple"].any fun n => isiB "NoneType" n) = false := by decide
  have s2 : (["tuple"].any fun n => isiB "int" n) = false := by decide
  have s3 : (["tuple"].any fun n => isiB "str" n) = false := by decide
  have s4 : (["tuple"].any fun n => isiB "list" n) = false := by decide
  rcases hx with rfl | rfl | rfl | ⟨l, rfl⟩ | ⟨l, rfl, hl⟩
  · simp only [m_is_deal_eq, f_is_deal, D.ty, s1, Bool.not_false, eVar, eRd, eC, e2, dAdd, dSub, dMul, dFdiv, dMod, dPow, dII, dI0, dLtI, dLe, dGt, dGe, eAnd, eOr, eNot, eIf, eNeg, eChain, mTru, mVal, mAnd, mOr, mNot, mYes, dTru_bl, dTru_int, dTru_non, dTru_tup, dTru_lst, dIx_lst, dIx_tup, eFld, eSl, oNone, oSome, eTup, fLst, eNew, eCB, fCB, dLen, dAbs, dInt, dTuple, dList, aNil, aCons, fLstRg, eTupRg, rRg1, rRg2, eIsi, fSeq, fRg1, fRg2, fEnum, fZip, D.items, gdName, gdTup, gdCons, gdNil, sSeq, sNext, sDrop, sRet, sRetN, sIf, sAsg, sOwn, sOwnD, sStill, sPar, sAugI, sApp, sExt, sSetI, sSetH, sFor, fLc, sForD, eGetD, dOf, keyD, sMany, setAll, nNil, nSh, nOl, nOd, eCall, mBody, mInit, eMake, sSelf, sSelf2, wipeE, dSl, List.getElem?_cons_zero, List.getElem?_cons_succ, List.set_cons_zero, List.set_cons_succ, List.replicate_succ, List.replicate_zero, List.map_cons, List.map_nil, List.cons_append, List.nil_append, List.length_cons, List.length_nil, List.length_map, atI_0, atI_1, atI_2, atI_3, atI_4, atI_n, ↓reduceIte, Bool.false_eq_true, dEq_int, dNe_int, Nat.reduceAdd, Nat.zero_add, putFD, f2, dAddF, dMulF, fSl]
    exact h
  · simp only [m_is_deal_eq, f_is_deal, D.ty, s2, Bool.not_false, eVar, eRd, eC, e2, dAdd, dSub, dMul, dFdiv, dMod, dPow, dII, dI0, dLtI, dLe, dGt, dGe, eAnd, eOr, eNot, eIf, eNeg, eChain, mTru, mVal, mAnd, mOr, mNot, mYes, dTru_bl, dTru_int, dTru_non, dTru_tup, dTru_lst, dIx_lst, dIx_tup, eFld, eSl, oNone, oSome, eTup, fLst, eNew, eCB, fCB, dLen, dAbs, dInt, dTuple, dList, aNil, aCons, fLstRg, eTupRg, rRg1, rRg2, eIsi, fSeq, fRg1, fRg2, fEnum, fZip, D.items, gdName, gdTup, gdCons, gdNil, sSeq, sNext, sDrop, sRet, sRetN, sIf, sAsg, sOwn, sOwnD, sStill, sPar, sAugI, sApp, sExt, sSetI, sSetH, sFor, fLc, sForD, eGetD, dOf, keyD, sMany, setAll, nNil, nSh, nOl, nOd, eCall, mBody, mInit, eMake, sSelf, sSelf2, wipeE, dSl, List.getElem?_cons_zero, List.getElem?_cons_succ, List.set_cons_zero, List.set_cons_succ, List.replicate_succ, List.replicate_zero, List.map_cons, List.map_nil, List.cons_append, List.nil_append, List.length_cons, List.length_nil, List.length_map, atI_0, atI_1, atI_2, atI_3, atI_4, atI_n, ↓reduceIte, Bool.false_eq_true, dEq_int, dNe_int, Nat.reduceAdd, Nat.zero_add, putFD, f2, dAddF, dMulF, fSl]
    exact h
  · simp only [m_is_deal_eq, f_is_deal, D.ty, s3, Bool.not_false, eVar, eRd, eC, e2, dAdd, dSub, dMul, dFdiv, dMod, dPow, dII, dI0, dLtI, dLe, dGt, dGe, eAnd, eOr, eNot, eIf, eNeg, eChain, mTru, mVal, mAnd, mOr, mNot, mYes, dTru_bl, dTru_int, dTru_non, dTru_tup, dTru_lst, dIx_lst, dIx_tup, eFld, eSl, oNone, oSome, eTup, fLst, eNew, eCB, fCB, dLen, dAbs, dInt, dTuple, dList, aNil, aCons, fLstRg, eTupRg, rRg1, rRg2, eIsi, fSeq, fRg1, fRg2, fEnum, fZip, D.items, gdName, gdTup, gdCons, gdNil, sSeq, sNext, sDrop, sRet, sRetN, sIf, sAsg, sOwn, sOwnD, sStill, sPar, sAugI, sApp, sExt, sSetI, sSetH, sFor, fLc, sForD, eGetD, dOf, keyD, sMany, setAll, nNil, nSh, nOl, nOd, eCall, mBody, mInit, eMake, sSelf, sSelf2, wipeE, dSl, List.getElem?_cons_zero, List.getElem?_cons_succ, List.set_cons_zero, List.set_cons_succ, List.replicate_succ, List.replicate_zero, List.map_cons, List.map_nil, List.cons_append, List.nil_append, List.length_cons, List.length_nil, List.length_map, atI_0, atI_1, atI_2, atI_3, atI_4, atI_n, ↓reduceIte, Bool.false_eq_true, dEq_int, dNe_int, Nat.reduceAdd, Nat.zero_add, putFD, f2, dAddF, dMulF, fSl]
    exact h
  · simp only [m_is_deal_eq, f_is_deal, D.ty, s4, Bool.not_false, eVar, eRd, eC, e2, dAdd, dSub, dMul, dFdiv, dMod, dPow, dII, dI0, dLtI, dLe, dGt, dGe, eAnd, eOr, eNot, eIf, eNeg, eChain, mTru, mVal, mAnd, mOr, mNot, mYes, dTru_bl, dTru_int, dTru_non, dTru_tup, dTru_lst, dIx_lst, dIx_tup, eFld, eSl, oNone, oSome, eTup, fLst, eNew, eCB, fCB, dLen, dAbs, dInt, dTuple, dList, aNil, aCons, fLstRg, eTupRg, rRg1, rRg2, eIsi, fSeq, fRg1, fRg2, fEnum, fZip, D.items, gdName, gdTup, gdCons, gdNil, sSeq, sNext, sDrop, sRet, sRetN, sIf, sAsg, sOwn, sOwnD, sStill, sPar, sAugI, sApp, sExt, sSetI, sSetH, sFor, fLc, sForD, eGetD, dOf, keyD, sMany, setAll, nNil, nSh, nOl, nOd, eCall, mBody, mInit, eMake, sSelf, sSelf2, wipeE, dSl, List.getElem?_cons_zero, List.getElem?_cons_succ, List.set_cons_zero, List.set_cons_succ, List.replicate_succ, List.replicate_zero, List.map_cons, List.map_nil, List.cons_append, List.nil_append, List.length_cons, List.length_nil, List.length_map, atI_0, atI_1, atI_2, atI_3, atI_4, atI_n, ↓reduceIte, Bool.false_eq_true, dEq_int, dNe_int, Nat.reduceAdd, Nat.zero_add, putFD, f2, dAddF, dMulF, fSl]
    exact h
  · have e : ((l.length : Int) == (t : Int)) = false := by simpa using (by omega : ¬ (l.length : Int) = t)
    simp only [m_is_deal_eq, f_is_deal, D.ty, isi_tt, Bool.not_true, Bool.not_false, tab, lk_t, inT, true_and, e, eVar, eRd, eC, e2, dAdd, dSub, dMul, dFdiv, dMod, dPow, dII, dI0, dLtI, dLe, dGt, dGe, eAnd, eOr, eNot, eIf, eNeg, eChain, mTru, mVal, mAnd, mOr, mNot, mYes, dTru_bl, dTru_int, dTru_non, dTru_tup, dTru_lst, dIx_lst, dIx_tup, eFld, eSl, oNone, oSome, eTup, fLst, eNew, eCB, fCB, dLen, dAbs, dInt, dTuple, dList, aNil, aCons, fLstRg, eTupRg, rRg1, rRg2, eIsi, fSeq, fRg1, fRg2, fEnum, fZip, D.items, gdName, gdTup, gdCons, gdNil, sSeq, sNext, sDrop, sRet, sRetN, sIf, sAsg, sOwn, sOwnD, sStill, sPar, sAugI, sApp, sExt, sSetI, sSetH, sFor, fLc, sForD, eGetD, dOf, keyD, sMany, setAll, nNil, nSh, nOl, nOd, eCall, mBody, mInit, eMake, sSelf, sSelf2, wipeE, dSl, List.getElem?_cons_zero, List.getElem?_cons_succ, List.set_cons_zero, List.set_cons_succ, List.replicate_succ, List.replicate_zero, List.map_cons, List.map_nil, List.cons_append, List.nil_append, List.length_cons, List.length_nil, List.length_map, atI_0, atI_1, atI_2, atI_3, atI_4, atI_n, ↓reduceIte, Bool.false_eq_true, dEq_int, dNe_int, Nat.reduceAdd, Nat.zero_add, putFD, f2, dAddF, dMulF, fSl]
    exact h
theorem w_kept_no {x : D} (hx : x = .non ∨ x = .int 0 ∨ x = .str "deal" ∨ (∃ l, x = .lst l) ∨ ∃ l, x = .tup l ∧ l.length ≠ t) (h : q (.bl false)) : m_is_kept_by_pairs [tab p t R, x] q qe := by
  simp only [m_is_kept_by_pairs_eq, f_is_kept_by_pairs, eVar, eRd, eC, e2, dAdd, dSub, dMul, dFdiv, dMod, dPow, dII, dI0, dLtI, dLe, dGt, dGe, eAnd, eOr, eNot, eIf, eNeg, eChain, mTru, mVal, mAnd, mOr, mNot, mYes, dTru_bl, dTru_int, dTru_non, dTru_tup, dTru_lst, dIx_lst, dIx_tup, eFld, eSl, oNone, oSome, eTup, fLst, eNew, eCB, fCB, dLen, dAbs, dInt, dTuple, dList, aNil, aCons, fLstRg, eTupRg, rRg1, rRg2, eIsi, fSeq, fRg1, fRg2, fEnum, fZip, D.items, gdName, gdTup, gdCons, gdNil, sSeq, sNext, sDrop, sRet, sRetN, sIf, sAsg, sOwn, sOwnD, sStill, sPar, sAugI, sApp, sExt, sSetI, sSetH, sFor, fLc, sForD, eGetD, dOf, keyD, sMany, setAll, nNil, nSh, nOl, nOd, eCall, mBody, mInit, eMake, sSelf, sSelf2, wipeE, dSl, List.getElem?_cons_zero, List.getElem?_cons_succ, List.set_cons_zero, List.set_cons_succ, List.replicate_succ, List.replicate_zero, List.map_cons, List.map_nil, List.cons_append, List.nil_append, List.length_cons, List.length_nil, List.length_map, atI_0, atI_1, atI_2, atI_3, atI_4, atI_n, ↓reduceIte, Bool.false_eq_true, dEq_int, dNe_int, Nat.reduceAdd, Nat.zero_add, putFD, f2, dAddF, dMulF, fSl]
  refine w_no_deal hx ?_
  simp only [Bool.not_false, eVar, eRd, eC, e2, dAdd, dSub, dMul, dFdiv, dMod, dPow, dII, dI0, dLtI, dLe, dGt, dGe, eAnd, eOr, eNot, eIf, eNeg, eChain, mTru, mVal, mAnd, mOr, mNot, mYes, dTru_bl, dTru_int, dTru_non, dTru_tup, dTru_lst, dIx_lst, dIx_tup, eFld, eSl, oNone, oSome, eTup, fLst, eNew, eCB, fCB, dLen, dAbs, dInt, dTuple, dList, aNil, aCons, fLstRg, eTupRg, rRg1, rRg2, eIsi, fSeq, fRg1, fRg2, fEnum, fZip, D.items, gdName, gdTup, gdCons, gdNil, sSeq, sNext, sDrop, sRet, sRetN, sIf, sAsg, sOwn, sOwnD, sStill, sPar, sAugI, sApp, sExt, sSetI, sSetH, sFor, fLc, sForD, eGetD, dOf, keyD, sMany, setAll, nNil, nSh, nOl, nOd, eCall, mBody, mInit, eMake, sSelf, sSelf2, wipeE, dSl, List.getElem?_cons_zero, List.getElem?_cons_succ, List.set_cons_zero, List.set_cons_succ, List.replicate_succ, List.replicate_zero, List.map_cons, List.map_nil, List.cons_append, List.nil_append, List.length_cons, List.length_nil, List.length_map, atI_0, atI_1, atI_2, atI_3, atI_4, atI_n, ↓reduceIte, Bool.false_eq_true, dEq_int, dNe_int, Nat.reduceAdd, Nat.zero_add, putFD, f2, dAddF, dMulF, fSl]
  exact h
/-! ### what is drawn -/
theorem w_some {xs : List D} (h0 : xs ≠ []) (h1 : xs.length < 1073741824) (h : ∀ d ∈ xs, q d) : m__law_some [.hand, .lst xs] q qe := by
  have : 0 < xs.length := List.length_pos_iff.mpr h0
  simp only [m__law_some_eq, f__law_some, eRd, eVar, e2, eCall, sRet, mBody, eCB, dLen, aCons, aNil, List.getElem?_cons_zero, List.getElem?_cons_succ, List.map_cons, List.map_nil, List.cons_append, List.nil_append, List.replicate_zero]
  refine draw_nat this h1 fun j hj => ?_
  simp only [eVar, eRd, eC, e2, dAdd, dSub, dMul, dFdiv, dMod, dPow, dII, dI0, dLtI, dLe, dGt, dGe, eAnd, eOr, eNot, eIf, eNeg, eChain, mTru, mVal, mAnd, mOr, mNot, mYes, dTru_bl, dTru_int, dTru_non, dTru_tup, dTru_lst, dIx_lst, dIx_tup, eFld, eSl, oNone, oSome, eTup, fLst, eNew, eCB, fCB, dLen, dAbs, dInt, dTuple, dList, aNil, aCons, fLstRg, eTupRg, rRg1, rRg2, eIsi, fSeq, fRg1, fRg2, fEnum, fZip, D.items, gdName, gdTup, gdCons, gdNil, sSeq, sNext, sDrop, sRet, sRetN, sIf, sAsg, sOwn, sOwnD, sStill, sPar, sAugI, sApp, sExt, sSetI, sSetH, sFor, fLc, sForD, eGetD, dOf, keyD, sMany, setAll, nNil, nSh, nOl, nOd, eCall, mBody, mInit, eMake, sSelf, sSelf2, wipeE, dSl, List.getElem?_cons_zero, List.getElem?_cons_succ, List.set_cons_zero, List.set_cons_succ, List.replicate_succ, List.replicate_zero, List.map_cons, List.map_nil, List.cons_append, List.nil_append, List.length_cons, List.length_nil, List.length_map, atI_0, atI_1, atI_2, atI_3, atI_4, atI_n, ↓reduceIte, Bool.false_eq_true, dEq_int, dNe_int, Nat.reduceAdd, Nat.zero_add, putFD, f2, dAddF, dMulF, fSl, List.getElem?_eq_getElem hj]
  exact h _ (List.getElem_mem hj)
def Rows (p t : Nat) (R : List (List Int)) : Prop := R.length = p ∧ ∀ r ∈ R, r.length = t ∧ ∀ x ∈ r, 0 ≤ x ∧ x ≤ 12
theorem w_law_rows (hp : p ≤ 5) (ht : t ≤ 9) (h : ∀ R, Rows p t R → q (.lst (R.map intL))) : m__law_rows [.hand, .int p, .int t, .int 0] q qe := by
  simp only [m__law_rows_eq, f__law_rows, eVar, eRd, eC, e2, dAdd, dSub, dMul, dFdiv, dMod, dPow, dII, dI0, dLtI, dLe, dGt, dGe, eAnd, eOr, eNot, eIf, eNeg, eChain, mTru, mVal, mAnd, mOr, mNot, mYes, dTru_bl, dTru_int, dTru_non, dTru_tup, dTru_lst, dIx_lst, dIx_tup, eFld, eSl, oNone, oSome, eTup, fLst, eNew, eCB, fCB, dLen, dAbs, dInt, dTuple, dList, aNil, aCons, fLstRg, eTupRg, rRg1, rRg2, eIsi, fSeq, fRg1, fRg2, fEnum, fZip, D.items, gdName, gdTup, gdCons, gdNil, sSeq, sNext, sDrop, sRet, sRetN, sIf, sAsg, sOwn, sOwnD, sStill, sPar, sAugI, sApp, sExt, sSetI, sSetH, sFor, fLc, sForD, eGetD, dOf, keyD, sMany, setAll, nNil, nSh, nOl, nOd, eCall, mBody, mInit, eMake, sSelf, sSelf2, wipeE, dSl, List.getElem?_cons_zero, List.getElem?_cons_succ, List.set_cons_zero, List.set_cons_succ, List.replicate_succ, List.replicate_zero, List.map_cons, List.map_nil, List.cons_append, List.nil_append, List.length_cons, List.length_nil, List.length_map, atI_0, atI_1, atI_2, atI_3, atI_4, atI_n, ↓reduceIte, Bool.false_eq_true, dEq_int, dNe_int, Nat.reduceAdd, Nat.zero_add, putFD, f2, dAddF, dMulF, fSl]
  refine ⟨by decide, w_some (by simp) (by decide) fun d hd => ?_⟩
  obtain ⟨w, rfl, w1, w2⟩ : ∃ w : Int, d = .int w ∧ 0 < w ∧ w ≤ 13 := by
    simp only [List.mem_cons, List.not_mem_nil, or_false] at hd
    rcases hd with e | e | e
    · exact ⟨_, e, by omega, by omega⟩
    · exact ⟨_, e, by omega, by omega⟩
    · exact ⟨_, e, by omega, by omega⟩
  simp only [rgD_0, List.length_range, eVar, eRd, eC, e2, dAdd, dSub, dMul, dFdiv, dMod, dPow, dII, dI0, dLtI, dLe, dGt, dGe, eAnd, eOr, eNot, eIf, eNeg, eChain, mTru, mVal, mAnd, mOr, mNot, mYes, dTru_bl, dTru_int, dTru_non, dTru_tup, dTru_lst, dIx_lst, dIx_tup, eFld, eSl, oNone, oSome, eTup, fLst, eNew, eCB, fCB, dLen, dAbs, dInt, dTuple, dList, aNil, aCons, fLstRg, eTupRg, rRg1, rRg2, eIsi, fSeq, fRg1, fRg2, fEnum, fZip, D.items, gdName, gdTup, gdCons, gdNil, sSeq, sNext, sDrop, sRet, sRetN, sIf, sAsg, sOwn, sOwnD, sStill, sPar, sAugI, sApp, sExt, sSetI, sSetH, sFor, fLc, sForD, eGetD, dOf, keyD, sMany, setAll, nNil, nSh, nOl, nOd, eCall, mBody, mInit, eMake, sSelf, sSelf2, wipeE, dSl, List.getElem?_cons_zero, List.getElem?_cons_succ, List.set_cons_zero, List.set_cons_succ, List.replicate_succ, List.replicate_zero, List.map_cons, List.map_nil, List.cons_append, List.nil_append, List.length_cons, List.length_nil, List.length_map, atI_0, atI_1, atI_2, atI_3, atI_4, atI_n, ↓reduceIte, Bool.false_eq_true, dEq_int, dNe_int, Nat.reduceAdd, Nat.zero_add, putFD, f2, dAddF, dMulF, fSl]
  refine ⟨rgB_small (by omega), small (by omega), lc_all (P := fun i d => ∃ r : List Int, d = intL r ∧ r.length = t ∧ ∀ x ∈ r, 0 ≤ x ∧ x ≤ 12) (fun i hi k hk => ?_) (fun ds hds => ?_)⟩
  · simp only [rgD_0, List.length_range, eVar, eRd, eC, e2, dAdd, dSub, dMul, dFdiv, dMod, dPow, dII, dI0, dLtI, dLe, dGt, dGe, eAnd, eOr, eNot, eIf, eNeg, eChain, mTru, mVal, mAnd, mOr, mNot, mYes, dTru_bl, dTru_int, dTru_non, dTru_tup, dTru_lst, dIx_lst, dIx_tup, eFld, eSl, oNone, oSome, eTup, fLst, eNew, eCB, fCB, dLen, dAbs, dInt, dTuple, dList, aNil, aCons, fLstRg, eTupRg, rRg1, rRg2, eIsi, fSeq, fRg1, fRg2, fEnum, fZip, D.items, gdName, gdTup, gdCons, gdNil, sSeq, sNext, sDrop, sRet, sRetN, sIf, sAsg, sOwn, sOwnD, sStill, sPar, sAugI, sApp, sExt, sSetI, sSetH, sFor, fLc, sForD, eGetD, dOf, keyD, sMany, setAll, nNil, nSh, nOl, nOd, eCall, mBody, mInit, eMake, sSelf, sSelf2, wipeE, dSl, List.getElem?_cons_zero, List.getElem?_cons_succ, List.set_cons_zero, List.set_cons_succ, List.replicate_succ, List.replicate_zero, List.map_cons, List.map_nil, List.cons_append, List.nil_append, List.length_cons, List.length_nil, List.length_map, atI_0, atI_1, atI_2, atI_3, atI_4, atI_n, ↓reduceIte, Bool.false_eq_true, dEq_int, dNe_int, Nat.reduceAdd, Nat.zero_add, putFD, f2, dAddF, dMulF, fSl]
    refine ⟨rgB_small (by omega), small (by omega), lc_all (P := fun i d => ∃ r : Int, d = .int r ∧ 0 ≤ r ∧ r ≤ 12) (fun i hi k hk => ?_) (fun ds hds => ?_)⟩
    · simp only [eVar, eRd, eC, e2, eCall, gdName, aCons, aNil, dAdd, List.set_cons_zero, List.set_cons_succ, List.getElem?_cons_zero, List.getElem?_cons_succ]
      exact draw_lit w1 (by omega) fun j hj => hk _ ⟨_, rfl, by omega, by omega⟩
    · obtain ⟨ns, rfl, hn⟩ := all2_int hds
      have hl := hn.length
      rw [List.length_range] at hl
      exact hk _ ⟨ns, rfl, hl.symm, hn.right (Q := fun r => 0 ≤ r ∧ r ≤ 12) fun _ _ z => z⟩
  · obtain ⟨R, rfl, hR⟩ := all2_of (mk := intL) (R := fun _ r => r.length = t ∧ ∀ x ∈ r, 0 ≤ x ∧ x ≤ 12) (fun _ d ⟨r, e, h⟩ => ⟨r, e, h⟩) hds
    have hl := hR.length
    rw [List.length_range] at hl
    exact h R ⟨hl.symm, hR.right (Q := fun r : List Int => r.length = t ∧ ∀ x ∈ r, 0 ≤ x ∧ x ≤ 12) fun _ _ z => z⟩
theorem Rows.tab {R : List (List Int)} (h : Rows p t R) (h1 : 1 ≤ p) (h2 : p ≤ 5) (h3 : t ≤ 9) : Tab p t R :=
  ⟨h.1, fun r hr => (h.2 r hr).1, fun r hr x hx => by have := (h.2 r hr).2 x hx; omega, h1, h2, h3⟩
theorem w_is_row {l : List D} (h : q (.bl true)) : m_is_row [.lst l] q qe := by
  simp only [m_is_row_eq, f_is_row, D.ty, isi_ll, eVar, eRd, eC, e2, dAdd, dSub, dMul, dFdiv, dMod, dPow, dII, dI0, dLtI, dLe, dGt, dGe, eAnd, eOr, eNot, eIf, eNeg, eChain, mTru, mVal, mAnd, mOr, mNot, mYes, dTru_bl, dTru_int, dTru_non, dTru_tup, dTru_lst, dIx_lst, dIx_tup, eFld, eSl, oNone, oSome, eTup, fLst, eNew, eCB, fCB, dLen, dAbs, dInt, dTuple, dList, aNil, aCons, fLstRg, eTupRg, rRg1, rRg2, eIsi, fSeq, fRg1, fRg2, fEnum, fZip, D.items, gdName, gdTup, gdCons, gdNil, sSeq, sNext, sDrop, sRet, sRetN, sIf, sAsg, sOwn, sOwnD, sStill, sPar, sAugI, sApp, sExt, sSetI, sSetH, sFor, fLc, sForD, eGetD, dOf, keyD, sMany, setAll, nNil, nSh, nOl, nOd, eCall, mBody, mInit, eMake, sSelf, sSelf2, wipeE, dSl, List.getElem?_cons_zero, List.getElem?_cons_succ, List.set_cons_zero, List.set_cons_succ, List.replicate_succ, List.replicate_zero, List.map_cons, List.map_nil, List.cons_append, List.nil_append, List.length_cons, List.length_nil, List.length_map, atI_0, atI_1, atI_2, atI_3, atI_4, atI_n, ↓reduceIte, Bool.false_eq_true, dEq_int, dNe_int, Nat.reduceAdd, Nat.zero_add, putFD, f2, dAddF, dMulF, fSl]
  exact h
theorem ne_pt : (Str.ofString "persons" = Str.ofString "things") = False := eq_false (by decide)
theorem ne_pr : (Str.ofString "persons" = Str.ofString "rows") = False := eq_false (by decide)
theorem ne_tr : (Str.ofString "things" = Str.ofString "rows") = False := eq_false (by decide)
theorem w_Table (T : Tab p t R) {qf : List (Str × D) → Prop} (h : qf [("persons", .int p), ("things", .int t), ("rows", .tup (R.map intT))]) : m_Table [.lst (R.map intL)] qf qe := by
  have hr := T.rows
  have h1 := T.p1
  have h5 := T.p5
  have h9 := T.t9
  have c1 : (1 : Int) ≤ (p : Int) := by omega
  have c2 : (p : Int) ≤ 5 := by omega
  have r0 : (R.map intL)[0]? = some (intL (R.getD 0 [])) := by
    have := row_atL T (i := 0) (by omega)
    rw [atI_n] at this
    exact this
  have l0 : (R.getD 0 []).length = t := T.cols _ (row_mem T (by omega))
  simp only [m_Table_eq, f_Table, eVar, eRd, eC, e2, dAdd, dSub, dMul, dFdiv, dMod, dPow, dII, dI0, dLtI, dLe, dGt, dGe, eAnd, eOr, eNot, eIf, eNeg, eChain, mTru, mVal, mAnd, mOr, mNot, mYes, dTru_bl, dTru_int, dTru_non, dTru_tup, dTru_lst, dIx_lst, dIx_tup, eFld, eSl, oNone, oSome, eTup, fLst, eNew, eCB, fCB, dLen, dAbs, dInt, dTuple, dList, aNil, aCons, fLstRg, eTupRg, rRg1, rRg2, eIsi, fSeq, fRg1, fRg2, fEnum, fZip, D.items, gdName, gdTup, gdCons, gdNil, sSeq, sNext, sDrop, sRet, sRetN, sIf, sAsg, sOwn, sOwnD, sStill, sPar, sAugI, sApp, sExt, sSetI, sSetH, sFor, fLc, sForD, eGetD, dOf, keyD, sMany, setAll, nNil, nSh, nOl, nOd, eCall, mBody, mInit, eMake, sSelf, sSelf2, wipeE, dSl, List.getElem?_cons_zero, List.getElem?_cons_succ, List.set_cons_zero, List.set_cons_succ, List.replicate_succ, List.replicate_zero, List.map_cons, List.map_nil, List.cons_append, List.nil_append, List.length_cons, List.length_nil, List.length_map, atI_0, atI_1, atI_2, atI_3, atI_4, atI_n, ↓reduceIte, Bool.false_eq_true, dEq_int, dNe_int, Nat.reduceAdd, Nat.zero_add, putFD, f2, dAddF, dMulF, fSl]
  intro x dx
  refine w_is_row ?_
  simp only [hr, c1, c2, decide_true, Bool.not_true, enumD_map, eVar, eRd, eC, e2, dAdd, dSub, dMul, dFdiv, dMod, dPow, dII, dI0, dLtI, dLe, dGt, dGe, eAnd, eOr, eNot, eIf, eNeg, eChain, mTru, mVal, mAnd, mOr, mNot, mYes, dTru_bl, dTru_int, dTru_non, dTru_tup, dTru_lst, dIx_lst, dIx_tup, eFld, eSl, oNone, oSome, eTup, fLst, eNew, eCB, fCB, dLen, dAbs, dInt, dTuple, dList, aNil, aCons, fLstRg, eTupRg, rRg1, rRg2, eIsi, fSeq, fRg1, fRg2, fEnum, fZip, D.items, gdName, gdTup, gdCons, gdNil, sSeq, sNext, sDrop, sRet, sRetN, sIf, sAsg, sOwn, sOwnD, sStill, sPar, sAugI, sApp, sExt, sSetI, sSetH, sFor, fLc, sForD, eGetD, dOf, keyD, sMany, setAll, nNil, nSh, nOl, nOd, eCall, mBody, mInit, eMake, sSelf, sSelf2, wipeE, dSl, List.getElem?_cons_zero, List.getElem?_cons_succ, List.set_cons_zero, List.set_cons_succ, List.replicate_succ, List.replicate_zero, List.map_cons, List.map_nil, List.cons_append, List.nil_append, List.length_cons, List.length_nil, List.length_map, atI_0, atI_1, atI_2, atI_3, atI_4, atI_n, ↓reduceIte, Bool.false_eq_true, dEq_int, dNe_int, Nat.reduceAdd, Nat.zero_add, putFD, f2, dAddF, dMulF, fSl]
  refine for_inv (fun k ρ => ∃ u2 u3, ρ = [.oo "Table" x dx [], .sh (.lst (R.map intL)), u2, u3, .no]) ⟨_, _, rfl⟩ (fun k y ρ nx hy hs hk => ?_) (fun ρ hs => ?_)
  · obtain ⟨u2, u3, rfl⟩ := hs
    obtain ⟨r, i⟩ := y
    have hmem : r ∈ R := by
      have := List.mem_of_getElem? hy
      exact List.fst_mem_of_mem_zipIdx this
    have hrl := T.cols r hmem
    have n9 : ¬ (9 : Int) < (t : Int) := by omega
    simp only [true_and, eVar, eRd, eC, e2, dAdd, dSub, dMul, dFdiv, dMod, dPow, dII, dI0, dLtI, dLe, dGt, dGe, eAnd, eOr, eNot, eIf, eNeg, eChain, mTru, mVal, mAnd, mOr, mNot, mYes, dTru_bl, dTru_int, dTru_non, dTru_tup, dTru_lst, dIx_lst, dIx_tup, eFld, eSl, oNone, oSome, eTup, fLst, eNew, eCB, fCB, dLen, dAbs, dInt, dTuple, dList, aNil, aCons, fLstRg, eTupRg, rRg1, rRg2, eIsi, fSeq, fRg1, fRg2, fEnum, fZip, D.items, gdName, gdTup, gdCons, gdNil, sSeq, sNext, sDrop, sRet, sRetN, sIf, sAsg, sOwn, sOwnD, sStill, sPar, sAugI, sApp, sExt, sSetI, sSetH, sFor, fLc, sForD, eGetD, dOf, keyD, sMany, setAll, nNil, nSh, nOl, nOd, eCall, mBody, mInit, eMake, sSelf, sSelf2, wipeE, dSl, List.getElem?_cons_zero, List.getElem?_cons_succ, List.set_cons_zero, List.set_cons_succ, List.replicate_succ, List.replicate_zero, List.map_cons, List.map_nil, List.cons_append, List.nil_append, List.length_cons, List.length_nil, List.length_map, atI_0, atI_1, atI_2, atI_3, atI_4, atI_n, ↓reduceIte, Bool.false_eq_true, dEq_int, dNe_int, Nat.reduceAdd, Nat.zero_add, putFD, f2, dAddF, dMulF, fSl]
    refine w_is_row ?_
    simp only [hrl, n9, decide_false, Bool.not_true, r0, eVar, eRd, eC, e2, dAdd, dSub, dMul, dFdiv, dMod, dPow, dII, dI0, dLtI, dLe, dGt, dGe, eAnd, eOr, eNot, eIf, eNeg, eChain, mTru, mVal, mAnd, mOr, mNot, mYes, dTru_bl, dTru_int, dTru_non, dTru_tup, dTru_lst, dIx_lst, dIx_tup, eFld, eSl, oNone, oSome, eTup, fLst, eNew, eCB, fCB, dLen, dAbs, dInt, dTuple, dList, aNil, aCons, fLstRg, eTupRg, rRg1, rRg2, eIsi, fSeq, fRg1, fRg2, fEnum, fZip, D.items, gdName, gdTup, gdCons, gdNil, sSeq, sNext, sDrop, sRet, sRetN, sIf, sAsg, sOwn, sOwnD, sStill, sPar, sAugI, sApp, sExt, sSetI, sSetH, sFor, fLc, sForD, eGetD, dOf, keyD, sMany, setAll, nNil, nSh, nOl, nOd, eCall, mBody, mInit, eMake, sSelf, sSelf2, wipeE, dSl, List.getElem?_cons_zero, List.getElem?_cons_succ, List.set_cons_zero, List.set_cons_succ, List.replicate_succ, List.replicate_zero, List.map_cons, List.map_nil, List.cons_append, List.nil_append, List.length_cons, List.length_nil, List.length_map, atI_0, atI_1, atI_2, atI_3, atI_4, atI_n, ↓reduceIte, Bool.false_eq_true, dEq_int, dNe_int, Nat.reduceAdd, Nat.zero_add, putFD, f2, dAddF, dMulF, fSl]
    refine w_is_row ?_
    simp only [l0, hrl, beq_self_eq_true, Bool.not_true, eVar, eRd, eC, e2, dAdd, dSub, dMul, dFdiv, dMod, dPow, dII, dI0, dLtI, dLe, dGt, dGe, eAnd, eOr, eNot, eIf, eNeg, eChain, mTru, mVal, mAnd, mOr, mNot, mYes, dTru_bl, dTru_int, dTru_non, dTru_tup, dTru_lst, dIx_lst, dIx_tup, eFld, eSl, oNone, oSome, eTup, fLst, eNew, eCB, fCB, dLen, dAbs, dInt, dTuple, dList, aNil, aCons, fLstRg, eTupRg, rRg1, rRg2, eIsi, fSeq, fRg1, fRg2, fEnum, fZip, D.items, gdName, gdTup, gdCons, gdNil, sSeq, sNext, sDrop, sRet, sRetN, sIf, sAsg, sOwn, sOwnD, sStill, sPar, sAugI, sApp, sExt, sSetI, sSetH, sFor, fLc, sForD, eGetD, dOf, keyD, sMany, setAll, nNil, nSh, nOl, nOd, eCall, mBody, mInit, eMake, sSelf, sSelf2, wipeE, dSl, List.getElem?_cons_zero, List.getElem?_cons_succ, List.set_cons_zero, List.set_cons_succ, List.replicate_succ, List.replicate_zero, List.map_cons, List.map_nil, List.cons_append, List.nil_append, List.length_cons, List.length_nil, List.length_map, atI_0, atI_1, atI_2, atI_3, atI_4, atI_n, ↓reduceIte, Bool.false_eq_true, dEq_int, dNe_int, Nat.reduceAdd, Nat.zero_add, putFD, f2, dAddF, dMulF, fSl]
    refine ⟨small (by omega), lc_map (fun x => .bl true) (fun c hc k' hk' => ?_) ?_⟩
    · have := T.low r hmem c hc
      simp only [eVar, eRd, eC, e2, dAdd, dSub, dMul, dFdiv, dMod, dPow, dII, dI0, dLtI, dLe, dGt, dGe, eAnd, eOr, eNot, eIf, eNeg, eChain, mTru, mVal, mAnd, mOr, mNot, mYes, dTru_bl, dTru_int, dTru_non, dTru_tup, dTru_lst, dIx_lst, dIx_tup, eFld, eSl, oNone, oSome, eTup, fLst, eNew, eCB, fCB, dLen, dAbs, dInt, dTuple, dList, aNil, aCons, fLstRg, eTupRg, rRg1, rRg2, eIsi, fSeq, fRg1, fRg2, fEnum, fZip, D.items, gdName, gdTup, gdCons, gdNil, sSeq, sNext, sDrop, sRet, sRetN, sIf, sAsg, sOwn, sOwnD, sStill, sPar, sAugI, sApp, sExt, sSetI, sSetH, sFor, fLc, sForD, eGetD, dOf, keyD, sMany, setAll, nNil, nSh, nOl, nOd, eCall, mBody, mInit, eMake, sSelf, sSelf2, wipeE, dSl, List.getElem?_cons_zero, List.getElem?_cons_succ, List.set_cons_zero, List.set_cons_succ, List.replicate_succ, List.replicate_zero, List.map_cons, List.map_nil, List.cons_append, List.nil_append, List.length_cons, List.length_nil, List.length_map, atI_0, atI_1, atI_2, atI_3, atI_4, atI_n, ↓reduceIte, Bool.false_eq_true, dEq_int, dNe_int, Nat.reduceAdd, Nat.zero_add, putFD, f2, dAddF, dMulF, fSl]
      refine w_is_within ?_
      rw [decide_eq_true (by omega : (-100 : Int) ≤ c), decide_eq_true (by omega : (c : Int) ≤ 100)]
      exact hk'
    · rw [dAll_map, List.all_eq_true.mpr (fun _ _ => rfl)]
      simp only [Bool.not_true, eVar, eRd, eC, e2, dAdd, dSub, dMul, dFdiv, dMod, dPow, dII, dI0, dLtI, dLe, dGt, dGe, eAnd, eOr, eNot, eIf, eNeg, eChain, mTru, mVal, mAnd, mOr, mNot, mYes, dTru_bl, dTru_int, dTru_non, dTru_tup, dTru_lst, dIx_lst, dIx_tup, eFld, eSl, oNone, oSome, eTup, fLst, eNew, eCB, fCB, dLen, dAbs, dInt, dTuple, dList, aNil, aCons, fLstRg, eTupRg, rRg1, rRg2, eIsi, fSeq, fRg1, fRg2, fEnum, fZip, D.items, gdName, gdTup, gdCons, gdNil, sSeq, sNext, sDrop, sRet, sRetN, sIf, sAsg, sOwn, sOwnD, sStill, sPar, sAugI, sApp, sExt, sSetI, sSetH, sFor, fLc, sForD, eGetD, dOf, keyD, sMany, setAll, nNil, nSh, nOl, nOd, eCall, mBody, mInit, eMake, sSelf, sSelf2, wipeE, dSl, List.getElem?_cons_zero, List.getElem?_cons_succ, List.set_cons_zero, List.set_cons_succ, List.replicate_succ, List.replicate_zero, List.map_cons, List.map_nil, List.cons_append, List.nil_append, List.length_cons, List.length_nil, List.length_map, atI_0, atI_1, atI_2, atI_3, atI_4, atI_n, ↓reduceIte, Bool.false_eq_true, dEq_int, dNe_int, Nat.reduceAdd, Nat.zero_add, putFD, f2, dAddF, dMulF, fSl]
      exact hk _ ⟨_, _, rfl⟩
  · obtain ⟨u2, u3, rfl⟩ := hs
    simp only [hr, r0, l0, ne_pt, ne_pr, ne_tr, eVar, eRd, eC, e2, dAdd, dSub, dMul, dFdiv, dMod, dPow, dII, dI0, dLtI, dLe, dGt, dGe, eAnd, eOr, eNot, eIf, eNeg, eChain, mTru, mVal, mAnd, mOr, mNot, mYes, dTru_bl, dTru_int, dTru_non, dTru_tup, dTru_lst, dIx_lst, dIx_tup, eFld, eSl, oNone, oSome, eTup, fLst, eNew, eCB, fCB, dLen, dAbs, dInt, dTuple, dList, aNil, aCons, fLstRg, eTupRg, rRg1, rRg2, eIsi, fSeq, fRg1, fRg2, fEnum, fZip, D.items, gdName, gdTup, gdCons, gdNil, sSeq, sNext, sDrop, sRet, sRetN, sIf, sAsg, sOwn, sOwnD, sStill, sPar, sAugI, sApp, sExt, sSetI, sSetH, sFor, fLc, sForD, eGetD, dOf, keyD, sMany, setAll, nNil, nSh, nOl, nOd, eCall, mBody, mInit, eMake, sSelf, sSelf2, wipeE, dSl, List.getElem?_cons_zero, List.getElem?_cons_succ, List.set_cons_zero, List.set_cons_succ, List.replicate_succ, List.replicate_zero, List.map_cons, List.map_nil, List.cons_append, List.nil_append, List.length_cons, List.length_nil, List.length_map, atI_0, atI_1, atI_2, atI_3, atI_4, atI_n, ↓reduceIte, Bool.false_eq_true, dEq_int, dNe_int, Nat.reduceAdd, Nat.zero_add, putFD, f2, dAddF, dMulF, fSl]
    refine ⟨trivial, by decide, by decide, small (by omega), lc_map intT (fun r _ k hk => ?_) ⟨trivial, by decide, _, rfl, h⟩⟩
    simp only [eVar, eRd, eC, e2, dAdd, dSub, dMul, dFdiv, dMod, dPow, dII, dI0, dLtI, dLe, dGt, dGe, eAnd, eOr, eNot, eIf, eNeg, eChain, mTru, mVal, mAnd, mOr, mNot, mYes, dTru_bl, dTru_int, dTru_non, dTru_tup, dTru_lst, dIx_lst, dIx_tup, eFld, eSl, oNone, oSome, eTup, fLst, eNew, eCB, fCB, dLen, dAbs, dInt, dTuple, dList, aNil, aCons, fLstRg, eTupRg, rRg1, rRg2, eIsi, fSeq, fRg1, fRg2, fEnum, fZip, D.items, gdName, gdTup, gdCons, gdNil, sSeq, sNext, sDrop, sRet, sRetN, sIf, sAsg, sOwn, sOwnD, sStill, sPar, sAugI, sApp, sExt, sSetI, sSetH, sFor, fLc, sForD, eGetD, dOf, keyD, sMany, setAll, nNil, nSh, nOl, nOd, eCall, mBody, mInit, eMake, sSelf, sSelf2, wipeE, dSl, List.getElem?_cons_zero, List.getElem?_cons_succ, List.set_cons_zero, List.set_cons_succ, List.replicate_succ, List.replicate_zero, List.map_cons, List.map_nil, List.cons_append, List.nil_append, List.length_cons, List.length_nil, List.length_map, atI_0, atI_1, atI_2, atI_3, atI_4, atI_n, ↓reduceIte, Bool.false_eq_true, dEq_int, dNe_int, Nat.reduceAdd, Nat.zero_add, putFD, f2, dAddF, dMulF, fSl]
    exact hk
/-! ### the bag -/
structure BS where
  left : List Nat
  bag : List Nat
  don : List (Nat × List Nat)
def goodB (R : List (List Int)) (G : List Int) (left bag : List Nat) : List Nat := left.filter fun i => decide (G.getD i 0 ≤ (bag.map (W R i)).sum)
def bstep (R : List (List Int)) (G : List Int) (s : BS) (one : Nat) : BS :=
  match goodB R G s.left (s.bag ++ [one]) with
  | [] => ⟨s.left, s.bag ++ [one], s.don⟩
  | g :: _ => if 1 < s.left.length then ⟨s.left.erase g, [], s.don ++ [(g, s.bag ++ [one])]⟩ else ⟨s.left, s.bag ++ [one], s.don⟩
def bst (R : List (List Int)) (G : List Int) (p k : Nat) : BS := (List.range k).foldl (bstep R G) ⟨List.range p, [], []⟩
structure BInv (p k : Nat) (s : BS) : Prop where
  per : (s.don.map (·.1) ++ s.left).Perm (List.range p)
  fl : (s.don.map (·.2)).flatten ++ s.bag = List.range k
  one : 1 ≤ s.left.length
theorem bst_succ (R : List (List Int)) (G : List Int) (p k : Nat) : bst R G p (k + 1) = bstep R G (bst R G p k) k := by
  unfold bst
  rw [List.range_succ, List.foldl_append]
  rfl
theorem goodB_sub {R : List (List Int)} {G : List Int} {left bag : List Nat} {g : Nat} {r : List Nat} (h : goodB R G left bag = g :: r) : g ∈ left := by
  have : g ∈ goodB R G left bag := by rw [h]; exact List.mem_cons_self ..
  exact (List.mem_filter.mp this).1
theorem bst_inv (R : List (List Int)) (G : List Int) {p : Nat} (hp : 1 ≤ p) : ∀ k, BInv p k (bst R G p k)
  | 0 => ⟨List.Perm.refl _, rfl, by show 1 ≤ (List.range p).length; rw [List.length_range]; exact hp⟩
  | k + 1 => by
    have ih := bst_inv R G hp k
    rw [bst_succ]
    generalize bst R G p k = s at ih ⊢
    unfold bstep
    have hf : (s.don.map (·.2)).flatten ++ (s.bag ++ [k]) = List.range (k + 1) := by rw [← List.append_assoc, ih.fl, List.range_succ]
    split
    · exact ⟨ih.per, hf, ih.one⟩
    · rename_i g r hg
      by_cases h1 : 1 < s.left.length
      · rw [if_pos h1]
        have hm := goodB_sub hg
        refine ⟨?_, ?_, ?_⟩
        · show ((s.don ++ [(g, s.bag ++ [k])]).map (·.1) ++ s.left.erase g).Perm _
          rw [List.map_append, List.append_assoc]
          exact (List.Perm.append_left _ (List.perm_cons_erase hm).symm).trans ih.per
        · show ((s.don ++ [(g, s.bag ++ [k])]).map (·.2)).flatten ++ [] = _
          rw [List.map_append, List.flatten_append, List.append_nil]
          show _ ++ ([s.bag ++ [k]]).flatten = _
          rw [List.flatten_singleton]
          exact hf
        · show 1 ≤ (s.left.erase g).length
          rw [List.length_erase_of_mem hm]
          omega
      · rw [if_neg h1]
        exact ⟨ih.per, hf, ih.one⟩
def fillB (ds : List D) (e : Nat × List Nat) : List D := e.2.foldl (fun ds j => ds.set j (.int (e.1 : Nat))) ds
def fill (t : Nat) (don : List (Nat × List Nat)) : List D := don.foldl fillB (List.replicate t .non)
theorem fillB_len (e : Nat × List Nat) (ds : List D) : (fillB ds e).length = ds.length := by
  unfold fillB
  generalize e.2 = l
  induction l generalizing ds with
  | nil => rfl
  | cons x xs ih => rw [List.foldl_cons, ih, List.length_set]
theorem fillB_get (e : Nat × List Nat) (ds : List D) {j : Nat} (hj : j < ds.length) : (fillB ds e)[j]? = if j ∈ e.2 then some (.int (e.1 : Nat)) else ds[j]? := by
  unfold fillB
  generalize e.2 = l
  induction l generalizing ds with
  | nil => simp
  | cons x xs ih =>
    rw [List.foldl_cons, ih _ (by rw [List.length_set]; exact hj)]
    by_cases h : j ∈ xs
    · rw [if_pos h, if_pos (List.mem_cons_of_mem _ h)]
    · rw [if_neg h]
      by_cases hx : x = j
      · subst hx
        rw [if_pos (List.mem_cons_self ..), List.getElem?_set_self hj]
      · rw [List.getElem?_set_ne hx, if_neg]
        intro hm
        rcases List.mem_cons.mp hm with e | e
        · exact hx e.symm
        · exact h e
def own (don : List (Nat × List Nat)) (o j : Nat) : Nat := don.foldl (fun o e => if j ∈ e.2 then e.1 else o) o
theorem own_irrel {j : Nat} : ∀ {don : List (Nat × List Nat)} {o o' : Nat}, j ∈ (don.map (·.2)).flatten → own don o j = own don o' j
  | [], _, _, h => by simp at h
  | e :: es, o, o', h => by
    show own es (if j ∈ e.2 then e.1 else o) j = own es (if j ∈ e.2 then e.1 else o') j
    by_cases hj : j ∈ e.2
    · rw [if_pos hj, if_pos hj]
    · rw [if_neg hj, if_neg hj]
      rw [List.map_cons, List.flatten_cons, List.mem_append] at h
      exact own_irrel (h.resolve_left hj)
theorem own_mem {j : Nat} : ∀ {don : List (Nat × List Nat)} {o : Nat}, j ∈ (don.map (·.2)).flatten → ∃ b, (own don o j, b) ∈ don ∧ j ∈ b
  | [], _, h => by simp at h
  | e :: es, o, h => by
    show ∃ b, (own es (if j ∈ e.2 then e.1 else o) j, b) ∈ e :: es ∧ j ∈ b
    by_cases hs : j ∈ (es.map (·.2)).flatten
    · obtain ⟨b, hb, hj⟩ := own_mem (o := if j ∈ e.2 then e.1 else o) hs
      exact ⟨b, List.mem_cons_of_mem _ hb, hj⟩
    · rw [List.map_cons, List.flatten_cons, List.mem_append] at h
      have hj := h.resolve_right hs
      have key : ∀ (ds : List (Nat × List Nat)) (o : Nat), j ∉ (ds.map (·.2)).flatten → own ds o j = o := by
        intro ds
        induction ds with
        | nil => intro o _; rfl
        | cons x xs ih =>
          intro o hn
          rw [List.map_cons, List.flatten_cons, List.mem_append] at hn
          show own xs (if j ∈ x.2 then x.1 else o) j = o
          rw [if_neg (fun z => hn (.inl z))]
          exact ih o (fun z => hn (.inr z))
      rw [key es _ hs, if_pos hj]
      exact ⟨e.2, List.mem_cons_self .., hj⟩
theorem fold_len : ∀ (don : List (Nat × List Nat)) (ds : List D), (don.foldl fillB ds).length = ds.length
  | [], _ => rfl
  | e :: es, ds => by rw [List.foldl_cons, fold_len es, fillB_len]
theorem fold_get {j : Nat} : ∀ {don : List (Nat × List Nat)} {ds : List D} (o : Nat), j < ds.length → (don.foldl fillB ds)[j]? = if j ∈ (don.map (·.2)).flatten then some (.int (own don o j : Nat)) else ds[j]?
  | [], ds, _, _ => by simp
  | e :: es, ds, o, h => by
    rw [List.foldl_cons, fold_get (don := es) (if j ∈ e.2 then e.1 else o) (by rw [fillB_len]; exact h), fillB_get e ds h, List.map_cons, List.flatten_cons]
    by_cases hs : j ∈ (es.map (·.2)).flatten
    · rw [if_pos hs, if_pos (List.mem_append_right _ hs)]
      rfl
    · rw [if_neg hs]
      by_cases hj : j ∈ e.2
      · rw [if_pos hj, if_pos (List.mem_append_left _ hj)]
        have key : ∀ (ds : List (Nat × List Nat)) (o : Nat), j ∉ (ds.map (·.2)).flatten → own ds o j = o := by
          intro ds
          induction ds with
          | nil => intro o _; rfl
          | cons x xs ih =>
            intro o hn
            rw [List.map_cons, List.flatten_cons, List.mem_append] at hn
            show own xs (if j ∈ x.2 then x.1 else o) j = o
            rw [if_neg (fun z => hn (.inl z))]
            exact ih o (fun z => hn (.inr z))
        show _ = some (D.int ((own es (if j ∈ e.2 then e.1 else o) j : Nat) : Int))
        rw [key es _ hs, if_pos hj]
      · rw [if_neg hj, if_neg]
        intro hm
        rcases List.mem_append.mp hm with z | z
        · exact hj z
        · exact hs z
theorem fill_len (t : Nat) (don : List (Nat × List Nat)) : (fill t don).length = t := by unfold fill; rw [fold_len, List.length_replicate]
theorem fill_get {t j : Nat} (don : List (Nat × List Nat)) (h : j < t) : (fill t don)[j]? = if j ∈ (don.map (·.2)).flatten then some (.int (own don 0 j : Nat)) else some .non := by
  unfold fill
  rw [fold_get 0 (by rw [List.length_replicate]; exact h), List.getElem?_replicate, if_pos h]
/-- the persons' deal -/
def due (t : Nat) (don : List (Nat × List Nat)) : List Nat := (List.range t).map (own don 0)
theorem fill_all {t : Nat} {don : List (Nat × List Nat)} (h : (don.map (·.2)).flatten = List.range t) : fill t don = (due t don).map natI := by
  apply List.ext_getElem?
  intro j
  by_cases hj : j < t
  · rw [fill_get don hj, h, if_pos (List.mem_range.mpr hj)]
    unfold due
    rw [List.map_map, List.getElem?_map, List.getElem?_range hj]
    rfl
  · rw [List.getElem?_eq_none (by rw [fill_len]; omega), List.getElem?_eq_none (by unfold due; rw [List.length_map, List.length_map, List.length_range]; omega)]
theorem pair_unique : ∀ {l : List (Nat × List Nat)} {i : Nat} {b b' : List Nat}, (l.map (·.1)).Nodup → (i, b) ∈ l → (i, b') ∈ l → b = b'
  | [], _, _, _, _, h, _ => by cases h
  | x :: xs, i, b, b', hn, h, h' => by
    rw [List.map_cons, List.nodup_cons] at hn
    rcases List.mem_cons.mp h with e | e
    · rcases List.mem_cons.mp h' with e' | e'
      · exact (Prod.mk.inj (e.trans e'.symm)).2
      · exact absurd (List.mem_map.mpr ⟨_, e', by rw [← e]⟩) hn.1
    · rcases List.mem_cons.mp h' with e' | e'
      · exact absurd (List.mem_map.mpr ⟨_, e, by rw [← e']⟩) hn.1
      · exact pair_unique hn.2 e e'
theorem lot_due {t : Nat} {don : List (Nat × List Nat)} (h : (don.map (·.2)).flatten = List.range t) (hn : (don.map (·.1)).Nodup) {i : Nat} {b : List Nat} (hm : (i, b) ∈ don) : lotOf t (due t don) i = b := by
  obtain ⟨A, B, rfl⟩ := List.append_of_mem hm
  have hs : (List.range t).Pairwise (· < ·) := List.pairwise_lt_range
  have e : (A.map (·.2)).flatten ++ (b ++ (B.map (·.2)).flatten) = List.range t := by
    rw [← h, List.map_append, List.map_cons, List.flatten_append, List.flatten_cons]
  have hs' := hs
  rw [← e, List.pairwise_append] at hs'
  obtain ⟨_, hb, hab⟩ := hs'
  rw [List.pairwise_append] at hb
  obtain ⟨_, _, hbc⟩ := hb
  have key : ∀ j ∈ List.range t, ((due t (A ++ (i, b) :: B)).getD j 0 == i) = decide (j ∈ b) := by
    intro j hj
    have hj' := List.mem_range.mp hj
    have hd : (due t (A ++ (i, b) :: B)).getD j 0 = own (A ++ (i, b) :: B) 0 j := by
      unfold due
      rw [List.getD_eq_getElem?_getD, List.getElem?_map, List.getElem?_range hj']
      rfl
    rw [hd]
    have hjf : j ∈ (((A ++ (i, b) :: B)).map (·.2)).flatten := by rw [h]; exact hj
    obtain ⟨b', hb', hjb'⟩ := own_mem (o := 0) hjf
    rw [Bool.eq_iff_iff, beq_iff_eq, decide_eq_true_eq]
    constructor
    · intro e
      rw [e] at hb'
      rw [pair_unique hn hm hb']
      exact hjb'
    · intro hjb
      rcases List.mem_append.mp hb' with z | z
      · have : j ∈ (A.map (·.2)).flatten := List.mem_flatten.mpr ⟨b', List.mem_map.mpr ⟨_, z, rfl⟩, hjb'⟩
        exact absurd (hab j this j (List.mem_append_left _ hjb)) (Nat.lt_irrefl _)
      · rcases List.mem_cons.mp z with z | z
        · exact (Prod.mk.inj z).1
        · have : j ∈ (B.map (·.2)).flatten := List.mem_flatten.mpr ⟨b', List.mem_map.mpr ⟨_, z, rfl⟩, hjb'⟩
          exact absurd (hbc j hjb j this) (Nat.lt_irrefl _)
  unfold lotOf
  rw [List.filter_congr key, ← e, List.filter_append, List.filter_append]
  rw [List.filter_eq_nil_iff.mpr (fun j hj => by rw [decide_eq_true_eq]; exact fun z => absurd (hab j hj j (List.mem_append_left _ z)) (Nat.lt_irrefl _))]
  rw [List.filter_eq_self.mpr (fun j hj => decide_eq_true hj)]
  rw [List.filter_eq_nil_iff.mpr (fun j hj => by rw [decide_eq_true_eq]; exact fun z => absurd (hbc j z j hj) (Nat.lt_irrefl _))]
  rw [List.nil_append, List.append_nil]
theorem due_deal {p t : Nat} (hp : 1 ≤ p) {don : List (Nat × List Nat)} (h : (don.map (·.2)).flatten = List.range t) (hl : ∀ e ∈ don, e.1 < p) : Deal p t (due t don) := by
  refine ⟨by unfold due; rw [List.length_map, List.length_range], fun x hx => ?_⟩
  obtain ⟨j, hj, rfl⟩ := List.mem_map.mp hx
  obtain ⟨b, hb, _⟩ := own_mem (don := don) (o := 0) (by rw [h]; exact hj)
  exact hl _ hb
/-! ### the bag, read -/
def kvsOf (don : List (Nat × List Nat)) : List (Key × D) := don.map fun e => ((.inl (e.1 : Int) : Key), D.lst (e.2.map natI))
theorem kvs_snoc (don : List (Nat × List Nat)) (g : Nat) (b : List Nat) : kvsOf (don ++ [(g, b)]) = kvsOf don ++ [(.inl (g : Int), .lst (b.map natI))] := by
  unfold kvsOf
  rw [List.map_append]
  rfl
theorem snocL (l : List Nat) (x : Nat) : l.map natI ++ [D.int (x : Int)] = (l ++ [x]).map natI := by rw [List.map_append]; rfl
theorem ints_natI (l : List Nat) : D.ints (l.map natI) = some (l.map fun n : Nat => (n : Int)) := ints_nat l
theorem natI_cast (l : List Nat) : (l.map fun n : Nat => (n : Int)).map D.int = l.map natI := by rw [List.map_map]; rfl
theorem BInv.lenL {k : Nat} {s : BS} (h : BInv p k s) : s.don.length + s.left.length = p := by
  have := h.per.length_eq
  rwa [List.length_append, List.length_map, List.length_range] at this
theorem BInv.lenB {k : Nat} {s : BS} (h : BInv p k s) : s.bag.length ≤ k := by
  have := congrArg List.length h.fl
  rw [List.length_append, List.length_range] at this
  omega
theorem BInv.lt {k : Nat} {s : BS} (h : BInv p k s) : ∀ i ∈ s.left, i < p := fun i hi => List.mem_range.mp (h.per.mem_iff.mp (List.mem_append_right _ hi))
theorem BInv.bagLt {k : Nat} {s : BS} (h : BInv p k s) : ∀ i ∈ s.bag, i < k := fun i hi => List.mem_range.mp (by rw [← h.fl]; exact List.mem_append_right _ hi)
theorem BInv.fresh {k : Nat} {s : BS} (h : BInv p k s) {g : Nat} (hg : g ∈ s.left) : ∀ e ∈ s.don, e.1 ≠ g := by
  intro e he eq
  have hn : (s.don.map (·.1) ++ s.left).Nodup := h.per.nodup_iff.mpr List.nodup_range
  rw [List.nodup_append] at hn
  exact hn.2.2 e.1 (List.mem_map.mpr ⟨e, he, rfl⟩) g hg eq
theorem okq_natL (l : List Nat) : (D.lst (l.map natI)).okq = true := okq_deep (n := 1) (by omega) (deep_lst (deeps_map fun _ _ => deep_int _ _))
theorem dNe_nilL (l : List D) (h : (D.lst l).okq = true) (q : D → Prop) : dNe (.lst l) (.lst []) q = q (.bl (!l.isEmpty)) := by
  unfold dNe
  rw [eqv_nil, h]
  exact propext ⟨fun z => z.2, fun z => ⟨⟨rfl, rfl⟩, z⟩⟩
theorem rgOk_small {n : Nat} (h : n ≤ 1000) : RgOk 0 (n : Int) := .of_le (by omega) (by omega) (by omega) (by omega)
theorem cell_get {r : List Int} {j : Nat} (h : j < r.length) : (r.map D.int)[j]? = some (.int (r.getD j 0)) := by
  rw [← cell_of h, atI_n]
theorem BInv.nod {k : Nat} {s : BS} (h : BInv p k s) {l : Nat} (hl : s.left = [l]) : ((s.don ++ [(l, s.bag)]).map (·.1)).Nodup := by
  have hn : (s.don.map (·.1) ++ s.left).Nodup := h.per.nodup_iff.mpr List.nodup_range
  rw [hl] at hn
  rw [List.map_append]
  exact hn
theorem BInv.flat {k : Nat} {s : BS} (h : BInv p k s) {l : Nat} : ((s.don ++ [(l, s.bag)]).map (·.2)).flatten = List.range k := by
  rw [List.map_append, List.flatten_append]
  show _ ++ ([s.bag]).flatten = _
  rw [List.flatten_singleton]
  exact h.fl
theorem BInv.mem {k : Nat} {s : BS} (h : BInv p k s) {l : Nat} (hl : s.left = [l]) {i : Nat} : i ∈ ((s.don ++ [(l, s.bag)]).map (·.1)) ↔ i < p := by
  have := h.per.mem_iff (a := i)
  rw [hl, List.mem_range] at this
  rw [List.map_append]
  exact this
theorem getD_kvs {don : List (Nat × List Nat)} {i : Nat} {b : List Nat} (hn : (don.map (·.1)).Nodup) (hm : (i, b) ∈ don) : getD' (kvsOf don) (.inl (i : Int)) = some (.lst (b.map natI)) := by
  induction don with
  | nil => cases hm
  | cons x xs ih =>
    rw [List.map_cons, List.nodup_cons] at hn
    unfold getD' kvsOf
    rw [List.map_cons, List.find?_cons]
    rcases List.mem_cons.mp hm with e | e
    · subst e
      rw [decide_eq_true rfl]
      rfl
    · have : ¬ ((Sum.inl (x.1 : Int) : Key) = .inl (i : Int)) := by
        intro z
        have z' : (x.1 : Int) = (i : Int) := Sum.inl.inj z
        exact hn.1 (List.mem_map.mpr ⟨_, e, by show i = x.1; omega⟩)
      rw [decide_eq_false this]
      exact ih hn.2 e
theorem rep_flat : ∀ n : Nat, (List.replicate n [D.non]).flatten = List.replicate n D.non
  | 0 => rfl
  | n + 1 => by rw [List.replicate_succ, List.flatten_cons, rep_flat n]; rfl
theorem w_bag_filled (T : Tab p t R) {G : List Int} (hG : G.length = p) (h0 : 1 < (bst R G p t).left.length → q .non)
    (h1 : ∀ l, (bst R G p t).left = [l] → q (.tup [nats (due t ((bst R G p t).don ++ [(l, (bst R G p t).bag)])), .tup ((List.range p).map fun i => nats (lotOf t (due t ((bst R G p t).don ++ [(l, (bst R G p t).bag)])) i))])) :
    m_bag_filled [tab p t R, intL G] q qe := by
  have ht := T.t9
  have hp := T.p5
  have hp1 := T.p1
  simp only [m_bag_filled_eq, f_bag_filled, tab, lk_p, lk_t, inT, true_and, rgD_0, eVar, eRd, eC, e2, dAdd, dSub, dMul, dFdiv, dMod, dPow, dII, dI0, dLtI, dLe, dGt, dGe, eAnd, eOr, eNot, eIf, eNeg, eChain, mTru, mVal, mAnd, mOr, mNot, mYes, dTru_bl, dTru_int, dTru_non, dTru_tup, dTru_lst, dIx_lst, dIx_tup, eFld, eSl, oNone, oSome, eTup, fLst, eNew, eCB, fCB, dLen, dAbs, dInt, dTuple, dList, aNil, aCons, fLstRg, eTupRg, rRg1, rRg2, eIsi, fSeq, fRg1, fRg2, fEnum, fZip, D.items, gdName, gdTup, gdCons, gdNil, sSeq, sNext, sDrop, sRet, sRetN, sIf, sAsg, sOwn, sOwnD, sStill, sPar, sAugI, sApp, sExt, sSetI, sSetH, sFor, fLc, sForD, eGetD, dOf, keyD, sMany, setAll, nNil, nSh, nOl, nOd, eCall, mBody, mInit, eMake, sSelf, sSelf2, wipeE, dSl, List.getElem?_cons_zero, List.getElem?_cons_succ, List.set_cons_zero, List.set_cons_succ, List.replicate_succ, List.replicate_zero, List.map_cons, List.map_nil, List.cons_append, List.nil_append, List.length_cons, List.length_nil, List.length_map, atI_0, atI_1, atI_2, atI_3, atI_4, atI_n, ↓reduceIte, Bool.false_eq_true, dEq_int, dNe_int, Nat.reduceAdd, Nat.zero_add, putFD, f2, dAddF, dMulF, fSl]
  refine ⟨rgOk_small (by omega), by decide, rgB_small (by omega), ?_⟩
  refine for_rng (fun k ρ => ∃ A B C e5 e6, A = (bst R G p k).left.map natI ∧ B = kvsOf (bst R G p k).don ∧ C = (bst R G p k).bag.map natI ∧ ρ = [.sh (tab p t R), .sh (intL G), .ol A, .od B, .ol C, e5, e6, .no, .no, .no])
    ⟨_, _, _, _, _, rfl, rfl, rfl, rfl⟩ (fun k ρ nx hk hs hn => ?_) (fun ρ hs => ?_)
  · obtain ⟨A, B, C, e5, e6, rfl, rfl, rfl, rfl⟩ := hs
    have inv := bst_inv R G hp1 k
    rw [bst_succ] at hn
    generalize bst R G p k = s at inv hn ⊢
    have l1 := inv.lenL
    have l2 := inv.lenB
    simp only [snocL, eVar, eRd, eC, e2, dAdd, dSub, dMul, dFdiv, dMod, dPow, dII, dI0, dLtI, dLe, dGt, dGe, eAnd, eOr, eNot, eIf, eNeg, eChain, mTru, mVal, mAnd, mOr, mNot, mYes, dTru_bl, dTru_int, dTru_non, dTru_tup, dTru_lst, dIx_lst, dIx_tup, eFld, eSl, oNone, oSome, eTup, fLst, eNew, eCB, fCB, dLen, dAbs, dInt, dTuple, dList, aNil, aCons, fLstRg, eTupRg, rRg1, rRg2, eIsi, fSeq, fRg1, fRg2, fEnum, fZip, D.items, gdName, gdTup, gdCons, gdNil, sSeq, sNext, sDrop, sRet, sRetN, sIf, sAsg, sOwn, sOwnD, sStill, sPar, sAugI, sApp, sExt, sSetI, sSetH, sFor, fLc, sForD, eGetD, dOf, keyD, sMany, setAll, nNil, nSh, nOl, nOd, eCall, mBody, mInit, eMake, sSelf, sSelf2, wipeE, dSl, List.getElem?_cons_zero, List.getElem?_cons_succ, List.set_cons_zero, List.set_cons_succ, List.replicate_succ, List.replicate_zero, List.map_cons, List.map_nil, List.cons_append, List.nil_append, List.length_cons, List.length_nil, List.length_map, atI_0, atI_1, atI_2, atI_3, atI_4, atI_n, ↓reduceIte, Bool.false_eq_true, dEq_int, dNe_int, Nat.reduceAdd, Nat.zero_add, putFD, f2, dAddF, dMulF, fSl]
    refine ⟨Nat.lt_of_lt_of_le (by omega : s.bag.length < 100) (by decide), small (by omega), lc_filter (fun i => decide (G.getD i 0 ≤ ((s.bag ++ [k]).map (W R i)).sum)) natI (fun i hi k1 k2 c1 c2 => ?_) ?_⟩
    · have hip := inv.lt i hi
      simp only [snocL, eVar, eRd, eC, e2, dAdd, dSub, dMul, dFdiv, dMod, dPow, dII, dI0, dLtI, dLe, dGt, dGe, eAnd, eOr, eNot, eIf, eNeg, eChain, mTru, mVal, mAnd, mOr, mNot, mYes, dTru_bl, dTru_int, dTru_non, dTru_tup, dTru_lst, dIx_lst, dIx_tup, eFld, eSl, oNone, oSome, eTup, fLst, eNew, eCB, fCB, dLen, dAbs, dInt, dTuple, dList, aNil, aCons, fLstRg, eTupRg, rRg1, rRg2, eIsi, fSeq, fRg1, fRg2, fEnum, fZip, D.items, gdName, gdTup, gdCons, gdNil, sSeq, sNext, sDrop, sRet, sRetN, sIf, sAsg, sOwn, sOwnD, sStill, sPar, sAugI, sApp, sExt, sSetI, sSetH, sFor, fLc, sForD, eGetD, dOf, keyD, sMany, setAll, nNil, nSh, nOl, nOd, eCall, mBody, mInit, eMake, sSelf, sSelf2, wipeE, dSl, List.getElem?_cons_zero, List.getElem?_cons_succ, List.set_cons_zero, List.set_cons_succ, List.replicate_succ, List.replicate_zero, List.map_cons, List.map_nil, List.cons_append, List.nil_append, List.length_cons, List.length_nil, List.length_map, atI_0, atI_1, atI_2, atI_3, atI_4, atI_n, ↓reduceIte, Bool.false_eq_true, dEq_int, dNe_int, Nat.reduceAdd, Nat.zero_add, putFD, f2, dAddF, dMulF, fSl]
      refine ⟨small (by rw [List.length_append]; simp; omega), lc_map (fun j => .int (W R i j)) (fun j hj q hq => ?_) ?_⟩
      · have hjt : j < t := by
          rcases List.mem_append.mp hj with z | z
          · have := inv.bagLt j z
            omega
          · rw [List.mem_singleton] at z
            omega
        simp only [tab, lk_r, inT, true_and, row_at T hip, cell_at T hip hjt, eVar, eRd, eC, e2, dAdd, dSub, dMul, dFdiv, dMod, dPow, dII, dI0, dLtI, dLe, dGt, dGe, eAnd, eOr, eNot, eIf, eNeg, eChain, mTru, mVal, mAnd, mOr, mNot, mYes, dTru_bl, dTru_int, dTru_non, dTru_tup, dTru_lst, dIx_lst, dIx_tup, eFld, eSl, oNone, oSome, eTup, fLst, eNew, eCB, fCB, dLen, dAbs, dInt, dTuple, dList, aNil, aCons, fLstRg, eTupRg, rRg1, rRg2, eIsi, fSeq, fRg1, fRg2, fEnum, fZip, D.items, gdName, gdTup, gdCons, gdNil, sSeq, sNext, sDrop, sRet, sRetN, sIf, sAsg, sOwn, sOwnD, sStill, sPar, sAugI, sApp, sExt, sSetI, sSetH, sFor, fLc, sForD, eGetD, dOf, keyD, sMany, setAll, nNil, nSh, nOl, nOd, eCall, mBody, mInit, eMake, sSelf, sSelf2, wipeE, dSl, List.getElem?_cons_zero, List.getElem?_cons_succ, List.set_cons_zero, List.set_cons_succ, List.replicate_succ, List.replicate_zero, List.map_cons, List.map_nil, List.cons_append, List.nil_append, List.length_cons, List.length_nil, List.length_map, atI_0, atI_1, atI_2, atI_3, atI_4, atI_n, ↓reduceIte, Bool.false_eq_true, dEq_int, dNe_int, Nat.reduceAdd, Nat.zero_add, putFD, f2, dAddF, dMulF, fSl]
        exact hq
      · simp only [dSum_map, cell_get (by rw [hG]; exact hip : i < G.length), eVar, eRd, eC, e2, dAdd, dSub, dMul, dFdiv, dMod, dPow, dII, dI0, dLtI, dLe, dGt, dGe, eAnd, eOr, eNot, eIf, eNeg, eChain, mTru, mVal, mAnd, mOr, mNot, mYes, dTru_bl, dTru_int, dTru_non, dTru_tup, dTru_lst, dIx_lst, dIx_tup, eFld, eSl, oNone, oSome, eTup, fLst, eNew, eCB, fCB, dLen, dAbs, dInt, dTuple, dList, aNil, aCons, fLstRg, eTupRg, rRg1, rRg2, eIsi, fSeq, fRg1, fRg2, fEnum, fZip, D.items, gdName, gdTup, gdCons, gdNil, sSeq, sNext, sDrop, sRet, sRetN, sIf, sAsg, sOwn, sOwnD, sStill, sPar, sAugI, sApp, sExt, sSetI, sSetH, sFor, fLc, sForD, eGetD, dOf, keyD, sMany, setAll, nNil, nSh, nOl, nOd, eCall, mBody, mInit, eMake, sSelf, sSelf2, wipeE, dSl, List.getElem?_cons_zero, List.getElem?_cons_succ, List.set_cons_zero, List.set_cons_succ, List.replicate_succ, List.replicate_zero, List.map_cons, List.map_nil, List.cons_append, List.nil_append, List.length_cons, List.length_nil, List.length_map, atI_0, atI_1, atI_2, atI_3, atI_4, atI_n, ↓reduceIte, Bool.false_eq_true, dEq_int, dNe_int, Nat.reduceAdd, Nat.zero_add, putFD, f2, dAddF, dMulF, fSl]
        by_cases e : G.getD i 0 ≤ ((s.bag ++ [k]).map (W R i)).sum
        · simp only [e, decide_true, eVar, eRd, eC, e2, dAdd, dSub, dMul, dFdiv, dMod, dPow, dII, dI0, dLtI, dLe, dGt, dGe, eAnd, eOr, eNot, eIf, eNeg, eChain, mTru, mVal, mAnd, mOr, mNot, mYes, dTru_bl, dTru_int, dTru_non, dTru_tup, dTru_lst, dIx_lst, dIx_tup, eFld, eSl, oNone, oSome, eTup, fLst, eNew, eCB, fCB, dLen, dAbs, dInt, dTuple, dList, aNil, aCons, fLstRg, eTupRg, rRg1, rRg2, eIsi, fSeq, fRg1, fRg2, fEnum, fZip, D.items, gdName, gdTup, gdCons, gdNil, sSeq, sNext, sDrop, sRet, sRetN, sIf, sAsg, sOwn, sOwnD, sStill, sPar, sAugI, sApp, sExt, sSetI, sSetH, sFor, fLc, sForD, eGetD, dOf, keyD, sMany, setAll, nNil, nSh, nOl, nOd, eCall, mBody, mInit, eMake, sSelf, sSelf2, wipeE, dSl, List.getElem?_cons_zero, List.getElem?_cons_succ, List.set_cons_zero, List.set_cons_succ, List.replicate_succ, List.replicate_zero, List.map_cons, List.map_nil, List.cons_append, List.nil_append, List.length_cons, List.length_nil, List.length_map, atI_0, atI_1, atI_2, atI_3, atI_4, atI_n, ↓reduceIte, Bool.false_eq_true, dEq_int, dNe_int, Nat.reduceAdd, Nat.zero_add, putFD, f2, dAddF, dMulF, fSl]
          exact c1 (decide_eq_true e)
        · simp only [e, decide_false, eVar, eRd, eC, e2, dAdd, dSub, dMul, dFdiv, dMod, dPow, dII, dI0, dLtI, dLe, dGt, dGe, eAnd, eOr, eNot, eIf, eNeg, eChain, mTru, mVal, mAnd, mOr, mNot, mYes, dTru_bl, dTru_int, dTru_non, dTru_tup, dTru_lst, dIx_lst, dIx_tup, eFld, eSl, oNone, oSome, eTup, fLst, eNew, eCB, fCB, dLen, dAbs, dInt, dTuple, dList, aNil, aCons, fLstRg, eTupRg, rRg1, rRg2, eIsi, fSeq, fRg1, fRg2, fEnum, fZip, D.items, gdName, gdTup, gdCons, gdNil, sSeq, sNext, sDrop, sRet, sRetN, sIf, sAsg, sOwn, sOwnD, sStill, sPar, sAugI, sApp, sExt, sSetI, sSetH, sFor, fLc, sForD, eGetD, dOf, keyD, sMany, setAll, nNil, nSh, nOl, nOd, eCall, mBody, mInit, eMake, sSelf, sSelf2, wipeE, dSl, List.getElem?_cons_zero, List.getElem?_cons_succ, List.set_cons_zero, List.set_cons_succ, List.replicate_succ, List.replicate_zero, List.map_cons, List.map_nil, List.cons_append, List.nil_append, List.length_cons, List.length_nil, List.length_map, atI_0, atI_1, atI_2, atI_3, atI_4, atI_n, ↓reduceIte, Bool.false_eq_true, dEq_int, dNe_int, Nat.reduceAdd, Nat.zero_add, putFD, f2, dAddF, dMulF, fSl]
          exact c2 (decide_eq_false e)
    · refine ⟨by decide, ?_⟩
      rw [dNe_nilL _ (okq_natL _)]
      unfold bstep at hn
      generalize hgd : (List.filter (fun i => decide (G.getD i 0 ≤ ((s.bag ++ [k]).map (W R i)).sum)) s.left) = gd
      rw [show goodB R G s.left (s.bag ++ [k]) = gd from hgd] at hn
      cases gd with
      | nil =>
        simp only [List.isEmpty_nil, Bool.not_true, eVar, eRd, eC, e2, dAdd, dSub, dMul, dFdiv, dMod, dPow, dII, dI0, dLtI, dLe, dGt, dGe, eAnd, eOr, eNot, eIf, eNeg, eChain, mTru, mVal, mAnd, mOr, mNot, mYes, dTru_bl, dTru_int, dTru_non, dTru_tup, dTru_lst, dIx_lst, dIx_tup, eFld, eSl, oNone, oSome, eTup, fLst, eNew, eCB, fCB, dLen, dAbs, dInt, dTuple, dList, aNil, aCons, fLstRg, eTupRg, rRg1, rRg2, eIsi, fSeq, fRg1, fRg2, fEnum, fZip, D.items, gdName, gdTup, gdCons, gdNil, sSeq, sNext, sDrop, sRet, sRetN, sIf, sAsg, sOwn, sOwnD, sStill, sPar, sAugI, sApp, sExt, sSetI, sSetH, sFor, fLc, sForD, eGetD, dOf, keyD, sMany, setAll, nNil, nSh, nOl, nOd, eCall, mBody, mInit, eMake, sSelf, sSelf2, wipeE, dSl, List.getElem?_cons_zero, List.getElem?_cons_succ, List.set_cons_zero, List.set_cons_succ, List.replicate_succ, List.replicate_zero, List.map_cons, List.map_nil, List.cons_append, List.nil_append, List.length_cons, List.length_nil, List.length_map, atI_0, atI_1, atI_2, atI_3, atI_4, atI_n, ↓reduceIte, Bool.false_eq_true, dEq_int, dNe_int, Nat.reduceAdd, Nat.zero_add, putFD, f2, dAddF, dMulF, fSl]
        exact hn _ ⟨_, _, _, _, _, rfl, rfl, rfl, rfl⟩
      | cons g r =>
        have hgm : g ∈ s.left := goodB_sub (R := R) (G := G) (bag := s.bag ++ [k]) hgd
        simp only [List.isEmpty_cons, Bool.not_false, eVar, eRd, eC, e2, dAdd, dSub, dMul, dFdiv, dMod, dPow, dII, dI0, dLtI, dLe, dGt, dGe, eAnd, eOr, eNot, eIf, eNeg, eChain, mTru, mVal, mAnd, mOr, mNot, mYes, dTru_bl, dTru_int, dTru_non, dTru_tup, dTru_lst, dIx_lst, dIx_tup, eFld, eSl, oNone, oSome, eTup, fLst, eNew, eCB, fCB, dLen, dAbs, dInt, dTuple, dList, aNil, aCons, fLstRg, eTupRg, rRg1, rRg2, eIsi, fSeq, fRg1, fRg2, fEnum, fZip, D.items, gdName, gdTup, gdCons, gdNil, sSeq, sNext, sDrop, sRet, sRetN, sIf, sAsg, sOwn, sOwnD, sStill, sPar, sAugI, sApp, sExt, sSetI, sSetH, sFor, fLc, sForD, eGetD, dOf, keyD, sMany, setAll, nNil, nSh, nOl, nOd, eCall, mBody, mInit, eMake, sSelf, sSelf2, wipeE, dSl, List.getElem?_cons_zero, List.getElem?_cons_succ, List.set_cons_zero, List.set_cons_succ, List.replicate_succ, List.replicate_zero, List.map_cons, List.map_nil, List.cons_append, List.nil_append, List.length_cons, List.length_nil, List.length_map, atI_0, atI_1, atI_2, atI_3, atI_4, atI_n, ↓reduceIte, Bool.false_eq_true, dEq_int, dNe_int, Nat.reduceAdd, Nat.zero_add, putFD, f2, dAddF, dMulF, fSl]
        by_cases hl : 1 < s.left.length
        · have hl' : (1 : Int) < (s.left.length : Int) := by omega
          have hk5 : (kvsOf s.don).length < sizeLine := Nat.lt_of_lt_of_le (by unfold kvsOf; rw [List.length_map]; omega : (kvsOf s.don).length < 100) (by decide)
          have hgm' := (mem_cast (a := g)).mpr hgm
          have hnew : putD (kvsOf s.don) (.inl (g : Int)) (.lst ((s.bag ++ [k]).map natI)) = kvsOf (s.don ++ [(g, s.bag ++ [k])]) := by
            rw [putD_new, kvs_snoc]
            · intro kv hkv e
              obtain ⟨x, hx, rfl⟩ := List.mem_map.mp hkv
              have e' : (x.1 : Int) = (g : Int) := Sum.inl.inj e
              exact inv.fresh hgm x hx (by omega)
          simp only [hl', decide_true, sPutD, sRem, keyD, hk5, hgm', hnew, ints_natI, erase_cast, natI_cast, true_and, eVar, eRd, eC, e2, dAdd, dSub, dMul, dFdiv, dMod, dPow, dII, dI0, dLtI, dLe, dGt, dGe, eAnd, eOr, eNot, eIf, eNeg, eChain, mTru, mVal, mAnd, mOr, mNot, mYes, dTru_bl, dTru_int, dTru_non, dTru_tup, dTru_lst, dIx_lst, dIx_tup, eFld, eSl, oNone, oSome, eTup, fLst, eNew, eCB, fCB, dLen, dAbs, dInt, dTuple, dList, aNil, aCons, fLstRg, eTupRg, rRg1, rRg2, eIsi, fSeq, fRg1, fRg2, fEnum, fZip, D.items, gdName, gdTup, gdCons, gdNil, sSeq, sNext, sDrop, sRet, sRetN, sIf, sAsg, sOwn, sOwnD, sStill, sPar, sAugI, sApp, sExt, sSetI, sSetH, sFor, fLc, sForD, eGetD, dOf, keyD, sMany, setAll, nNil, nSh, nOl, nOd, eCall, mBody, mInit, eMake, sSelf, sSelf2, wipeE, dSl, List.getElem?_cons_zero, List.getElem?_cons_succ, List.set_cons_zero, List.set_cons_succ, List.replicate_succ, List.replicate_zero, List.map_cons, List.map_nil, List.cons_append, List.nil_append, List.length_cons, List.length_nil, List.length_map, atI_0, atI_1, atI_2, atI_3, atI_4, atI_n, ↓reduceIte, Bool.false_eq_true, dEq_int, dNe_int, Nat.reduceAdd, Nat.zero_add, putFD, f2, dAddF, dMulF, fSl]
          refine ⟨by decide, ?_⟩
          simp only [hl, ↓reduceIte] at hn
          exact hn _ ⟨_, _, _, _, _, rfl, rfl, rfl, rfl⟩
        · have hl' : ¬ (1 : Int) < (s.left.length : Int) := by omega
          simp only [hl', decide_false, eVar, eRd, eC, e2, dAdd, dSub, dMul, dFdiv, dMod, dPow, dII, dI0, dLtI, dLe, dGt, dGe, eAnd, eOr, eNot, eIf, eNeg, eChain, mTru, mVal, mAnd, mOr, mNot, mYes, dTru_bl, dTru_int, dTru_non, dTru_tup, dTru_lst, dIx_lst, dIx_tup, eFld, eSl, oNone, oSome, eTup, fLst, eNew, eCB, fCB, dLen, dAbs, dInt, dTuple, dList, aNil, aCons, fLstRg, eTupRg, rRg1, rRg2, eIsi, fSeq, fRg1, fRg2, fEnum, fZip, D.items, gdName, gdTup, gdCons, gdNil, sSeq, sNext, sDrop, sRet, sRetN, sIf, sAsg, sOwn, sOwnD, sStill, sPar, sAugI, sApp, sExt, sSetI, sSetH, sFor, fLc, sForD, eGetD, dOf, keyD, sMany, setAll, nNil, nSh, nOl, nOd, eCall, mBody, mInit, eMake, sSelf, sSelf2, wipeE, dSl, List.getElem?_cons_zero, List.getElem?_cons_succ, List.set_cons_zero, List.set_cons_succ, List.replicate_succ, List.replicate_zero, List.map_cons, List.map_nil, List.cons_append, List.nil_append, List.length_cons, List.length_nil, List.length_map, atI_0, atI_1, atI_2, atI_3, atI_4, atI_n, ↓reduceIte, Bool.false_eq_true, dEq_int, dNe_int, Nat.reduceAdd, Nat.zero_add, putFD, f2, dAddF, dMulF, fSl]
          simp only [hl, ↓reduceIte] at hn
          exact hn _ ⟨_, _, _, _, _, rfl, rfl, rfl, rfl⟩
  · obtain ⟨A, B, C, e5, e6, rfl, rfl, rfl, rfl⟩ := hs
    have inv := bst_inv R G hp1 t
    generalize bst R G p t = s at inv h0 h1 ⊢
    have l1 := inv.lenL
    have l2 := inv.lenB
    by_cases hl : 1 < s.left.length
    · have hl' : (1 : Int) < (s.left.length : Int) := by omega
      simp only [hl', decide_true, eVar, eRd, eC, e2, dAdd, dSub, dMul, dFdiv, dMod, dPow, dII, dI0, dLtI, dLe, dGt, dGe, eAnd, eOr, eNot, eIf, eNeg, eChain, mTru, mVal, mAnd, mOr, mNot, mYes, dTru_bl, dTru_int, dTru_non, dTru_tup, dTru_lst, dIx_lst, dIx_tup, eFld, eSl, oNone, oSome, eTup, fLst, eNew, eCB, fCB, dLen, dAbs, dInt, dTuple, dList, aNil, aCons, fLstRg, eTupRg, rRg1, rRg2, eIsi, fSeq, fRg1, fRg2, fEnum, fZip, D.items, gdName, gdTup, gdCons, gdNil, sSeq, sNext, sDrop, sRet, sRetN, sIf, sAsg, sOwn, sOwnD, sStill, sPar, sAugI, sApp, sExt, sSetI, sSetH, sFor, fLc, sForD, eGetD, dOf, keyD, sMany, setAll, nNil, nSh, nOl, nOd, eCall, mBody, mInit, eMake, sSelf, sSelf2, wipeE, dSl, List.getElem?_cons_zero, List.getElem?_cons_succ, List.set_cons_zero, List.set_cons_succ, List.replicate_succ, List.replicate_zero, List.map_cons, List.map_nil, List.cons_append, List.nil_append, List.length_cons, List.length_nil, List.length_map, atI_0, atI_1, atI_2, atI_3, atI_4, atI_n, ↓reduceIte, Bool.false_eq_true, dEq_int, dNe_int, Nat.reduceAdd, Nat.zero_add, putFD, f2, dAddF, dMulF, fSl]
      exact h0 hl
    · have hl' : ¬ (1 : Int) < (s.left.length : Int) := by omega
      obtain ⟨l, hll⟩ : ∃ l, s.left = [l] := by
        have := inv.one
        match s.left, this, hl with
        | [l], _, _ => exact ⟨l, rfl⟩
        | _ :: _ :: _, _, h => exact absurd (by simp) h
      have hk5 : (kvsOf s.don).length < sizeLine := Nat.lt_of_lt_of_le (by unfold kvsOf; rw [List.length_map]; omega : (kvsOf s.don).length < 100) (by decide)
      have hnew : putD (kvsOf s.don) (.inl (l : Int)) (.lst (s.bag.map natI)) = kvsOf (s.don ++ [(l, s.bag)]) := by
        rw [putD_new, kvs_snoc]
        · intro kv hkv e
          obtain ⟨x, hx, rfl⟩ := List.mem_map.mp hkv
          have e' : (x.1 : Int) = (l : Int) := Sum.inl.inj e
          exact inv.fresh (by rw [hll]; exact List.mem_cons_self ..) x hx (by omega)
      have h1' := h1 l hll
      have nod := inv.nod hll
      have flt := inv.flat (l := l)
      have mem := fun i => inv.mem hll (i := i)
      have sz : (-2 ^ 63 : Int) ≤ (t : Int) ∧ (t : Int) < 2 ^ 63 ∧ 1 * (t : Int).toNat ≤ sizeLine := ⟨by omega, by omega, small (by omega)⟩
      have l11 : decide ((1 : Int) < ((1 : Nat) : Int)) = false := rfl
      have fl0 : (List.replicate (t : Int).toNat [D.non]).flatten = List.replicate t D.non := by
        rw [Int.toNat_natCast]
        exact rep_flat t
      have ek : keysD (kvsOf (s.don ++ [(l, s.bag)])) = (s.don ++ [(l, s.bag)]).map fun e => natI e.1 := by unfold keysD kvsOf; rw [List.map_map]; rfl
      simp only [hl', hll, l11, decide_false, sPutD, keyD, hk5, hnew, tab, lk_t, lk_p, inT, true_and, sz, fl0, ek, rgD_0, List.map_cons, List.map_nil, List.length_range, eVar, eRd, eC, e2, dAdd, dSub, dMul, dFdiv, dMod, dPow, dII, dI0, dLtI, dLe, dGt, dGe, eAnd, eOr, eNot, eIf, eNeg, eChain, mTru, mVal, mAnd, mOr, mNot, mYes, dTru_bl, dTru_int, dTru_non, dTru_tup, dTru_lst, dIx_lst, dIx_tup, eFld, eSl, oNone, oSome, eTup, fLst, eNew, eCB, fCB, dLen, dAbs, dInt, dTuple, dList, aNil, aCons, fLstRg, eTupRg, rRg1, rRg2, eIsi, fSeq, fRg1, fRg2, fEnum, fZip, D.items, gdName, gdTup, gdCons, gdNil, sSeq, sNext, sDrop, sRet, sRetN, sIf, sAsg, sOwn, sOwnD, sStill, sPar, sAugI, sApp, sExt, sSetI, sSetH, sFor, fLc, sForD, eGetD, dOf, keyD, sMany, setAll, nNil, nSh, nOl, nOd, eCall, mBody, mInit, eMake, sSelf, sSelf2, wipeE, dSl, List.getElem?_cons_zero, List.getElem?_cons_succ, List.set_cons_zero, List.set_cons_succ, List.replicate_succ, List.replicate_zero, List.map_cons, List.map_nil, List.cons_append, List.nil_append, List.length_cons, List.length_nil, List.length_map, atI_0, atI_1, atI_2, atI_3, atI_4, atI_n, ↓reduceIte, Bool.false_eq_true, dEq_int, dNe_int, Nat.reduceAdd, Nat.zero_add, putFD, f2, dAddF, dMulF, fSl]
      refine ⟨by decide, fun pp ob vs => ?_⟩
      generalize s.don ++ [(l, s.bag)] = N at nod flt mem h1' ek ⊢
      refine forK_inv (fun k ρ => ∃ A e5 e8, A = (N.take k).foldl fillB (List.replicate t D.non) ∧ ρ = [.sh (tab p t R), .sh (intL G), .ol [natI l], .odl pp ob vs (kvsOf N), .sh (.lst (s.bag.map natI)), e5, e6, .ol A, e8, .no])
        ⟨_, _, _, rfl, rfl⟩ (fun k x ρ nx hx hs hn => ?_) (fun ρ hs => ?_)
      · obtain ⟨A, e5, e8, hA, rfl⟩ := hs
        have hlA : A.length = t := by rw [hA, fold_len, List.length_replicate]
        have hxm := List.mem_of_getElem? hx
        obtain ⟨i, b⟩ := x
        have hb : ∀ j ∈ b, j < t := by
          intro j hj
          have : j ∈ (N.map (·.2)).flatten := List.mem_flatten.mpr ⟨b, List.mem_map.mpr ⟨_, hxm, rfl⟩, hj⟩
          rw [flt] at this
          exact List.mem_range.mp this
        simp only [getD_kvs nod hxm, eVar, eRd, eC, e2, dAdd, dSub, dMul, dFdiv, dMod, dPow, dII, dI0, dLtI, dLe, dGt, dGe, eAnd, eOr, eNot, eIf, eNeg, eChain, mTru, mVal, mAnd, mOr, mNot, mYes, dTru_bl, dTru_int, dTru_non, dTru_tup, dTru_lst, dIx_lst, dIx_tup, eFld, eSl, oNone, oSome, eTup, fLst, eNew, eCB, fCB, dLen, dAbs, dInt, dTuple, dList, aNil, aCons, fLstRg, eTupRg, rRg1, rRg2, eIsi, fSeq, fRg1, fRg2, fEnum, fZip, D.items, gdName, gdTup, gdCons, gdNil, sSeq, sNext, sDrop, sRet, sRetN, sIf, sAsg, sOwn, sOwnD, sStill, sPar, sAugI, sApp, sExt, sSetI, sSetH, sFor, fLc, sForD, eGetD, dOf, keyD, sMany, setAll, nNil, nSh, nOl, nOd, eCall, mBody, mInit, eMake, sSelf, sSelf2, wipeE, dSl, List.getElem?_cons_zero, List.getElem?_cons_succ, List.set_cons_zero, List.set_cons_succ, List.replicate_succ, List.replicate_zero, List.map_cons, List.map_nil, List.cons_append, List.nil_append, List.length_cons, List.length_nil, List.length_map, atI_0, atI_1, atI_2, atI_3, atI_4, atI_n, ↓reduceIte, Bool.false_eq_true, dEq_int, dNe_int, Nat.reduceAdd, Nat.zero_add, putFD, f2, dAddF, dMulF, fSl]
        refine for_fold (fun (ds : List D) ρ => ds.length = t ∧ ∃ e5, ρ = [.sh (tab p t R), .sh (intL G), .ol [natI l], .odl pp ob vs (kvsOf N), .sh (.lst (s.bag.map natI)), e5, e6, .ol ds, .sh (natI i), .no])
          (fun ds j => ds.set j (.int (i : Nat))) A ⟨hlA, _, rfl⟩ (fun j ds ρ nx' hj hs' hn' => ?_) (fun ρ hs' => ?_)
        · obtain ⟨hlen, e5, rfl⟩ := hs'
          simp only [hlen, ixN_nat t j (hb j hj), eVar, eRd, eC, e2, dAdd, dSub, dMul, dFdiv, dMod, dPow, dII, dI0, dLtI, dLe, dGt, dGe, eAnd, eOr, eNot, eIf, eNeg, eChain, mTru, mVal, mAnd, mOr, mNot, mYes, dTru_bl, dTru_int, dTru_non, dTru_tup, dTru_lst, dIx_lst, dIx_tup, eFld, eSl, oNone, oSome, eTup, fLst, eNew, eCB, fCB, dLen, dAbs, dInt, dTuple, dList, aNil, aCons, fLstRg, eTupRg, rRg1, rRg2, eIsi, fSeq, fRg1, fRg2, fEnum, fZip, D.items, gdName, gdTup, gdCons, gdNil, sSeq, sNext, sDrop, sRet, sRetN, sIf, sAsg, sOwn, sOwnD, sStill, sPar, sAugI, sApp, sExt, sSetI, sSetH, sFor, fLc, sForD, eGetD, dOf, keyD, sMany, setAll, nNil, nSh, nOl, nOd, eCall, mBody, mInit, eMake, sSelf, sSelf2, wipeE, dSl, List.getElem?_cons_zero, List.getElem?_cons_succ, List.set_cons_zero, List.set_cons_succ, List.replicate_succ, List.replicate_zero, List.map_cons, List.map_nil, List.cons_append, List.nil_append, List.length_cons, List.length_nil, List.length_map, atI_0, atI_1, atI_2, atI_3, atI_4, atI_n, ↓reduceIte, Bool.false_eq_true, dEq_int, dNe_int, Nat.reduceAdd, Nat.zero_add, putFD, f2, dAddF, dMulF, fSl]
          exact hn' _ ⟨by rw [List.length_set]; exact hlen, _, rfl⟩
        · obtain ⟨hlen, e5, rfl⟩ := hs'
          refine ⟨rfl, hn _ ⟨_, _, _, ?_, rfl⟩⟩
          rw [List.take_succ, hx, List.foldl_append, ← hA]
          rfl
      · obtain ⟨A, e5, e8, hA, rfl⟩ := hs
        rw [List.take_length] at hA
        have hA' : A = (due t N).map natI := hA.trans (fill_all flt)
        subst hA'
        simp only [tab, lk_p, inT, true_and, rgD_0, List.length_range, eVar, eRd, eC, e2, dAdd, dSub, dMul, dFdiv, dMod, dPow, dII, dI0, dLtI, dLe, dGt, dGe, eAnd, eOr, eNot, eIf, eNeg, eChain, mTru, mVal, mAnd, mOr, mNot, mYes, dTru_bl, dTru_int, dTru_non, dTru_tup, dTru_lst, dIx_lst, dIx_tup, eFld, eSl, oNone, oSome, eTup, fLst, eNew, eCB, fCB, dLen, dAbs, dInt, dTuple, dList, aNil, aCons, fLstRg, eTupRg, rRg1, rRg2, eIsi, fSeq, fRg1, fRg2, fEnum, fZip, D.items, gdName, gdTup, gdCons, gdNil, sSeq, sNext, sDrop, sRet, sRetN, sIf, sAsg, sOwn, sOwnD, sStill, sPar, sAugI, sApp, sExt, sSetI, sSetH, sFor, fLc, sForD, eGetD, dOf, keyD, sMany, setAll, nNil, nSh, nOl, nOd, eCall, mBody, mInit, eMake, sSelf, sSelf2, wipeE, dSl, List.getElem?_cons_zero, List.getElem?_cons_succ, List.set_cons_zero, List.set_cons_succ, List.replicate_succ, List.replicate_zero, List.map_cons, List.map_nil, List.cons_append, List.nil_append, List.length_cons, List.length_nil, List.length_map, atI_0, atI_1, atI_2, atI_3, atI_4, atI_n, ↓reduceIte, Bool.false_eq_true, dEq_int, dNe_int, Nat.reduceAdd, Nat.zero_add, putFD, f2, dAddF, dMulF, fSl]
        refine ⟨rgB_small (by omega), small (by omega), lc_map (fun i => nats (lotOf t (due t N) i)) (fun i hi q hq => ?_) ⟨by decide, h1'⟩⟩
        obtain ⟨⟨i', b⟩, hm, e⟩ := List.mem_map.mp ((mem i).mpr (List.mem_range.mp hi))
        have e' : i' = i := e
        subst e'
        simp only [getD_kvs nod hm, eVar, eRd, eC, e2, dAdd, dSub, dMul, dFdiv, dMod, dPow, dII, dI0, dLtI, dLe, dGt, dGe, eAnd, eOr, eNot, eIf, eNeg, eChain, mTru, mVal, mAnd, mOr, mNot, mYes, dTru_bl, dTru_int, dTru_non, dTru_tup, dTru_lst, dIx_lst, dIx_tup, eFld, eSl, oNone, oSome, eTup, fLst, eNew, eCB, fCB, dLen, dAbs, dInt, dTuple, dList, aNil, aCons, fLstRg, eTupRg, rRg1, rRg2, eIsi, fSeq, fRg1, fRg2, fEnum, fZip, D.items, gdName, gdTup, gdCons, gdNil, sSeq, sNext, sDrop, sRet, sRetN, sIf, sAsg, sOwn, sOwnD, sStill, sPar, sAugI, sApp, sExt, sSetI, sSetH, sFor, fLc, sForD, eGetD, dOf, keyD, sMany, setAll, nNil, nSh, nOl, nOd, eCall, mBody, mInit, eMake, sSelf, sSelf2, wipeE, dSl, List.getElem?_cons_zero, List.getElem?_cons_succ, List.set_cons_zero, List.set_cons_succ, List.replicate_succ, List.replicate_zero, List.map_cons, List.map_nil, List.cons_append, List.nil_append, List.length_cons, List.length_nil, List.length_map, atI_0, atI_1, atI_2, atI_3, atI_4, atI_n, ↓reduceIte, Bool.false_eq_true, dEq_int, dNe_int, Nat.reduceAdd, Nat.zero_add, putFD, f2, dAddF, dMulF, fSl]
        rw [lot_due flt nod hm] at hq
        exact hq
theorem fill_snoc (t : Nat) (don : List (Nat × List Nat)) (e : Nat × List Nat) : fillB (fill t don) e = fill t (don ++ [e]) := by
  unfold fill
  rw [List.foldl_append]
  rfl
theorem fill_eq (t : Nat) (don : List (Nat × List Nat)) : fill t don = (List.range t).map fun j => if j ∈ (don.map (·.2)).flatten then natI (own don 0 j) else .non := by
  apply List.ext_getElem?
  intro j
  by_cases hj : j < t
  · rw [fill_get don hj, List.getElem?_map, List.getElem?_range hj]
    show _ = some (if _ then _ else _)
    by_cases h : j ∈ (don.map (·.2)).flatten
    · rw [if_pos h, if_pos h]
    · rw [if_neg h, if_neg h]
  · rw [List.getElem?_eq_none (by rw [fill_len]; omega), List.getElem?_eq_none (by rw [List.length_map, List.length_range]; omega)]
theorem w_law_bag (T : Tab p t R) {G : List Int} (hG : G.length = p) (h0 : 1 < (bst R G p t).left.length → q .non)
    (h1 : ∀ l, (bst R G p t).left = [l] → q (nats (due t ((bst R G p t).don ++ [(l, (bst R G p t).bag)])))) :
    m__law_bag [.lst (R.map intL), intL G] q qe := by
  have ht := T.t9
  have hp := T.p5
  have hp1 := T.p1
  have hr := T.rows
  have r0 : (R.map intL)[0]? = some (intL (R.getD 0 [])) := by
    have := row_atL T (i := 0) (by omega)
    rw [atI_n] at this
    exact this
  have l0 : (R.getD 0 []).length = t := T.cols _ (row_mem T (by omega))
  have fl0 : (List.replicate (t : Int).toNat [D.non]).flatten = List.replicate t D.non := by
    rw [Int.toNat_natCast]
    exact rep_flat t
  have sz : (-2 ^ 63 : Int) ≤ (t : Int) ∧ (t : Int) < 2 ^ 63 ∧ 1 * (t : Int).toNat ≤ sizeLine := ⟨by omega, by omega, small (by omega)⟩
  simp only [m__law_bag_eq, f__law_bag, hr, r0, l0, fl0, sz, true_and, rgD_0, eVar, eRd, eC, e2, dAdd, dSub, dMul, dFdiv, dMod, dPow, dII, dI0, dLtI, dLe, dGt, dGe, eAnd, eOr, eNot, eIf, eNeg, eChain, mTru, mVal, mAnd, mOr, mNot, mYes, dTru_bl, dTru_int, dTru_non, dTru_tup, dTru_lst, dIx_lst, dIx_tup, eFld, eSl, oNone, oSome, eTup, fLst, eNew, eCB, fCB, dLen, dAbs, dInt, dTuple, dList, aNil, aCons, fLstRg, eTupRg, rRg1, rRg2, eIsi, fSeq, fRg1, fRg2, fEnum, fZip, D.items, gdName, gdTup, gdCons, gdNil, sSeq, sNext, sDrop, sRet, sRetN, sIf, sAsg, sOwn, sOwnD, sStill, sPar, sAugI, sApp, sExt, sSetI, sSetH, sFor, fLc, sForD, eGetD, dOf, keyD, sMany, setAll, nNil, nSh, nOl, nOd, eCall, mBody, mInit, eMake, sSelf, sSelf2, wipeE, dSl, List.getElem?_cons_zero, List.getElem?_cons_succ, List.set_cons_zero, List.set_cons_succ, List.replicate_succ, List.replicate_zero, List.map_cons, List.map_nil, List.cons_append, List.nil_append, List.length_cons, List.length_nil, List.length_map, atI_0, atI_1, atI_2, atI_3, atI_4, atI_n, ↓reduceIte, Bool.false_eq_true, dEq_int, dNe_int, Nat.reduceAdd, Nat.zero_add, putFD, f2, dAddF, dMulF, fSl]
  refine ⟨rgOk_small (by omega), by decide, by decide, rgB_small (by omega), ?_⟩
  refine for_rng (fun k ρ => ∃ A B C e5 e6 e7, A = (bst R G p k).left.map natI ∧ B = fill t (bst R G p k).don ∧ C = (bst R G p k).bag.map natI ∧ ρ = [.sh (.lst (R.map intL)), .sh (intL G), .ol A, .ol B, .ol C, e5, e6, e7, .no, .no])
    ⟨_, _, _, _, _, _, rfl, rfl, rfl, rfl⟩ (fun k ρ nx hk hs hn => ?_) (fun ρ hs => ?_)
  · obtain ⟨A, B, C, e5, e6, e7, rfl, rfl, rfl, rfl⟩ := hs
    have inv := bst_inv R G hp1 k
    rw [bst_succ] at hn
    generalize bst R G p k = s at inv hn ⊢
    have l1 := inv.lenL
    have l2 := inv.lenB
    simp only [snocL, eVar, eRd, eC, e2, dAdd, dSub, dMul, dFdiv, dMod, dPow, dII, dI0, dLtI, dLe, dGt, dGe, eAnd, eOr, eNot, eIf, eNeg, eChain, mTru, mVal, mAnd, mOr, mNot, mYes, dTru_bl, dTru_int, dTru_non, dTru_tup, dTru_lst, dIx_lst, dIx_tup, eFld, eSl, oNone, oSome, eTup, fLst, eNew, eCB, fCB, dLen, dAbs, dInt, dTuple, dList, aNil, aCons, fLstRg, eTupRg, rRg1, rRg2, eIsi, fSeq, fRg1, fRg2, fEnum, fZip, D.items, gdName, gdTup, gdCons, gdNil, sSeq, sNext, sDrop, sRet, sRetN, sIf, sAsg, sOwn, sOwnD, sStill, sPar, sAugI, sApp, sExt, sSetI, sSetH, sFor, fLc, sForD, eGetD, dOf, keyD, sMany, setAll, nNil, nSh, nOl, nOd, eCall, mBody, mInit, eMake, sSelf, sSelf2, wipeE, dSl, List.getElem?_cons_zero, List.getElem?_cons_succ, List.set_cons_zero, List.set_cons_succ, List.replicate_succ, List.replicate_zero, List.map_cons, List.map_nil, List.cons_append, List.nil_append, List.length_cons, List.length_nil, List.length_map, atI_0, atI_1, atI_2, atI_3, atI_4, atI_n, ↓reduceIte, Bool.false_eq_true, dEq_int, dNe_int, Nat.reduceAdd, Nat.zero_add, putFD, f2, dAddF, dMulF, fSl]
    refine ⟨Nat.lt_of_lt_of_le (by omega : s.bag.length < 100) (by decide), small (by omega), lc_filter (fun i => decide (G.getD i 0 ≤ ((s.bag ++ [k]).map (W R i)).sum)) natI (fun i hi k1 k2 c1 c2 => ?_) ?_⟩
    · have hip := inv.lt i hi
      simp only [snocL, eVar, eRd, eC, e2, dAdd, dSub, dMul, dFdiv, dMod, dPow, dII, dI0, dLtI, dLe, dGt, dGe, eAnd, eOr, eNot, eIf, eNeg, eChain, mTru, mVal, mAnd, mOr, mNot, mYes, dTru_bl, dTru_int, dTru_non, dTru_tup, dTru_lst, dIx_lst, dIx_tup, eFld, eSl, oNone, oSome, eTup, fLst, eNew, eCB, fCB, dLen, dAbs, dInt, dTuple, dList, aNil, aCons, fLstRg, eTupRg, rRg1, rRg2, eIsi, fSeq, fRg1, fRg2, fEnum, fZip, D.items, gdName, gdTup, gdCons, gdNil, sSeq, sNext, sDrop, sRet, sRetN, sIf, sAsg, sOwn, sOwnD, sStill, sPar, sAugI, sApp, sExt, sSetI, sSetH, sFor, fLc, sForD, eGetD, dOf, keyD, sMany, setAll, nNil, nSh, nOl, nOd, eCall, mBody, mInit, eMake, sSelf, sSelf2, wipeE, dSl, List.getElem?_cons_zero, List.getElem?_cons_succ, List.set_cons_zero, List.set_cons_succ, List.replicate_succ, List.replicate_zero, List.map_cons, List.map_nil, List.cons_append, List.nil_append, List.length_cons, List.length_nil, List.length_map, atI_0, atI_1, atI_2, atI_3, atI_4, atI_n, ↓reduceIte, Bool.false_eq_true, dEq_int, dNe_int, Nat.reduceAdd, Nat.zero_add, putFD, f2, dAddF, dMulF, fSl]
      refine ⟨small (by rw [List.length_append]; simp; omega), lc_map (fun j => .int (W R i j)) (fun j hj q hq => ?_) ?_⟩
      · have hjt : j < t := by
          rcases List.mem_append.mp hj with z | z
          · have := inv.bagLt j z
            omega
          · rw [List.mem_singleton] at z
            omega
        simp only [row_atL T hip, cell_at T hip hjt, eVar, eRd, eC, e2, dAdd, dSub, dMul, dFdiv, dMod, dPow, dII, dI0, dLtI, dLe, dGt, dGe, eAnd, eOr, eNot, eIf, eNeg, eChain, mTru, mVal, mAnd, mOr, mNot, mYes, dTru_bl, dTru_int, dTru_non, dTru_tup, dTru_lst, dIx_lst, dIx_tup, eFld, eSl, oNone, oSome, eTup, fLst, eNew, eCB, fCB, dLen, dAbs, dInt, dTuple, dList, aNil, aCons, fLstRg, eTupRg, rRg1, rRg2, eIsi, fSeq, fRg1, fRg2, fEnum, fZip, D.items, gdName, gdTup, gdCons, gdNil, sSeq, sNext, sDrop, sRet, sRetN, sIf, sAsg, sOwn, sOwnD, sStill, sPar, sAugI, sApp, sExt, sSetI, sSetH, sFor, fLc, sForD, eGetD, dOf, keyD, sMany, setAll, nNil, nSh, nOl, nOd, eCall, mBody, mInit, eMake, sSelf, sSelf2, wipeE, dSl, List.getElem?_cons_zero, List.getElem?_cons_succ, List.set_cons_zero, List.set_cons_succ, List.replicate_succ, List.replicate_zero, List.map_cons, List.map_nil, List.cons_append, List.nil_append, List.length_cons, List.length_nil, List.length_map, atI_0, atI_1, atI_2, atI_3, atI_4, atI_n, ↓reduceIte, Bool.false_eq_true, dEq_int, dNe_int, Nat.reduceAdd, Nat.zero_add, putFD, f2, dAddF, dMulF, fSl]
        exact hq
      · simp only [dSum_map, cell_get (by rw [hG]; exact hip : i < G.length), eVar, eRd, eC, e2, dAdd, dSub, dMul, dFdiv, dMod, dPow, dII, dI0, dLtI, dLe, dGt, dGe, eAnd, eOr, eNot, eIf, eNeg, eChain, mTru, mVal, mAnd, mOr, mNot, mYes, dTru_bl, dTru_int, dTru_non, dTru_tup, dTru_lst, dIx_lst, dIx_tup, eFld, eSl, oNone, oSome, eTup, fLst, eNew, eCB, fCB, dLen, dAbs, dInt, dTuple, dList, aNil, aCons, fLstRg, eTupRg, rRg1, rRg2, eIsi, fSeq, fRg1, fRg2, fEnum, fZip, D.items, gdName, gdTup, gdCons, gdNil, sSeq, sNext, sDrop, sRet, sRetN, sIf, sAsg, sOwn, sOwnD, sStill, sPar, sAugI, sApp, sExt, sSetI, sSetH, sFor, fLc, sForD, eGetD, dOf, keyD, sMany, setAll, nNil, nSh, nOl, nOd, eCall, mBody, mInit, eMake, sSelf, sSelf2, wipeE, dSl, List.getElem?_cons_zero, List.getElem?_cons_succ, List.set_cons_zero, List.set_cons_succ, List.replicate_succ, List.replicate_zero, List.map_cons, List.map_nil, List.cons_append, List.nil_append, List.length_cons, List.length_nil, List.length_map, atI_0, atI_1, atI_2, atI_3, atI_4, atI_n, ↓reduceIte, Bool.false_eq_true, dEq_int, dNe_int, Nat.reduceAdd, Nat.zero_add, putFD, f2, dAddF, dMulF, fSl]
        by_cases e : G.getD i 0 ≤ ((s.bag ++ [k]).map (W R i)).sum
        · simp only [e, decide_true, eVar, eRd, eC, e2, dAdd, dSub, dMul, dFdiv, dMod, dPow, dII, dI0, dLtI, dLe, dGt, dGe, eAnd, eOr, eNot, eIf, eNeg, eChain, mTru, mVal, mAnd, mOr, mNot, mYes, dTru_bl, dTru_int, dTru_non, dTru_tup, dTru_lst, dIx_lst, dIx_tup, eFld, eSl, oNone, oSome, eTup, fLst, eNew, eCB, fCB, dLen, dAbs, dInt, dTuple, dList, aNil, aCons, fLstRg, eTupRg, rRg1, rRg2, eIsi, fSeq, fRg1, fRg2, fEnum, fZip, D.items, gdName, gdTup, gdCons, gdNil, sSeq, sNext, sDrop, sRet, sRetN, sIf, sAsg, sOwn, sOwnD, sStill, sPar, sAugI, sApp, sExt, sSetI, sSetH, sFor, fLc, sForD, eGetD, dOf, keyD, sMany, setAll, nNil, nSh, nOl, nOd, eCall, mBody, mInit, eMake, sSelf, sSelf2, wipeE, dSl, List.getElem?_cons_zero, List.getElem?_cons_succ, List.set_cons_zero, List.set_cons_succ, List.replicate_succ, List.replicate_zero, List.map_cons, List.map_nil, List.cons_append, List.nil_append, List.length_cons, List.length_nil, List.length_map, atI_0, atI_1, atI_2, atI_3, atI_4, atI_n, ↓reduceIte, Bool.false_eq_true, dEq_int, dNe_int, Nat.reduceAdd, Nat.zero_add, putFD, f2, dAddF, dMulF, fSl]
          exact c1 (decide_eq_true e)
        · simp only [e, decide_false, eVar, eRd, eC, e2, dAdd, dSub, dMul, dFdiv, dMod, dPow, dII, dI0, dLtI, dLe, dGt, dGe, eAnd, eOr, eNot, eIf, eNeg, eChain, mTru, mVal, mAnd, mOr, mNot, mYes, dTru_bl, dTru_int, dTru_non, dTru_tup, dTru_lst, dIx_lst, dIx_tup, eFld, eSl, oNone, oSome, eTup, fLst, eNew, eCB, fCB, dLen, dAbs, dInt, dTuple, dList, aNil, aCons, fLstRg, eTupRg, rRg1, rRg2, eIsi, fSeq, fRg1, fRg2, fEnum, fZip, D.items, gdName, gdTup, gdCons, gdNil, sSeq, sNext, sDrop, sRet, sRetN, sIf, sAsg, sOwn, sOwnD, sStill, sPar, sAugI, sApp, sExt, sSetI, sSetH, sFor, fLc, sForD, eGetD, dOf, keyD, sMany, setAll, nNil, nSh, nOl, nOd, eCall, mBody, mInit, eMake, sSelf, sSelf2, wipeE, dSl, List.getElem?_cons_zero, List.getElem?_cons_succ, List.set_cons_zero, List.set_cons_succ, List.replicate_succ, List.replicate_zero, List.map_cons, List.map_nil, List.cons_append, List.nil_append, List.length_cons, List.length_nil, List.length_map, atI_0, atI_1, atI_2, atI_3, atI_4, atI_n, ↓reduceIte, Bool.false_eq_true, dEq_int, dNe_int, Nat.reduceAdd, Nat.zero_add, putFD, f2, dAddF, dMulF, fSl]
          exact c2 (decide_eq_false e)
    · unfold bstep at hn
      simp only [eVar, eRd, eC, e2, dAdd, dSub, dMul, dFdiv, dMod, dPow, dII, dI0, dLtI, dLe, dGt, dGe, eAnd, eOr, eNot, eIf, eNeg, eChain, mTru, mVal, mAnd, mOr, mNot, mYes, dTru_bl, dTru_int, dTru_non, dTru_tup, dTru_lst, dIx_lst, dIx_tup, eFld, eSl, oNone, oSome, eTup, fLst, eNew, eCB, fCB, dLen, dAbs, dInt, dTuple, dList, aNil, aCons, fLstRg, eTupRg, rRg1, rRg2, eIsi, fSeq, fRg1, fRg2, fEnum, fZip, D.items, gdName, gdTup, gdCons, gdNil, sSeq, sNext, sDrop, sRet, sRetN, sIf, sAsg, sOwn, sOwnD, sStill, sPar, sAugI, sApp, sExt, sSetI, sSetH, sFor, fLc, sForD, eGetD, dOf, keyD, sMany, setAll, nNil, nSh, nOl, nOd, eCall, mBody, mInit, eMake, sSelf, sSelf2, wipeE, dSl, List.getElem?_cons_zero, List.getElem?_cons_succ, List.set_cons_zero, List.set_cons_succ, List.replicate_succ, List.replicate_zero, List.map_cons, List.map_nil, List.cons_append, List.nil_append, List.length_cons, List.length_nil, List.length_map, atI_0, atI_1, atI_2, atI_3, atI_4, atI_n, ↓reduceIte, Bool.false_eq_true, dEq_int, dNe_int, Nat.reduceAdd, Nat.zero_add, putFD, f2, dAddF, dMulF, fSl]
      generalize hgd : (List.filter (fun i => decide (G.getD i 0 ≤ ((s.bag ++ [k]).map (W R i)).sum)) s.left) = gd
      rw [show goodB R G s.left (s.bag ++ [k]) = gd from hgd] at hn
      cases gd with
      | nil =>
        have n00 : decide ((0 : Int) < ((0 : Nat) : Int)) = false := rfl
        simp only [n00, eVar, eRd, eC, e2, dAdd, dSub, dMul, dFdiv, dMod, dPow, dII, dI0, dLtI, dLe, dGt, dGe, eAnd, eOr, eNot, eIf, eNeg, eChain, mTru, mVal, mAnd, mOr, mNot, mYes, dTru_bl, dTru_int, dTru_non, dTru_tup, dTru_lst, dIx_lst, dIx_tup, eFld, eSl, oNone, oSome, eTup, fLst, eNew, eCB, fCB, dLen, dAbs, dInt, dTuple, dList, aNil, aCons, fLstRg, eTupRg, rRg1, rRg2, eIsi, fSeq, fRg1, fRg2, fEnum, fZip, D.items, gdName, gdTup, gdCons, gdNil, sSeq, sNext, sDrop, sRet, sRetN, sIf, sAsg, sOwn, sOwnD, sStill, sPar, sAugI, sApp, sExt, sSetI, sSetH, sFor, fLc, sForD, eGetD, dOf, keyD, sMany, setAll, nNil, nSh, nOl, nOd, eCall, mBody, mInit, eMake, sSelf, sSelf2, wipeE, dSl, List.getElem?_cons_zero, List.getElem?_cons_succ, List.set_cons_zero, List.set_cons_succ, List.replicate_succ, List.replicate_zero, List.map_cons, List.map_nil, List.cons_append, List.nil_append, List.length_cons, List.length_nil, List.length_map, atI_0, atI_1, atI_2, atI_3, atI_4, atI_n, ↓reduceIte, Bool.false_eq_true, dEq_int, dNe_int, Nat.reduceAdd, Nat.zero_add, putFD, f2, dAddF, dMulF, fSl]
        exact hn _ ⟨_, _, _, _, _, _, rfl, rfl, rfl, rfl⟩
      | cons g r =>
        have hgm : g ∈ s.left := goodB_sub (R := R) (G := G) (bag := s.bag ++ [k]) hgd
        have n01 : decide ((0 : Int) < ((r.length + 1 : Nat) : Int)) = true := decide_eq_true (by omega)
        simp only [n01, eVar, eRd, eC, e2, dAdd, dSub, dMul, dFdiv, dMod, dPow, dII, dI0, dLtI, dLe, dGt, dGe, eAnd, eOr, eNot, eIf, eNeg, eChain, mTru, mVal, mAnd, mOr, mNot, mYes, dTru_bl, dTru_int, dTru_non, dTru_tup, dTru_lst, dIx_lst, dIx_tup, eFld, eSl, oNone, oSome, eTup, fLst, eNew, eCB, fCB, dLen, dAbs, dInt, dTuple, dList, aNil, aCons, fLstRg, eTupRg, rRg1, rRg2, eIsi, fSeq, fRg1, fRg2, fEnum, fZip, D.items, gdName, gdTup, gdCons, gdNil, sSeq, sNext, sDrop, sRet, sRetN, sIf, sAsg, sOwn, sOwnD, sStill, sPar, sAugI, sApp, sExt, sSetI, sSetH, sFor, fLc, sForD, eGetD, dOf, keyD, sMany, setAll, nNil, nSh, nOl, nOd, eCall, mBody, mInit, eMake, sSelf, sSelf2, wipeE, dSl, List.getElem?_cons_zero, List.getElem?_cons_succ, List.set_cons_zero, List.set_cons_succ, List.replicate_succ, List.replicate_zero, List.map_cons, List.map_nil, List.cons_append, List.nil_append, List.length_cons, List.length_nil, List.length_map, atI_0, atI_1, atI_2, atI_3, atI_4, atI_n, ↓reduceIte, Bool.false_eq_true, dEq_int, dNe_int, Nat.reduceAdd, Nat.zero_add, putFD, f2, dAddF, dMulF, fSl]
        by_cases hl : 1 < s.left.length
        · have hl' : (1 : Int) < (s.left.length : Int) := by omega
          have hgm' := (mem_cast (a := g)).mpr hgm
          simp only [hl', decide_true, eVar, eRd, eC, e2, dAdd, dSub, dMul, dFdiv, dMod, dPow, dII, dI0, dLtI, dLe, dGt, dGe, eAnd, eOr, eNot, eIf, eNeg, eChain, mTru, mVal, mAnd, mOr, mNot, mYes, dTru_bl, dTru_int, dTru_non, dTru_tup, dTru_lst, dIx_lst, dIx_tup, eFld, eSl, oNone, oSome, eTup, fLst, eNew, eCB, fCB, dLen, dAbs, dInt, dTuple, dList, aNil, aCons, fLstRg, eTupRg, rRg1, rRg2, eIsi, fSeq, fRg1, fRg2, fEnum, fZip, D.items, gdName, gdTup, gdCons, gdNil, sSeq, sNext, sDrop, sRet, sRetN, sIf, sAsg, sOwn, sOwnD, sStill, sPar, sAugI, sApp, sExt, sSetI, sSetH, sFor, fLc, sForD, eGetD, dOf, keyD, sMany, setAll, nNil, nSh, nOl, nOd, eCall, mBody, mInit, eMake, sSelf, sSelf2, wipeE, dSl, List.getElem?_cons_zero, List.getElem?_cons_succ, List.set_cons_zero, List.set_cons_succ, List.replicate_succ, List.replicate_zero, List.map_cons, List.map_nil, List.cons_append, List.nil_append, List.length_cons, List.length_nil, List.length_map, atI_0, atI_1, atI_2, atI_3, atI_4, atI_n, ↓reduceIte, Bool.false_eq_true, dEq_int, dNe_int, Nat.reduceAdd, Nat.zero_add, putFD, f2, dAddF, dMulF, fSl]
          refine for_fold (fun (ds : List D) ρ => ds.length = t ∧ ∃ e7, ρ = [.sh (.lst (R.map intL)), .sh (intL G), .ol (s.left.map natI), .ol ds, .sh (.lst ((s.bag ++ [k]).map natI)), .sh (.int k), .sh (.lst ((g :: r).map natI)), e7, .no, .no])
            (fun ds j => ds.set j (.int (g : Nat))) (fill t s.don) ⟨fill_len _ _, _, rfl⟩ (fun j ds ρ nx' hj hs' hn' => ?_) (fun ρ hs' => ?_)
          · obtain ⟨hlen, e7, rfl⟩ := hs'
            have hjt : j < t := by
              rcases List.mem_append.mp hj with z | z
              · have := inv.bagLt j z
                omega
              · rw [List.mem_singleton] at z
                omega
            simp only [hlen, ixN_nat t j hjt, eVar, eRd, eC, e2, dAdd, dSub, dMul, dFdiv, dMod, dPow, dII, dI0, dLtI, dLe, dGt, dGe, eAnd, eOr, eNot, eIf, eNeg, eChain, mTru, mVal, mAnd, mOr, mNot, mYes, dTru_bl, dTru_int, dTru_non, dTru_tup, dTru_lst, dIx_lst, dIx_tup, eFld, eSl, oNone, oSome, eTup, fLst, eNew, eCB, fCB, dLen, dAbs, dInt, dTuple, dList, aNil, aCons, fLstRg, eTupRg, rRg1, rRg2, eIsi, fSeq, fRg1, fRg2, fEnum, fZip, D.items, gdName, gdTup, gdCons, gdNil, sSeq, sNext, sDrop, sRet, sRetN, sIf, sAsg, sOwn, sOwnD, sStill, sPar, sAugI, sApp, sExt, sSetI, sSetH, sFor, fLc, sForD, eGetD, dOf, keyD, sMany, setAll, nNil, nSh, nOl, nOd, eCall, mBody, mInit, eMake, sSelf, sSelf2, wipeE, dSl, List.getElem?_cons_zero, List.getElem?_cons_succ, List.set_cons_zero, List.set_cons_succ, List.replicate_succ, List.replicate_zero, List.map_cons, List.map_nil, List.cons_append, List.nil_append, List.length_cons, List.length_nil, List.length_map, atI_0, atI_1, atI_2, atI_3, atI_4, atI_n, ↓reduceIte, Bool.false_eq_true, dEq_int, dNe_int, Nat.reduceAdd, Nat.zero_add, putFD, f2, dAddF, dMulF, fSl]
            exact hn' _ ⟨by rw [List.length_set]; exact hlen, _, rfl⟩
          · obtain ⟨hlen, e7, rfl⟩ := hs'
            simp only [sRem, hgm', ints_natI, erase_cast, natI_cast, true_and, eVar, eRd, eC, e2, dAdd, dSub, dMul, dFdiv, dMod, dPow, dII, dI0, dLtI, dLe, dGt, dGe, eAnd, eOr, eNot, eIf, eNeg, eChain, mTru, mVal, mAnd, mOr, mNot, mYes, dTru_bl, dTru_int, dTru_non, dTru_tup, dTru_lst, dIx_lst, dIx_tup, eFld, eSl, oNone, oSome, eTup, fLst, eNew, eCB, fCB, dLen, dAbs, dInt, dTuple, dList, aNil, aCons, fLstRg, eTupRg, rRg1, rRg2, eIsi, fSeq, fRg1, fRg2, fEnum, fZip, D.items, gdName, gdTup, gdCons, gdNil, sSeq, sNext, sDrop, sRet, sRetN, sIf, sAsg, sOwn, sOwnD, sStill, sPar, sAugI, sApp, sExt, sSetI, sSetH, sFor, fLc, sForD, eGetD, dOf, keyD, sMany, setAll, nNil, nSh, nOl, nOd, eCall, mBody, mInit, eMake, sSelf, sSelf2, wipeE, dSl, List.getElem?_cons_zero, List.getElem?_cons_succ, List.set_cons_zero, List.set_cons_succ, List.replicate_succ, List.replicate_zero, List.map_cons, List.map_nil, List.cons_append, List.nil_append, List.length_cons, List.length_nil, List.length_map, atI_0, atI_1, atI_2, atI_3, atI_4, atI_n, ↓reduceIte, Bool.false_eq_true, dEq_int, dNe_int, Nat.reduceAdd, Nat.zero_add, putFD, f2, dAddF, dMulF, fSl]
            refine ⟨by decide, ?_⟩
            simp only [hl, ↓reduceIte] at hn
            exact hn _ ⟨_, _, _, _, _, _, rfl, fill_snoc t s.don (g, s.bag ++ [k]), rfl, rfl⟩
        · have hl' : ¬ (1 : Int) < (s.left.length : Int) := by omega
          simp only [hl', decide_false, eVar, eRd, eC, e2, dAdd, dSub, dMul, dFdiv, dMod, dPow, dII, dI0, dLtI, dLe, dGt, dGe, eAnd, eOr, eNot, eIf, eNeg, eChain, mTru, mVal, mAnd, mOr, mNot, mYes, dTru_bl, dTru_int, dTru_non, dTru_tup, dTru_lst, dIx_lst, dIx_tup, eFld, eSl, oNone, oSome, eTup, fLst, eNew, eCB, fCB, dLen, dAbs, dInt, dTuple, dList, aNil, aCons, fLstRg, eTupRg, rRg1, rRg2, eIsi, fSeq, fRg1, fRg2, fEnum, fZip, D.items, gdName, gdTup, gdCons, gdNil, sSeq, sNext, sDrop, sRet, sRetN, sIf, sAsg, sOwn, sOwnD, sStill, sPar, sAugI, sApp, sExt, sSetI, sSetH, sFor, fLc, sForD, eGetD, dOf, keyD, sMany, setAll, nNil, nSh, nOl, nOd, eCall, mBody, mInit, eMake, sSelf, sSelf2, wipeE, dSl, List.getElem?_cons_zero, List.getElem?_cons_succ, List.set_cons_zero, List.set_cons_succ, List.replicate_succ, List.replicate_zero, List.map_cons, List.map_nil, List.cons_append, List.nil_append, List.length_cons, List.length_nil, List.length_map, atI_0, atI_1, atI_2, atI_3, atI_4, atI_n, ↓reduceIte, Bool.false_eq_true, dEq_int, dNe_int, Nat.reduceAdd, Nat.zero_add, putFD, f2, dAddF, dMulF, fSl]
          simp only [hl, ↓reduceIte] at hn
          exact hn _ ⟨_, _, _, _, _, _, rfl, rfl, rfl, rfl⟩
  · obtain ⟨A, B, C, e5, e6, e7, rfl, rfl, rfl, rfl⟩ := hs
    have inv := bst_inv R G hp1 t
    generalize bst R G p t = s at inv h0 h1 ⊢
    by_cases hl : 1 < s.left.length
    · have hl' : (1 : Int) < (s.left.length : Int) := by omega
      simp only [hl', decide_true, eVar, eRd, eC, e2, dAdd, dSub, dMul, dFdiv, dMod, dPow, dII, dI0, dLtI, dLe, dGt, dGe, eAnd, eOr, eNot, eIf, eNeg, eChain, mTru, mVal, mAnd, mOr, mNot, mYes, dTru_bl, dTru_int, dTru_non, dTru_tup, dTru_lst, dIx_lst, dIx_tup, eFld, eSl, oNone, oSome, eTup, fLst, eNew, eCB, fCB, dLen, dAbs, dInt, dTuple, dList, aNil, aCons, fLstRg, eTupRg, rRg1, rRg2, eIsi, fSeq, fRg1, fRg2, fEnum, fZip, D.items, gdName, gdTup, gdCons, gdNil, sSeq, sNext, sDrop, sRet, sRetN, sIf, sAsg, sOwn, sOwnD, sStill, sPar, sAugI, sApp, sExt, sSetI, sSetH, sFor, fLc, sForD, eGetD, dOf, keyD, sMany, setAll, nNil, nSh, nOl, nOd, eCall, mBody, mInit, eMake, sSelf, sSelf2, wipeE, dSl, List.getElem?_cons_zero, List.getElem?_cons_succ, List.set_cons_zero, List.set_cons_succ, List.replicate_succ, List.replicate_zero, List.map_cons, List.map_nil, List.cons_append, List.nil_append, List.length_cons, List.length_nil, List.length_map, atI_0, atI_1, atI_2, atI_3, atI_4, atI_n, ↓reduceIte, Bool.false_eq_true, dEq_int, dNe_int, Nat.reduceAdd, Nat.zero_add, putFD, f2, dAddF, dMulF, fSl]
      exact h0 hl
    · have hl' : ¬ (1 : Int) < (s.left.length : Int) := by omega
      obtain ⟨l, hll⟩ : ∃ l, s.left = [l] := by
        have := inv.one
        match s.left, this, hl with
        | [l], _, _ => exact ⟨l, rfl⟩
        | _ :: _ :: _, _, h => exact absurd (by simp) h
      have l11 : decide ((1 : Int) < ((1 : Nat) : Int)) = false := rfl
      simp only [hll, l11, fill_len, eVar, eRd, eC, e2, dAdd, dSub, dMul, dFdiv, dMod, dPow, dII, dI0, dLtI, dLe, dGt, dGe, eAnd, eOr, eNot, eIf, eNeg, eChain, mTru, mVal, mAnd, mOr, mNot, mYes, dTru_bl, dTru_int, dTru_non, dTru_tup, dTru_lst, dIx_lst, dIx_tup, eFld, eSl, oNone, oSome, eTup, fLst, eNew, eCB, fCB, dLen, dAbs, dInt, dTuple, dList, aNil, aCons, fLstRg, eTupRg, rRg1, rRg2, eIsi, fSeq, fRg1, fRg2, fEnum, fZip, D.items, gdName, gdTup, gdCons, gdNil, sSeq, sNext, sDrop, sRet, sRetN, sIf, sAsg, sOwn, sOwnD, sStill, sPar, sAugI, sApp, sExt, sSetI, sSetH, sFor, fLc, sForD, eGetD, dOf, keyD, sMany, setAll, nNil, nSh, nOl, nOd, eCall, mBody, mInit, eMake, sSelf, sSelf2, wipeE, dSl, List.getElem?_cons_zero, List.getElem?_cons_succ, List.set_cons_zero, List.set_cons_succ, List.replicate_succ, List.replicate_zero, List.map_cons, List.map_nil, List.cons_append, List.nil_append, List.length_cons, List.length_nil, List.length_map, atI_0, atI_1, atI_2, atI_3, atI_4, atI_n, ↓reduceIte, Bool.false_eq_true, dEq_int, dNe_int, Nat.reduceAdd, Nat.zero_add, putFD, f2, dAddF, dMulF, fSl]
      rw [fill_eq]
      refine ⟨small (by omega), lc_map (fun j => natI (own (s.don ++ [(l, s.bag)]) 0 j)) (fun j hj q hq => ?_) ?_⟩
      · have hsn : own (s.don ++ [(l, s.bag)]) 0 j = if j ∈ s.bag then l else own s.don 0 j := by
          unfold own
          rw [List.foldl_append]
          rfl
        rw [hsn] at hq
        have hj2 : j ∈ (s.don.map (·.2)).flatten ++ s.bag := by rw [inv.fl]; exact hj
        have hnd : ((s.don.map (·.2)).flatten ++ s.bag).Nodup := by rw [inv.fl]; exact List.nodup_range
        by_cases hjf : j ∈ (s.don.map (·.2)).flatten
        · have hjb : j ∉ s.bag := fun z => (List.nodup_append.mp hnd).2.2 j hjf j z rfl
          rw [if_neg hjb] at hq
          simp only [hjf, dIs, D.isNon, eVar, eRd, eC, e2, dAdd, dSub, dMul, dFdiv, dMod, dPow, dII, dI0, dLtI, dLe, dGt, dGe, eAnd, eOr, eNot, eIf, eNeg, eChain, mTru, mVal, mAnd, mOr, mNot, mYes, dTru_bl, dTru_int, dTru_non, dTru_tup, dTru_lst, dIx_lst, dIx_tup, eFld, eSl, oNone, oSome, eTup, fLst, eNew, eCB, fCB, dLen, dAbs, dInt, dTuple, dList, aNil, aCons, fLstRg, eTupRg, rRg1, rRg2, eIsi, fSeq, fRg1, fRg2, fEnum, fZip, D.items, gdName, gdTup, gdCons, gdNil, sSeq, sNext, sDrop, sRet, sRetN, sIf, sAsg, sOwn, sOwnD, sStill, sPar, sAugI, sApp, sExt, sSetI, sSetH, sFor, fLc, sForD, eGetD, dOf, keyD, sMany, setAll, nNil, nSh, nOl, nOd, eCall, mBody, mInit, eMake, sSelf, sSelf2, wipeE, dSl, List.getElem?_cons_zero, List.getElem?_cons_succ, List.set_cons_zero, List.set_cons_succ, List.replicate_succ, List.replicate_zero, List.map_cons, List.map_nil, List.cons_append, List.nil_append, List.length_cons, List.length_nil, List.length_map, atI_0, atI_1, atI_2, atI_3, atI_4, atI_n, ↓reduceIte, Bool.false_eq_true, dEq_int, dNe_int, Nat.reduceAdd, Nat.zero_add, putFD, f2, dAddF, dMulF, fSl]
          exact hq
        · have hjb : j ∈ s.bag := (List.mem_append.mp hj2).resolve_left hjf
          rw [if_pos hjb] at hq
          simp only [hjf, dIs, D.isNon, eVar, eRd, eC, e2, dAdd, dSub, dMul, dFdiv, dMod, dPow, dII, dI0, dLtI, dLe, dGt, dGe, eAnd, eOr, eNot, eIf, eNeg, eChain, mTru, mVal, mAnd, mOr, mNot, mYes, dTru_bl, dTru_int, dTru_non, dTru_tup, dTru_lst, dIx_lst, dIx_tup, eFld, eSl, oNone, oSome, eTup, fLst, eNew, eCB, fCB, dLen, dAbs, dInt, dTuple, dList, aNil, aCons, fLstRg, eTupRg, rRg1, rRg2, eIsi, fSeq, fRg1, fRg2, fEnum, fZip, D.items, gdName, gdTup, gdCons, gdNil, sSeq, sNext, sDrop, sRet, sRetN, sIf, sAsg, sOwn, sOwnD, sStill, sPar, sAugI, sApp, sExt, sSetI, sSetH, sFor, fLc, sForD, eGetD, dOf, keyD, sMany, setAll, nNil, nSh, nOl, nOd, eCall, mBody, mInit, eMake, sSelf, sSelf2, wipeE, dSl, List.getElem?_cons_zero, List.getElem?_cons_succ, List.set_cons_zero, List.set_cons_succ, List.replicate_succ, List.replicate_zero, List.map_cons, List.map_nil, List.cons_append, List.nil_append, List.length_cons, List.length_nil, List.length_map, atI_0, atI_1, atI_2, atI_3, atI_4, atI_n, ↓reduceIte, Bool.false_eq_true, dEq_int, dNe_int, Nat.reduceAdd, Nat.zero_add, putFD, f2, dAddF, dMulF, fSl]
          exact hq
      · have := h1 l hll
        unfold due at this
        rw [nats, List.map_map] at this
        exact this
/-! ### the bag as told -/
def okG (R : List (List Int)) (p t : Nat) (G : List Int) (d : List Nat) : Bool := ((List.range p).zip G).all fun x => decide (x.2 ≤ gain R t d x.1)
theorem zip_gains (d : List Nat) (G : List Int) : zipD ((List.range p).map fun i => D.int (gain R t d i)) (G.map D.int) = ((List.range p).zip G).map fun x => D.tup [.int (gain R t d x.1), .int x.2] := zipD_map _ _ _ _
theorem isNon_tup (l : List D) : (D.tup l).isNon = false := rfl
theorem w_is_told_bag (T : Tab p t R) {G : List Int} (hG : G.length = p) (h0 : 1 < (bst R G p t).left.length → q (.bl false))
    (h1 : ∀ l, (bst R G p t).left = [l] → q (.bl (okG R p t G (due t ((bst R G p t).don ++ [(l, (bst R G p t).bag)]))))) :
    m_is_told_bag [tab p t R, intL G] q qe := by
  have hp := T.p5
  have hp1 := T.p1
  simp only [m_is_told_bag_eq, f_is_told_bag, eVar, eRd, eC, e2, dAdd, dSub, dMul, dFdiv, dMod, dPow, dII, dI0, dLtI, dLe, dGt, dGe, eAnd, eOr, eNot, eIf, eNeg, eChain, mTru, mVal, mAnd, mOr, mNot, mYes, dTru_bl, dTru_int, dTru_non, dTru_tup, dTru_lst, dIx_lst, dIx_tup, eFld, eSl, oNone, oSome, eTup, fLst, eNew, eCB, fCB, dLen, dAbs, dInt, dTuple, dList, aNil, aCons, fLstRg, eTupRg, rRg1, rRg2, eIsi, fSeq, fRg1, fRg2, fEnum, fZip, D.items, gdName, gdTup, gdCons, gdNil, sSeq, sNext, sDrop, sRet, sRetN, sIf, sAsg, sOwn, sOwnD, sStill, sPar, sAugI, sApp, sExt, sSetI, sSetH, sFor, fLc, sForD, eGetD, dOf, keyD, sMany, setAll, nNil, nSh, nOl, nOd, eCall, mBody, mInit, eMake, sSelf, sSelf2, wipeE, dSl, List.getElem?_cons_zero, List.getElem?_cons_succ, List.set_cons_zero, List.set_cons_succ, List.replicate_succ, List.replicate_zero, List.map_cons, List.map_nil, List.cons_append, List.nil_append, List.length_cons, List.length_nil, List.length_map, atI_0, atI_1, atI_2, atI_3, atI_4, atI_n, ↓reduceIte, Bool.false_eq_true, dEq_int, dNe_int, Nat.reduceAdd, Nat.zero_add, putFD, f2, dAddF, dMulF, fSl]
  refine w_bag_filled T hG (fun h => ?_) (fun l hl => ?_)
  · simp only [dIsNot, D.isNon, Bool.not_true, eVar, eRd, eC, e2, dAdd, dSub, dMul, dFdiv, dMod, dPow, dII, dI0, dLtI, dLe, dGt, dGe, eAnd, eOr, eNot, eIf, eNeg, eChain, mTru, mVal, mAnd, mOr, mNot, mYes, dTru_bl, dTru_int, dTru_non, dTru_tup, dTru_lst, dIx_lst, dIx_tup, eFld, eSl, oNone, oSome, eTup, fLst, eNew, eCB, fCB, dLen, dAbs, dInt, dTuple, dList, aNil, aCons, fLstRg, eTupRg, rRg1, rRg2, eIsi, fSeq, fRg1, fRg2, fEnum, fZip, D.items, gdName, gdTup, gdCons, gdNil, sSeq, sNext, sDrop, sRet, sRetN, sIf, sAsg, sOwn, sOwnD, sStill, sPar, sAugI, sApp, sExt, sSetI, sSetH, sFor, fLc, sForD, eGetD, dOf, keyD, sMany, setAll, nNil, nSh, nOl, nOd, eCall, mBody, mInit, eMake, sSelf, sSelf2, wipeE, dSl, List.getElem?_cons_zero, List.getElem?_cons_succ, List.set_cons_zero, List.set_cons_succ, List.replicate_succ, List.replicate_zero, List.map_cons, List.map_nil, List.cons_append, List.nil_append, List.length_cons, List.length_nil, List.length_map, atI_0, atI_1, atI_2, atI_3, atI_4, atI_n, ↓reduceIte, Bool.false_eq_true, dEq_int, dNe_int, Nat.reduceAdd, Nat.zero_add, putFD, f2, dAddF, dMulF, fSl]
    exact h0 h
  · have inv := bst_inv R G hp1 t
    have h1' := h1 l hl
    generalize bst R G p t = s at inv h1' hl ⊢
    have hd : Deal p t (due t (s.don ++ [(l, s.bag)])) := due_deal hp1 inv.flat fun e he => (inv.mem hl).mp (List.mem_map.mpr ⟨e, he, rfl⟩)
    simp only [dIsNot, isNon_tup, Bool.not_false, eVar, eRd, eC, e2, dAdd, dSub, dMul, dFdiv, dMod, dPow, dII, dI0, dLtI, dLe, dGt, dGe, eAnd, eOr, eNot, eIf, eNeg, eChain, mTru, mVal, mAnd, mOr, mNot, mYes, dTru_bl, dTru_int, dTru_non, dTru_tup, dTru_lst, dIx_lst, dIx_tup, eFld, eSl, oNone, oSome, eTup, fLst, eNew, eCB, fCB, dLen, dAbs, dInt, dTuple, dList, aNil, aCons, fLstRg, eTupRg, rRg1, rRg2, eIsi, fSeq, fRg1, fRg2, fEnum, fZip, D.items, gdName, gdTup, gdCons, gdNil, sSeq, sNext, sDrop, sRet, sRetN, sIf, sAsg, sOwn, sOwnD, sStill, sPar, sAugI, sApp, sExt, sSetI, sSetH, sFor, fLc, sForD, eGetD, dOf, keyD, sMany, setAll, nNil, nSh, nOl, nOd, eCall, mBody, mInit, eMake, sSelf, sSelf2, wipeE, dSl, List.getElem?_cons_zero, List.getElem?_cons_succ, List.set_cons_zero, List.set_cons_succ, List.replicate_succ, List.replicate_zero, List.map_cons, List.map_nil, List.cons_append, List.nil_append, List.length_cons, List.length_nil, List.length_map, atI_0, atI_1, atI_2, atI_3, atI_4, atI_n, ↓reduceIte, Bool.false_eq_true, dEq_int, dNe_int, Nat.reduceAdd, Nat.zero_add, putFD, f2, dAddF, dMulF, fSl]
    refine w_gains T hd ?_
    simp only [zip_gains, eVar, eRd, eC, e2, dAdd, dSub, dMul, dFdiv, dMod, dPow, dII, dI0, dLtI, dLe, dGt, dGe, eAnd, eOr, eNot, eIf, eNeg, eChain, mTru, mVal, mAnd, mOr, mNot, mYes, dTru_bl, dTru_int, dTru_non, dTru_tup, dTru_lst, dIx_lst, dIx_tup, eFld, eSl, oNone, oSome, eTup, fLst, eNew, eCB, fCB, dLen, dAbs, dInt, dTuple, dList, aNil, aCons, fLstRg, eTupRg, rRg1, rRg2, eIsi, fSeq, fRg1, fRg2, fEnum, fZip, D.items, gdName, gdTup, gdCons, gdNil, sSeq, sNext, sDrop, sRet, sRetN, sIf, sAsg, sOwn, sOwnD, sStill, sPar, sAugI, sApp, sExt, sSetI, sSetH, sFor, fLc, sForD, eGetD, dOf, keyD, sMany, setAll, nNil, nSh, nOl, nOd, eCall, mBody, mInit, eMake, sSelf, sSelf2, wipeE, dSl, List.getElem?_cons_zero, List.getElem?_cons_succ, List.set_cons_zero, List.set_cons_succ, List.replicate_succ, List.replicate_zero, List.map_cons, List.map_nil, List.cons_append, List.nil_append, List.length_cons, List.length_nil, List.length_map, atI_0, atI_1, atI_2, atI_3, atI_4, atI_n, ↓reduceIte, Bool.false_eq_true, dEq_int, dNe_int, Nat.reduceAdd, Nat.zero_add, putFD, f2, dAddF, dMulF, fSl]
    refine ⟨small (by rw [List.length_zip, List.length_range]; omega), lc_map (fun x => .bl (decide (x.2 ≤ gain R t (due t (s.don ++ [(l, s.bag)])) x.1))) (fun x hx k hk => ?_) ?_⟩
    · simp only [true_and, eVar, eRd, eC, e2, dAdd, dSub, dMul, dFdiv, dMod, dPow, dII, dI0, dLtI, dLe, dGt, dGe, eAnd, eOr, eNot, eIf, eNeg, eChain, mTru, mVal, mAnd, mOr, mNot, mYes, dTru_bl, dTru_int, dTru_non, dTru_tup, dTru_lst, dIx_lst, dIx_tup, eFld, eSl, oNone, oSome, eTup, fLst, eNew, eCB, fCB, dLen, dAbs, dInt, dTuple, dList, aNil, aCons, fLstRg, eTupRg, rRg1, rRg2, eIsi, fSeq, fRg1, fRg2, fEnum, fZip, D.items, gdName, gdTup, gdCons, gdNil, sSeq, sNext, sDrop, sRet, sRetN, sIf, sAsg, sOwn, sOwnD, sStill, sPar, sAugI, sApp, sExt, sSetI, sSetH, sFor, fLc, sForD, eGetD, dOf, keyD, sMany, setAll, nNil, nSh, nOl, nOd, eCall, mBody, mInit, eMake, sSelf, sSelf2, wipeE, dSl, List.getElem?_cons_zero, List.getElem?_cons_succ, List.set_cons_zero, List.set_cons_succ, List.replicate_succ, List.replicate_zero, List.map_cons, List.map_nil, List.cons_append, List.nil_append, List.length_cons, List.length_nil, List.length_map, atI_0, atI_1, atI_2, atI_3, atI_4, atI_n, ↓reduceIte, Bool.false_eq_true, dEq_int, dNe_int, Nat.reduceAdd, Nat.zero_add, putFD, f2, dAddF, dMulF, fSl]
      exact hk
    · rw [dAll_map]
      exact h1'
/-! ### the law -/
theorem tab_fold (p t : Nat) (R : List (List Int)) : D.obj (Str.ofString "Table") [(Str.ofString "persons", .int (p : Int)), (Str.ofString "things", .int (t : Int)), (Str.ofString "rows", .tup (R.map intT))] = tab p t R := rfl
theorem sum_bd : ∀ (r : List Int), (∀ x ∈ r, 0 ≤ x ∧ x ≤ 12) → 0 ≤ r.sum ∧ r.sum ≤ 12 * (r.length : Int)
  | [], _ => ⟨Int.le_refl _, Int.le_refl _⟩
  | x :: xs, h => by
    have h1 := h x (List.mem_cons_self ..)
    have h2 := sum_bd xs fun y hy => h y (List.mem_cons_of_mem _ hy)
    rw [List.sum_cons, List.length_cons]
    omega
theorem okq_nats (l : List Nat) : (nats l).okq = true := okq_deep (n := 1) (by omega) (deep_tup (deeps_map fun _ _ => deep_int _ _))
theorem okq_natss {α : Type} (f : α → List Nat) (l : List α) : (D.tup (l.map fun i => nats (f i))).okq = true := okq_deep (n := 2) (by omega) (deep_tup (deeps_map fun _ _ => deep_tup (deeps_map fun _ _ => deep_int _ _)))
def allTo (R : List (List Int)) (p t : Nat) (d : List Nat) (k : Nat) : Bool := (List.range k).all fun i => (List.range p).all fun j => okP R t d i j
def allIn (R : List (List Int)) (t : Nat) (d : List Nat) (i k : Nat) : Bool := (List.range k).all fun j => okP R t d i j
theorem allIn_succ (R : List (List Int)) (t : Nat) (d : List Nat) (i k : Nat) : allIn R t d i (k + 1) = (allIn R t d i k && okP R t d i k) := by
  unfold allIn
  rw [List.range_succ, List.all_append]
  simp
theorem allTo_succ (R : List (List Int)) (p t : Nat) (d : List Nat) (k : Nat) : allTo R p t d (k + 1) = (allTo R p t d k && allIn R t d k p) := by
  unfold allTo allIn
  rw [List.range_succ, List.all_append]
  simp
theorem law_works : f_law ((List.replicate (1 + lawMore) .no).set lawSlot (.sh .hand)) ⟨fun _ => False, fun _ d => d = .bl true, fun _ => False, fun _ => False⟩ (fun _ => False) := by
  simp only [f_law, l_25, lawMore, lawSlot, rgD_3, Nat.reduceAdd, eVar, eRd, eC, e2, dAdd, dSub, dMul, dFdiv, dMod, dPow, dII, dI0, dLtI, dLe, dGt, dGe, eAnd, eOr, eNot, eIf, eNeg, eChain, mTru, mVal, mAnd, mOr, mNot, mYes, dTru_bl, dTru_int, dTru_non, dTru_tup, dTru_lst, dIx_lst, dIx_tup, eFld, eSl, oNone, oSome, eTup, fLst, eNew, eCB, fCB, dLen, dAbs, dInt, dTuple, dList, aNil, aCons, fLstRg, eTupRg, rRg1, rRg2, eIsi, fSeq, fRg1, fRg2, fEnum, fZip, D.items, gdName, gdTup, gdCons, gdNil, sSeq, sNext, sDrop, sRet, sRetN, sIf, sAsg, sOwn, sOwnD, sStill, sPar, sAugI, sApp, sExt, sSetI, sSetH, sFor, fLc, sForD, eGetD, dOf, keyD, sMany, setAll, nNil, nSh, nOl, nOd, eCall, mBody, mInit, eMake, sSelf, sSelf2, wipeE, dSl, List.getElem?_cons_zero, List.getElem?_cons_succ, List.set_cons_zero, List.set_cons_succ, List.replicate_succ, List.replicate_zero, List.map_cons, List.map_nil, List.cons_append, List.nil_append, List.length_cons, List.length_nil, List.length_map, atI_0, atI_1, atI_2, atI_3, atI_4, atI_n, ↓reduceIte, Bool.false_eq_true, dEq_int, dNe_int, Nat.reduceAdd, Nat.zero_add, putFD, f2, dAddF, dMulF, fSl]
  refine ⟨by unfold RgB; omega, ?_⟩
  refine for_rng (fun _ ρ => ∃ u2 u3 u4 u5 u6 u7 u8 u9 u10 u11 u12 u13 u14 u15 u16, ρ = [.no, .sh .hand, u2, u3, u4, u5, u6, u7, u8, u9, u10, u11, u12, u13, u14, u15, u16, .no, .no, .no, .no, .no]) ⟨_, _, _, _, _, _, _, _, _, _, _, _, _, _, _, rfl⟩ (fun n1 ρ nx hn1 hs hk => ?_) (fun ρ hs => ?_)
  · obtain ⟨u2, u3, u4, u5, u6, u7, u8, u9, u10, u11, u12, u13, u14, u15, u16, rfl⟩ := hs
    simp only [l_1, eVar, eRd, eC, e2, dAdd, dSub, dMul, dFdiv, dMod, dPow, dII, dI0, dLtI, dLe, dGt, dGe, eAnd, eOr, eNot, eIf, eNeg, eChain, mTru, mVal, mAnd, mOr, mNot, mYes, dTru_bl, dTru_int, dTru_non, dTru_tup, dTru_lst, dIx_lst, dIx_tup, eFld, eSl, oNone, oSome, eTup, fLst, eNew, eCB, fCB, dLen, dAbs, dInt, dTuple, dList, aNil, aCons, fLstRg, eTupRg, rRg1, rRg2, eIsi, fSeq, fRg1, fRg2, fEnum, fZip, D.items, gdName, gdTup, gdCons, gdNil, sSeq, sNext, sDrop, sRet, sRetN, sIf, sAsg, sOwn, sOwnD, sStill, sPar, sAugI, sApp, sExt, sSetI, sSetH, sFor, fLc, sForD, eGetD, dOf, keyD, sMany, setAll, nNil, nSh, nOl, nOd, eCall, mBody, mInit, eMake, sSelf, sSelf2, wipeE, dSl, List.getElem?_cons_zero, List.getElem?_cons_succ, List.set_cons_zero, List.set_cons_succ, List.replicate_succ, List.replicate_zero, List.map_cons, List.map_nil, List.cons_append, List.nil_append, List.length_cons, List.length_nil, List.length_map, atI_0, atI_1, atI_2, atI_3, atI_4, atI_n, ↓reduceIte, Bool.false_eq_true, dEq_int, dNe_int, Nat.reduceAdd, Nat.zero_add, putFD, f2, dAddF, dMulF, fSl]
    refine draw_lit (by omega) (by omega) fun j hj => draw_lit (by omega) (by omega) fun t ht => ?_
    obtain ⟨p, hp, hp2, hp3⟩ : ∃ p : Nat, (2 + (j : Int)) = (p : Int) ∧ 2 ≤ p ∧ p ≤ 3 := ⟨2 + j, by omega, by omega, by omega⟩
    simp only [hp, l_2, eVar, eRd, eC, e2, dAdd, dSub, dMul, dFdiv, dMod, dPow, dII, dI0, dLtI, dLe, dGt, dGe, eAnd, eOr, eNot, eIf, eNeg, eChain, mTru, mVal, mAnd, mOr, mNot, mYes, dTru_bl, dTru_int, dTru_non, dTru_tup, dTru_lst, dIx_lst, dIx_tup, eFld, eSl, oNone, oSome, eTup, fLst, eNew, eCB, fCB, dLen, dAbs, dInt, dTuple, dList, aNil, aCons, fLstRg, eTupRg, rRg1, rRg2, eIsi, fSeq, fRg1, fRg2, fEnum, fZip, D.items, gdName, gdTup, gdCons, gdNil, sSeq, sNext, sDrop, sRet, sRetN, sIf, sAsg, sOwn, sOwnD, sStill, sPar, sAugI, sApp, sExt, sSetI, sSetH, sFor, fLc, sForD, eGetD, dOf, keyD, sMany, setAll, nNil, nSh, nOl, nOd, eCall, mBody, mInit, eMake, sSelf, sSelf2, wipeE, dSl, List.getElem?_cons_zero, List.getElem?_cons_succ, List.set_cons_zero, List.set_cons_succ, List.replicate_succ, List.replicate_zero, List.map_cons, List.map_nil, List.cons_append, List.nil_append, List.length_cons, List.length_nil, List.length_map, atI_0, atI_1, atI_2, atI_3, atI_4, atI_n, ↓reduceIte, Bool.false_eq_true, dEq_int, dNe_int, Nat.reduceAdd, Nat.zero_add, putFD, f2, dAddF, dMulF, fSl]
    refine w_law_rows (by omega) (by omega) fun R hR => ?_
    have T : Tab p t R := hR.tab (by omega) (by omega) (by omega)
    simp only [l_3, eVar, eRd, eC, e2, dAdd, dSub, dMul, dFdiv, dMod, dPow, dII, dI0, dLtI, dLe, dGt, dGe, eAnd, eOr, eNot, eIf, eNeg, eChain, mTru, mVal, mAnd, mOr, mNot, mYes, dTru_bl, dTru_int, dTru_non, dTru_tup, dTru_lst, dIx_lst, dIx_tup, eFld, eSl, oNone, oSome, eTup, fLst, eNew, eCB, fCB, dLen, dAbs, dInt, dTuple, dList, aNil, aCons, fLstRg, eTupRg, rRg1, rRg2, eIsi, fSeq, fRg1, fRg2, fEnum, fZip, D.items, gdName, gdTup, gdCons, gdNil, sSeq, sNext, sDrop, sRet, sRetN, sIf, sAsg, sOwn, sOwnD, sStill, sPar, sAugI, sApp, sExt, sSetI, sSetH, sFor, fLc, sForD, eGetD, dOf, keyD, sMany, setAll, nNil, nSh, nOl, nOd, eCall, mBody, mInit, eMake, sSelf, sSelf2, wipeE, dSl, List.getElem?_cons_zero, List.getElem?_cons_succ, List.set_cons_zero, List.set_cons_succ, List.replicate_succ, List.replicate_zero, List.map_cons, List.map_nil, List.cons_append, List.nil_append, List.length_cons, List.length_nil, List.length_map, atI_0, atI_1, atI_2, atI_3, atI_4, atI_n, ↓reduceIte, Bool.false_eq_true, dEq_int, dNe_int, Nat.reduceAdd, Nat.zero_add, putFD, f2, dAddF, dMulF, fSl]
    refine w_Table T ?_
    simp only [l_14, tab_fold, rgD_3, eVar, eRd, eC, e2, dAdd, dSub, dMul, dFdiv, dMod, dPow, dII, dI0, dLtI, dLe, dGt, dGe, eAnd, eOr, eNot, eIf, eNeg, eChain, mTru, mVal, mAnd, mOr, mNot, mYes, dTru_bl, dTru_int, dTru_non, dTru_tup, dTru_lst, dIx_lst, dIx_tup, eFld, eSl, oNone, oSome, eTup, fLst, eNew, eCB, fCB, dLen, dAbs, dInt, dTuple, dList, aNil, aCons, fLstRg, eTupRg, rRg1, rRg2, eIsi, fSeq, fRg1, fRg2, fEnum, fZip, D.items, gdName, gdTup, gdCons, gdNil, sSeq, sNext, sDrop, sRet, sRetN, sIf, sAsg, sOwn, sOwnD, sStill, sPar, sAugI, sApp, sExt, sSetI, sSetH, sFor, fLc, sForD, eGetD, dOf, keyD, sMany, setAll, nNil, nSh, nOl, nOd, eCall, mBody, mInit, eMake, sSelf, sSelf2, wipeE, dSl, List.getElem?_cons_zero, List.getElem?_cons_succ, List.set_cons_zero, List.set_cons_succ, List.replicate_succ, List.replicate_zero, List.map_cons, List.map_nil, List.cons_append, List.nil_append, List.length_cons, List.length_nil, List.length_map, atI_0, atI_1, atI_2, atI_3, atI_4, atI_n, ↓reduceIte, Bool.false_eq_true, dEq_int, dNe_int, Nat.reduceAdd, Nat.zero_add, putFD, f2, dAddF, dMulF, fSl]
    refine ⟨by unfold RgB; omega, ?_⟩
    refine for_rng (fun k ρ => ∃ u7 u8 u9 u10 u11 u12 u13 u14 u15 u16, (0 < k → ∃ d, Deal p t d ∧ u8 = .sh (nats d)) ∧ ρ = [.no, .sh .hand, .sh (.int (n1 : Nat)), .sh (.int (p : Nat)), .sh (.int (t : Nat)), .sh (.lst (R.map intL)), .sh (tab p t R), u7, u8, u9, u10, u11, u12, u13, u14, u15, u16, .no, .no, .no, .no, .no]) ⟨_, _, _, _, _, _, _, _, _, _, fun z => absurd z (Nat.lt_irrefl _), rfl⟩ (fun n2 ρ nx2 hn2 hs2 hk2 => ?_) (fun ρ hs2 => ?_)
    · obtain ⟨u7, u8, u9, u10, u11, u12, u13, u14, u15, u16, _, rfl⟩ := hs2
      simp only [l_4, rgD_0, List.length_range, eVar, eRd, eC, e2, dAdd, dSub, dMul, dFdiv, dMod, dPow, dII, dI0, dLtI, dLe, dGt, dGe, eAnd, eOr, eNot, eIf, eNeg, eChain, mTru, mVal, mAnd, mOr, mNot, mYes, dTru_bl, dTru_int, dTru_non, dTru_tup, dTru_lst, dIx_lst, dIx_tup, eFld, eSl, oNone, oSome, eTup, fLst, eNew, eCB, fCB, dLen, dAbs, dInt, dTuple, dList, aNil, aCons, fLstRg, eTupRg, rRg1, rRg2, eIsi, fSeq, fRg1, fRg2, fEnum, fZip, D.items, gdName, gdTup, gdCons, gdNil, sSeq, sNext, sDrop, sRet, sRetN, sIf, sAsg, sOwn, sOwnD, sStill, sPar, sAugI, sApp, sExt, sSetI, sSetH, sFor, fLc, sForD, eGetD, dOf, keyD, sMany, setAll, nNil, nSh, nOl, nOd, eCall, mBody, mInit, eMake, sSelf, sSelf2, wipeE, dSl, List.getElem?_cons_zero, List.getElem?_cons_succ, List.set_cons_zero, List.set_cons_succ, List.replicate_succ, List.replicate_zero, List.map_cons, List.map_nil, List.cons_append, List.nil_append, List.length_cons, List.length_nil, List.length_map, atI_0, atI_1, atI_2, atI_3, atI_4, atI_n, ↓reduceIte, Bool.false_eq_true, dEq_int, dNe_int, Nat.reduceAdd, Nat.zero_add, putFD, f2, dAddF, dMulF, fSl]
      refine ⟨rgB_small (by omega), small (by omega), lc_all (P := fun _ d => ∃ n : Nat, d = natI n ∧ n < p) (fun i hi k hk => ?_) (fun ds hds => ?_)⟩
      · simp only [eVar, eRd, eC, e2, dAdd, dSub, dMul, dFdiv, dMod, dPow, dII, dI0, dLtI, dLe, dGt, dGe, eAnd, eOr, eNot, eIf, eNeg, eChain, mTru, mVal, mAnd, mOr, mNot, mYes, dTru_bl, dTru_int, dTru_non, dTru_tup, dTru_lst, dIx_lst, dIx_tup, eFld, eSl, oNone, oSome, eTup, fLst, eNew, eCB, fCB, dLen, dAbs, dInt, dTuple, dList, aNil, aCons, fLstRg, eTupRg, rRg1, rRg2, eIsi, fSeq, fRg1, fRg2, fEnum, fZip, D.items, gdName, gdTup, gdCons, gdNil, sSeq, sNext, sDrop, sRet, sRetN, sIf, sAsg, sOwn, sOwnD, sStill, sPar, sAugI, sApp, sExt, sSetI, sSetH, sFor, fLc, sForD, eGetD, dOf, keyD, sMany, setAll, nNil, nSh, nOl, nOd, eCall, mBody, mInit, eMake, sSelf, sSelf2, wipeE, dSl, List.getElem?_cons_zero, List.getElem?_cons_succ, List.set_cons_zero, List.set_cons_succ, List.replicate_succ, List.replicate_zero, List.map_cons, List.map_nil, List.cons_append, List.nil_append, List.length_cons, List.length_nil, List.length_map, atI_0, atI_1, atI_2, atI_3, atI_4, atI_n, ↓reduceIte, Bool.false_eq_true, dEq_int, dNe_int, Nat.reduceAdd, Nat.zero_add, putFD, f2, dAddF, dMulF, fSl]
        exact draw_nat (by omega) (by omega) fun j hj => hk _ ⟨j, rfl, hj⟩
      · obtain ⟨d, rfl, hdd⟩ := all2_of (mk := natI) (R := fun _ n => n < p) (fun _ _ z => z) hds
        have hd : Deal p t d := ⟨by have := hdd.length; rw [List.length_range] at this; exact this.symm, hdd.right (Q := fun n => n < p) fun _ _ z => z⟩
        simp only [l_5, l_12, rgD_0, eVar, eRd, eC, e2, dAdd, dSub, dMul, dFdiv, dMod, dPow, dII, dI0, dLtI, dLe, dGt, dGe, eAnd, eOr, eNot, eIf, eNeg, eChain, mTru, mVal, mAnd, mOr, mNot, mYes, dTru_bl, dTru_int, dTru_non, dTru_tup, dTru_lst, dIx_lst, dIx_tup, eFld, eSl, oNone, oSome, eTup, fLst, eNew, eCB, fCB, dLen, dAbs, dInt, dTuple, dList, aNil, aCons, fLstRg, eTupRg, rRg1, rRg2, eIsi, fSeq, fRg1, fRg2, fEnum, fZip, D.items, gdName, gdTup, gdCons, gdNil, sSeq, sNext, sDrop, sRet, sRetN, sIf, sAsg, sOwn, sOwnD, sStill, sPar, sAugI, sApp, sExt, sSetI, sSetH, sFor, fLc, sForD, eGetD, dOf, keyD, sMany, setAll, nNil, nSh, nOl, nOd, eCall, mBody, mInit, eMake, sSelf, sSelf2, wipeE, dSl, List.getElem?_cons_zero, List.getElem?_cons_succ, List.set_cons_zero, List.set_cons_succ, List.replicate_succ, List.replicate_zero, List.map_cons, List.map_nil, List.cons_append, List.nil_append, List.length_cons, List.length_nil, List.length_map, atI_0, atI_1, atI_2, atI_3, atI_4, atI_n, ↓reduceIte, Bool.false_eq_true, dEq_int, dNe_int, Nat.reduceAdd, Nat.zero_add, putFD, f2, dAddF, dMulF, fSl]
        refine ⟨rgB_small (by omega), ?_⟩
        refine for_rng (fun k ρ => ∃ u10 u11 u12 u13, ρ = [.no, .sh .hand, .sh (.int (n1 : Nat)), .sh (.int (p : Nat)), .sh (.int (t : Nat)), .sh (.lst (R.map intL)), .sh (tab p t R), .sh (.int (n2 : Nat)), .sh (nats d), .sh (.bl (allTo R p t d k)), u10, u11, u12, u13, u14, u15, u16, .no, .no, .no, .no, .no]) ⟨_, _, _, _, rfl⟩ (fun i ρ nx3 hi hs3 hk3 => ?_) (fun ρ hs3 => ?_)
        · obtain ⟨u10, u11, u12, u13, rfl⟩ := hs3
          simp only [l_11, rgD_0, eVar, eRd, eC, e2, dAdd, dSub, dMul, dFdiv, dMod, dPow, dII, dI0, dLtI, dLe, dGt, dGe, eAnd, eOr, eNot, eIf, eNeg, eChain, mTru, mVal, mAnd, mOr, mNot, mYes, dTru_bl, dTru_int, dTru_non, dTru_tup, dTru_lst, dIx_lst, dIx_tup, eFld, eSl, oNone, oSome, eTup, fLst, eNew, eCB, fCB, dLen, dAbs, dInt, dTuple, dList, aNil, aCons, fLstRg, eTupRg, rRg1, rRg2, eIsi, fSeq, fRg1, fRg2, fEnum, fZip, D.items, gdName, gdTup, gdCons, gdNil, sSeq, sNext, sDrop, sRet, sRetN, sIf, sAsg, sOwn, sOwnD, sStill, sPar, sAugI, sApp, sExt, sSetI, sSetH, sFor, fLc, sForD, eGetD, dOf, keyD, sMany, setAll, nNil, nSh, nOl, nOd, eCall, mBody, mInit, eMake, sSelf, sSelf2, wipeE, dSl, List.getElem?_cons_zero, List.getElem?_cons_succ, List.set_cons_zero, List.set_cons_succ, List.replicate_succ, List.replicate_zero, List.map_cons, List.map_nil, List.cons_append, List.nil_append, List.length_cons, List.length_nil, List.length_map, atI_0, atI_1, atI_2, atI_3, atI_4, atI_n, ↓reduceIte, Bool.false_eq_true, dEq_int, dNe_int, Nat.reduceAdd, Nat.zero_add, putFD, f2, dAddF, dMulF, fSl]
          refine ⟨rgB_small (by omega), ?_⟩
          refine for_rng (fun k ρ => ∃ u11 u12 u13, ρ = [.no, .sh .hand, .sh (.int (n1 : Nat)), .sh (.int (p : Nat)), .sh (.int (t : Nat)), .sh (.lst (R.map intL)), .sh (tab p t R), .sh (.int (n2 : Nat)), .sh (nats d), .sh (.bl (allTo R p t d i && allIn R t d i k)), .sh (.int (i : Nat)), u11, u12, u13, u14, u15, u16, .no, .no, .no, .no, .no]) ⟨u11, u12, u13, by rw [show allIn R t d i 0 = true from rfl, Bool.and_true]⟩ (fun j ρ nx4 hj hs4 hk4 => ?_) (fun ρ hs4 => ?_)
          · obtain ⟨u11, u12, u13, rfl⟩ := hs4
            rw [allIn_succ] at hk4
            simp only [l_10, cast_beq, eVar, eRd, eC, e2, dAdd, dSub, dMul, dFdiv, dMod, dPow, dII, dI0, dLtI, dLe, dGt, dGe, eAnd, eOr, eNot, eIf, eNeg, eChain, mTru, mVal, mAnd, mOr, mNot, mYes, dTru_bl, dTru_int, dTru_non, dTru_tup, dTru_lst, dIx_lst, dIx_tup, eFld, eSl, oNone, oSome, eTup, fLst, eNew, eCB, fCB, dLen, dAbs, dInt, dTuple, dList, aNil, aCons, fLstRg, eTupRg, rRg1, rRg2, eIsi, fSeq, fRg1, fRg2, fEnum, fZip, D.items, gdName, gdTup, gdCons, gdNil, sSeq, sNext, sDrop, sRet, sRetN, sIf, sAsg, sOwn, sOwnD, sStill, sPar, sAugI, sApp, sExt, sSetI, sSetH, sFor, fLc, sForD, eGetD, dOf, keyD, sMany, setAll, nNil, nSh, nOl, nOd, eCall, mBody, mInit, eMake, sSelf, sSelf2, wipeE, dSl, List.getElem?_cons_zero, List.getElem?_cons_succ, List.set_cons_zero, List.set_cons_succ, List.replicate_succ, List.replicate_zero, List.map_cons, List.map_nil, List.cons_append, List.nil_append, List.length_cons, List.length_nil, List.length_map, atI_0, atI_1, atI_2, atI_3, atI_4, atI_n, ↓reduceIte, Bool.false_eq_true, dEq_int, dNe_int, Nat.reduceAdd, Nat.zero_add, putFD, f2, dAddF, dMulF, fSl]
            by_cases e : (j == i) = true
            · have eo : okP R t d i j = true := by unfold okP; rw [e]; rfl
              simp only [e, Bool.not_true, eVar, eRd, eC, e2, dAdd, dSub, dMul, dFdiv, dMod, dPow, dII, dI0, dLtI, dLe, dGt, dGe, eAnd, eOr, eNot, eIf, eNeg, eChain, mTru, mVal, mAnd, mOr, mNot, mYes, dTru_bl, dTru_int, dTru_non, dTru_tup, dTru_lst, dIx_lst, dIx_tup, eFld, eSl, oNone, oSome, eTup, fLst, eNew, eCB, fCB, dLen, dAbs, dInt, dTuple, dList, aNil, aCons, fLstRg, eTupRg, rRg1, rRg2, eIsi, fSeq, fRg1, fRg2, fEnum, fZip, D.items, gdName, gdTup, gdCons, gdNil, sSeq, sNext, sDrop, sRet, sRetN, sIf, sAsg, sOwn, sOwnD, sStill, sPar, sAugI, sApp, sExt, sSetI, sSetH, sFor, fLc, sForD, eGetD, dOf, keyD, sMany, setAll, nNil, nSh, nOl, nOd, eCall, mBody, mInit, eMake, sSelf, sSelf2, wipeE, dSl, List.getElem?_cons_zero, List.getElem?_cons_succ, List.set_cons_zero, List.set_cons_succ, List.replicate_succ, List.replicate_zero, List.map_cons, List.map_nil, List.cons_append, List.nil_append, List.length_cons, List.length_nil, List.length_map, atI_0, atI_1, atI_2, atI_3, atI_4, atI_n, ↓reduceIte, Bool.false_eq_true, dEq_int, dNe_int, Nat.reduceAdd, Nat.zero_add, putFD, f2, dAddF, dMulF, fSl]
              rw [eo, Bool.and_true] at hk4
              exact hk4 _ ⟨_, _, _, rfl⟩
            · have e' : (j == i) = false := by simpa using e
              have hbl := (both_lot (t := t) d i j).len
              simp only [l_6, e', Bool.not_false, rgD_0, List.length_range, eVar, eRd, eC, e2, dAdd, dSub, dMul, dFdiv, dMod, dPow, dII, dI0, dLtI, dLe, dGt, dGe, eAnd, eOr, eNot, eIf, eNeg, eChain, mTru, mVal, mAnd, mOr, mNot, mYes, dTru_bl, dTru_int, dTru_non, dTru_tup, dTru_lst, dIx_lst, dIx_tup, eFld, eSl, oNone, oSome, eTup, fLst, eNew, eCB, fCB, dLen, dAbs, dInt, dTuple, dList, aNil, aCons, fLstRg, eTupRg, rRg1, rRg2, eIsi, fSeq, fRg1, fRg2, fEnum, fZip, D.items, gdName, gdTup, gdCons, gdNil, sSeq, sNext, sDrop, sRet, sRetN, sIf, sAsg, sOwn, sOwnD, sStill, sPar, sAugI, sApp, sExt, sSetI, sSetH, sFor, fLc, sForD, eGetD, dOf, keyD, sMany, setAll, nNil, nSh, nOl, nOd, eCall, mBody, mInit, eMake, sSelf, sSelf2, wipeE, dSl, List.getElem?_cons_zero, List.getElem?_cons_succ, List.set_cons_zero, List.set_cons_succ, List.replicate_succ, List.replicate_zero, List.map_cons, List.map_nil, List.cons_append, List.nil_append, List.length_cons, List.length_nil, List.length_map, atI_0, atI_1, atI_2, atI_3, atI_4, atI_n, ↓reduceIte, Bool.false_eq_true, dEq_int, dNe_int, Nat.reduceAdd, Nat.zero_add, putFD, f2, dAddF, dMulF, fSl]
              refine ⟨rgB_small (by omega), small (by omega), lc_filter (fun o => d.getD o 0 == i || d.getD o 0 == j) natI (fun o ho k k' h1 h2 => ?_) ?_⟩
              · have ho' := List.mem_range.mp ho
                simp only [hd.at_ ho', dIn, in2, flat1, flat2, two_le, true_and, Bool.false_eq_true, eVar, eRd, eC, e2, dAdd, dSub, dMul, dFdiv, dMod, dPow, dII, dI0, dLtI, dLe, dGt, dGe, eAnd, eOr, eNot, eIf, eNeg, eChain, mTru, mVal, mAnd, mOr, mNot, mYes, dTru_bl, dTru_int, dTru_non, dTru_tup, dTru_lst, dIx_lst, dIx_tup, eFld, eSl, oNone, oSome, eTup, fLst, eNew, eCB, fCB, dLen, dAbs, dInt, dTuple, dList, aNil, aCons, fLstRg, eTupRg, rRg1, rRg2, eIsi, fSeq, fRg1, fRg2, fEnum, fZip, D.items, gdName, gdTup, gdCons, gdNil, sSeq, sNext, sDrop, sRet, sRetN, sIf, sAsg, sOwn, sOwnD, sStill, sPar, sAugI, sApp, sExt, sSetI, sSetH, sFor, fLc, sForD, eGetD, dOf, keyD, sMany, setAll, nNil, nSh, nOl, nOd, eCall, mBody, mInit, eMake, sSelf, sSelf2, wipeE, dSl, List.getElem?_cons_zero, List.getElem?_cons_succ, List.set_cons_zero, List.set_cons_succ, List.replicate_succ, List.replicate_zero, List.map_cons, List.map_nil, List.cons_append, List.nil_append, List.length_cons, List.length_nil, List.length_map, atI_0, atI_1, atI_2, atI_3, atI_4, atI_n, ↓reduceIte, Bool.false_eq_true, dEq_int, dNe_int, Nat.reduceAdd, Nat.zero_add, putFD, f2, dAddF, dMulF, fSl]
                by_cases e : (d.getD o 0 == i || d.getD o 0 == j) = true
                · rw [if_pos e]; exact h1 e
                · rw [if_neg e]; exact h2 (by simpa using e)
              · simp only [l_7, row_atL T hi, eVar, eRd, eC, e2, dAdd, dSub, dMul, dFdiv, dMod, dPow, dII, dI0, dLtI, dLe, dGt, dGe, eAnd, eOr, eNot, eIf, eNeg, eChain, mTru, mVal, mAnd, mOr, mNot, mYes, dTru_bl, dTru_int, dTru_non, dTru_tup, dTru_lst, dIx_lst, dIx_tup, eFld, eSl, oNone, oSome, eTup, fLst, eNew, eCB, fCB, dLen, dAbs, dInt, dTuple, dList, aNil, aCons, fLstRg, eTupRg, rRg1, rRg2, eIsi, fSeq, fRg1, fRg2, fEnum, fZip, D.items, gdName, gdTup, gdCons, gdNil, sSeq, sNext, sDrop, sRet, sRetN, sIf, sAsg, sOwn, sOwnD, sStill, sPar, sAugI, sApp, sExt, sSetI, sSetH, sFor, fLc, sForD, eGetD, dOf, keyD, sMany, setAll, nNil, nSh, nOl, nOd, eCall, mBody, mInit, eMake, sSelf, sSelf2, wipeE, dSl, List.getElem?_cons_zero, List.getElem?_cons_succ, List.set_cons_zero, List.set_cons_succ, List.replicate_succ, List.replicate_zero, List.map_cons, List.map_nil, List.cons_append, List.nil_append, List.length_cons, List.length_nil, List.length_map, atI_0, atI_1, atI_2, atI_3, atI_4, atI_n, ↓reduceIte, Bool.false_eq_true, dEq_int, dNe_int, Nat.reduceAdd, Nat.zero_add, putFD, f2, dAddF, dMulF, fSl]
                refine w_law_pair (L := both t d i j) (by omega) (fun x hx => by rw [T.cols _ (row_mem T hi)]; exact (both_lot d i j).lt x hx) ?_
                simp only [l_8, eVar, eRd, eC, e2, dAdd, dSub, dMul, dFdiv, dMod, dPow, dII, dI0, dLtI, dLe, dGt, dGe, eAnd, eOr, eNot, eIf, eNeg, eChain, mTru, mVal, mAnd, mOr, mNot, mYes, dTru_bl, dTru_int, dTru_non, dTru_tup, dTru_lst, dIx_lst, dIx_tup, eFld, eSl, oNone, oSome, eTup, fLst, eNew, eCB, fCB, dLen, dAbs, dInt, dTuple, dList, aNil, aCons, fLstRg, eTupRg, rRg1, rRg2, eIsi, fSeq, fRg1, fRg2, fEnum, fZip, D.items, gdName, gdTup, gdCons, gdNil, sSeq, sNext, sDrop, sRet, sRetN, sIf, sAsg, sOwn, sOwnD, sStill, sPar, sAugI, sApp, sExt, sSetI, sSetH, sFor, fLc, sForD, eGetD, dOf, keyD, sMany, setAll, nNil, nSh, nOl, nOd, eCall, mBody, mInit, eMake, sSelf, sSelf2, wipeE, dSl, List.getElem?_cons_zero, List.getElem?_cons_succ, List.set_cons_zero, List.set_cons_succ, List.replicate_succ, List.replicate_zero, List.map_cons, List.map_nil, List.cons_append, List.nil_append, List.length_cons, List.length_nil, List.length_map, atI_0, atI_1, atI_2, atI_3, atI_4, atI_n, ↓reduceIte, Bool.false_eq_true, dEq_int, dNe_int, Nat.reduceAdd, Nat.zero_add, putFD, f2, dAddF, dMulF, fSl]
                refine w_pairs_share T hd hi hj ?_
                simp only [l_9, show bestI (fun j => (R.getD i []).getD j 0) (both t d i j) = bestI (W R i) (both t d i j) from rfl, beq_self_eq_true, Bool.not_true, eVar, eRd, eC, e2, dAdd, dSub, dMul, dFdiv, dMod, dPow, dII, dI0, dLtI, dLe, dGt, dGe, eAnd, eOr, eNot, eIf, eNeg, eChain, mTru, mVal, mAnd, mOr, mNot, mYes, dTru_bl, dTru_int, dTru_non, dTru_tup, dTru_lst, dIx_lst, dIx_tup, eFld, eSl, oNone, oSome, eTup, fLst, eNew, eCB, fCB, dLen, dAbs, dInt, dTuple, dList, aNil, aCons, fLstRg, eTupRg, rRg1, rRg2, eIsi, fSeq, fRg1, fRg2, fEnum, fZip, D.items, gdName, gdTup, gdCons, gdNil, sSeq, sNext, sDrop, sRet, sRetN, sIf, sAsg, sOwn, sOwnD, sStill, sPar, sAugI, sApp, sExt, sSetI, sSetH, sFor, fLc, sForD, eGetD, dOf, keyD, sMany, setAll, nNil, nSh, nOl, nOd, eCall, mBody, mInit, eMake, sSelf, sSelf2, wipeE, dSl, List.getElem?_cons_zero, List.getElem?_cons_succ, List.set_cons_zero, List.set_cons_succ, List.replicate_succ, List.replicate_zero, List.map_cons, List.map_nil, List.cons_append, List.nil_append, List.length_cons, List.length_nil, List.length_map, atI_0, atI_1, atI_2, atI_3, atI_4, atI_n, ↓reduceIte, Bool.false_eq_true, dEq_int, dNe_int, Nat.reduceAdd, Nat.zero_add, putFD, f2, dAddF, dMulF, fSl]
                have eo : okP R t d i j = decide (bestI (W R i) (both t d i j) ≤ gain R t d i) := by unfold okP; rw [e', Bool.false_or]
                rw [eo, ← Bool.and_assoc] at hk4
                by_cases hf : (allTo R p t d i && allIn R t d i j) = true
                · rw [hf, Bool.true_and] at hk4
                  simp only [hf, eVar, eRd, eC, e2, dAdd, dSub, dMul, dFdiv, dMod, dPow, dII, dI0, dLtI, dLe, dGt, dGe, eAnd, eOr, eNot, eIf, eNeg, eChain, mTru, mVal, mAnd, mOr, mNot, mYes, dTru_bl, dTru_int, dTru_non, dTru_tup, dTru_lst, dIx_lst, dIx_tup, eFld, eSl, oNone, oSome, eTup, fLst, eNew, eCB, fCB, dLen, dAbs, dInt, dTuple, dList, aNil, aCons, fLstRg, eTupRg, rRg1, rRg2, eIsi, fSeq, fRg1, fRg2, fEnum, fZip, D.items, gdName, gdTup, gdCons, gdNil, sSeq, sNext, sDrop, sRet, sRetN, sIf, sAsg, sOwn, sOwnD, sStill, sPar, sAugI, sApp, sExt, sSetI, sSetH, sFor, fLc, sForD, eGetD, dOf, keyD, sMany, setAll, nNil, nSh, nOl, nOd, eCall, mBody, mInit, eMake, sSelf, sSelf2, wipeE, dSl, List.getElem?_cons_zero, List.getElem?_cons_succ, List.set_cons_zero, List.set_cons_succ, List.replicate_succ, List.replicate_zero, List.map_cons, List.map_nil, List.cons_append, List.nil_append, List.length_cons, List.length_nil, List.length_map, atI_0, atI_1, atI_2, atI_3, atI_4, atI_n, ↓reduceIte, Bool.false_eq_true, dEq_int, dNe_int, Nat.reduceAdd, Nat.zero_add, putFD, f2, dAddF, dMulF, fSl]
                  refine w_law_sum T hd hi ?_
                  exact hk4 _ ⟨_, _, _, rfl⟩
                · have hf' : (allTo R p t d i && allIn R t d i j) = false := by simpa using hf
                  rw [hf', Bool.false_and] at hk4
                  simp only [hf', eVar, eRd, eC, e2, dAdd, dSub, dMul, dFdiv, dMod, dPow, dII, dI0, dLtI, dLe, dGt, dGe, eAnd, eOr, eNot, eIf, eNeg, eChain, mTru, mVal, mAnd, mOr, mNot, mYes, dTru_bl, dTru_int, dTru_non, dTru_tup, dTru_lst, dIx_lst, dIx_tup, eFld, eSl, oNone, oSome, eTup, fLst, eNew, eCB, fCB, dLen, dAbs, dInt, dTuple, dList, aNil, aCons, fLstRg, eTupRg, rRg1, rRg2, eIsi, fSeq, fRg1, fRg2, fEnum, fZip, D.items, gdName, gdTup, gdCons, gdNil, sSeq, sNext, sDrop, sRet, sRetN, sIf, sAsg, sOwn, sOwnD, sStill, sPar, sAugI, sApp, sExt, sSetI, sSetH, sFor, fLc, sForD, eGetD, dOf, keyD, sMany, setAll, nNil, nSh, nOl, nOd, eCall, mBody, mInit, eMake, sSelf, sSelf2, wipeE, dSl, List.getElem?_cons_zero, List.getElem?_cons_succ, List.set_cons_zero, List.set_cons_succ, List.replicate_succ, List.replicate_zero, List.map_cons, List.map_nil, List.cons_append, List.nil_append, List.length_cons, List.length_nil, List.length_map, atI_0, atI_1, atI_2, atI_3, atI_4, atI_n, ↓reduceIte, Bool.false_eq_true, dEq_int, dNe_int, Nat.reduceAdd, Nat.zero_add, putFD, f2, dAddF, dMulF, fSl]
                  exact hk4 _ ⟨_, _, _, rfl⟩
          · obtain ⟨u11, u12, u13, rfl⟩ := hs4
            refine hk3 _ ⟨.sh (.int (i : Nat)), u11, u12, u13, ?_⟩
            rw [allTo_succ]
        · obtain ⟨u10, u11, u12, u13, rfl⟩ := hs3
          simp only [l_13, eVar, eRd, eC, e2, dAdd, dSub, dMul, dFdiv, dMod, dPow, dII, dI0, dLtI, dLe, dGt, dGe, eAnd, eOr, eNot, eIf, eNeg, eChain, mTru, mVal, mAnd, mOr, mNot, mYes, dTru_bl, dTru_int, dTru_non, dTru_tup, dTru_lst, dIx_lst, dIx_tup, eFld, eSl, oNone, oSome, eTup, fLst, eNew, eCB, fCB, dLen, dAbs, dInt, dTuple, dList, aNil, aCons, fLstRg, eTupRg, rRg1, rRg2, eIsi, fSeq, fRg1, fRg2, fEnum, fZip, D.items, gdName, gdTup, gdCons, gdNil, sSeq, sNext, sDrop, sRet, sRetN, sIf, sAsg, sOwn, sOwnD, sStill, sPar, sAugI, sApp, sExt, sSetI, sSetH, sFor, fLc, sForD, eGetD, dOf, keyD, sMany, setAll, nNil, nSh, nOl, nOd, eCall, mBody, mInit, eMake, sSelf, sSelf2, wipeE, dSl, List.getElem?_cons_zero, List.getElem?_cons_succ, List.set_cons_zero, List.set_cons_succ, List.replicate_succ, List.replicate_zero, List.map_cons, List.map_nil, List.cons_append, List.nil_append, List.length_cons, List.length_nil, List.length_map, atI_0, atI_1, atI_2, atI_3, atI_4, atI_n, ↓reduceIte, Bool.false_eq_true, dEq_int, dNe_int, Nat.reduceAdd, Nat.zero_add, putFD, f2, dAddF, dMulF, fSl]
          refine w_kept T hd ?_
          simp only [show keptB R p t d = allTo R p t d p from rfl, beq_self_eq_true, Bool.not_true, dNe_bl, eVar, eRd, eC, e2, dAdd, dSub, dMul, dFdiv, dMod, dPow, dII, dI0, dLtI, dLe, dGt, dGe, eAnd, eOr, eNot, eIf, eNeg, eChain, mTru, mVal, mAnd, mOr, mNot, mYes, dTru_bl, dTru_int, dTru_non, dTru_tup, dTru_lst, dIx_lst, dIx_tup, eFld, eSl, oNone, oSome, eTup, fLst, eNew, eCB, fCB, dLen, dAbs, dInt, dTuple, dList, aNil, aCons, fLstRg, eTupRg, rRg1, rRg2, eIsi, fSeq, fRg1, fRg2, fEnum, fZip, D.items, gdName, gdTup, gdCons, gdNil, sSeq, sNext, sDrop, sRet, sRetN, sIf, sAsg, sOwn, sOwnD, sStill, sPar, sAugI, sApp, sExt, sSetI, sSetH, sFor, fLc, sForD, eGetD, dOf, keyD, sMany, setAll, nNil, nSh, nOl, nOd, eCall, mBody, mInit, eMake, sSelf, sSelf2, wipeE, dSl, List.getElem?_cons_zero, List.getElem?_cons_succ, List.set_cons_zero, List.set_cons_succ, List.replicate_succ, List.replicate_zero, List.map_cons, List.map_nil, List.cons_append, List.nil_append, List.length_cons, List.length_nil, List.length_map, atI_0, atI_1, atI_2, atI_3, atI_4, atI_n, ↓reduceIte, Bool.false_eq_true, dEq_int, dNe_int, Nat.reduceAdd, Nat.zero_add, putFD, f2, dAddF, dMulF, fSl]
          exact hk2 _ ⟨_, _, _, _, _, _, _, _, _, _, fun _ => ⟨d, hd, rfl⟩, rfl⟩
    · obtain ⟨u7, u8, u9, u10, u11, u12, u13, u14, u15, u16, h8, rfl⟩ := hs2
      obtain ⟨d, hd, rfl⟩ := h8 (by omega)
      simp only [l_15, eVar, eRd, eC, e2, dAdd, dSub, dMul, dFdiv, dMod, dPow, dII, dI0, dLtI, dLe, dGt, dGe, eAnd, eOr, eNot, eIf, eNeg, eChain, mTru, mVal, mAnd, mOr, mNot, mYes, dTru_bl, dTru_int, dTru_non, dTru_tup, dTru_lst, dIx_lst, dIx_tup, eFld, eSl, oNone, oSome, eTup, fLst, eNew, eCB, fCB, dLen, dAbs, dInt, dTuple, dList, aNil, aCons, fLstRg, eTupRg, rRg1, rRg2, eIsi, fSeq, fRg1, fRg2, fEnum, fZip, D.items, gdName, gdTup, gdCons, gdNil, sSeq, sNext, sDrop, sRet, sRetN, sIf, sAsg, sOwn, sOwnD, sStill, sPar, sAugI, sApp, sExt, sSetI, sSetH, sFor, fLc, sForD, eGetD, dOf, keyD, sMany, setAll, nNil, nSh, nOl, nOd, eCall, mBody, mInit, eMake, sSelf, sSelf2, wipeE, dSl, List.getElem?_cons_zero, List.getElem?_cons_succ, List.set_cons_zero, List.set_cons_succ, List.replicate_succ, List.replicate_zero, List.map_cons, List.map_nil, List.cons_append, List.nil_append, List.length_cons, List.length_nil, List.length_map, atI_0, atI_1, atI_2, atI_3, atI_4, atI_n, ↓reduceIte, Bool.false_eq_true, dEq_int, dNe_int, Nat.reduceAdd, Nat.zero_add, putFD, f2, dAddF, dMulF, fSl]
      have hdl := hd.len
      refine ⟨by decide, small (by omega), by decide, w_some (by simp) (by simp) fun x hx => ?_⟩
      have hx' : x = .non ∨ x = .int 0 ∨ x = .str "deal" ∨ (∃ l, x = .lst l) ∨ ∃ l, x = .tup l ∧ l.length ≠ t := by
        simp only [List.mem_cons, List.not_mem_nil, or_false] at hx
        rcases hx with e | e | e | e | e
        · exact .inl e
        · exact .inr (.inl e)
        · exact .inr (.inr (.inr (.inl ⟨_, e⟩)))
        · exact .inr (.inr (.inl e))
        · exact .inr (.inr (.inr (.inr ⟨_, e, by rw [List.length_append, List.length_map]; simp; omega⟩)))
      refine w_kept_no hx' ?_
      simp only [dIsNot, decide_true, Bool.not_true, eVar, eRd, eC, e2, dAdd, dSub, dMul, dFdiv, dMod, dPow, dII, dI0, dLtI, dLe, dGt, dGe, eAnd, eOr, eNot, eIf, eNeg, eChain, mTru, mVal, mAnd, mOr, mNot, mYes, dTru_bl, dTru_int, dTru_non, dTru_tup, dTru_lst, dIx_lst, dIx_tup, eFld, eSl, oNone, oSome, eTup, fLst, eNew, eCB, fCB, dLen, dAbs, dInt, dTuple, dList, aNil, aCons, fLstRg, eTupRg, rRg1, rRg2, eIsi, fSeq, fRg1, fRg2, fEnum, fZip, D.items, gdName, gdTup, gdCons, gdNil, sSeq, sNext, sDrop, sRet, sRetN, sIf, sAsg, sOwn, sOwnD, sStill, sPar, sAugI, sApp, sExt, sSetI, sSetH, sFor, fLc, sForD, eGetD, dOf, keyD, sMany, setAll, nNil, nSh, nOl, nOd, eCall, mBody, mInit, eMake, sSelf, sSelf2, wipeE, dSl, List.getElem?_cons_zero, List.getElem?_cons_succ, List.set_cons_zero, List.set_cons_succ, List.replicate_succ, List.replicate_zero, List.map_cons, List.map_nil, List.cons_append, List.nil_append, List.length_cons, List.length_nil, List.length_map, atI_0, atI_1, atI_2, atI_3, atI_4, atI_n, ↓reduceIte, Bool.false_eq_true, dEq_int, dNe_int, Nat.reduceAdd, Nat.zero_add, putFD, f2, dAddF, dMulF, fSl]
      simp only [l_16, eVar, eRd, eC, e2, dAdd, dSub, dMul, dFdiv, dMod, dPow, dII, dI0, dLtI, dLe, dGt, dGe, eAnd, eOr, eNot, eIf, eNeg, eChain, mTru, mVal, mAnd, mOr, mNot, mYes, dTru_bl, dTru_int, dTru_non, dTru_tup, dTru_lst, dIx_lst, dIx_tup, eFld, eSl, oNone, oSome, eTup, fLst, eNew, eCB, fCB, dLen, dAbs, dInt, dTuple, dList, aNil, aCons, fLstRg, eTupRg, rRg1, rRg2, eIsi, fSeq, fRg1, fRg2, fEnum, fZip, D.items, gdName, gdTup, gdCons, gdNil, sSeq, sNext, sDrop, sRet, sRetN, sIf, sAsg, sOwn, sOwnD, sStill, sPar, sAugI, sApp, sExt, sSetI, sSetH, sFor, fLc, sForD, eGetD, dOf, keyD, sMany, setAll, nNil, nSh, nOl, nOd, eCall, mBody, mInit, eMake, sSelf, sSelf2, wipeE, dSl, List.getElem?_cons_zero, List.getElem?_cons_succ, List.set_cons_zero, List.set_cons_succ, List.replicate_succ, List.replicate_zero, List.map_cons, List.map_nil, List.cons_append, List.nil_append, List.length_cons, List.length_nil, List.length_map, atI_0, atI_1, atI_2, atI_3, atI_4, atI_n, ↓reduceIte, Bool.false_eq_true, dEq_int, dNe_int, Nat.reduceAdd, Nat.zero_add, putFD, f2, dAddF, dMulF, fSl]
      refine ⟨small (by rw [hR.1]; omega), lc_all (P := fun _ d => ∃ n : Int, d = .int n ∧ True) (fun r hr k hk => ?_) (fun ds hds => ?_)⟩
      · have hrl := hR.2 r hr
        have hb := sum_bd r hrl.2
        have hq : 0 ≤ r.sum / (p : Int) := Int.ediv_nonneg hb.1 (by omega)
        have hq2 : r.sum / (p : Int) ≤ r.sum := Int.ediv_le_self _ hb.1
        have hcd : CDiv r.sum (p : Int) := ⟨by omega, by omega⟩
        simp only [dSum_ints, hcd, true_and, eVar, eRd, eC, e2, dAdd, dSub, dMul, dFdiv, dMod, dPow, dII, dI0, dLtI, dLe, dGt, dGe, eAnd, eOr, eNot, eIf, eNeg, eChain, mTru, mVal, mAnd, mOr, mNot, mYes, dTru_bl, dTru_int, dTru_non, dTru_tup, dTru_lst, dIx_lst, dIx_tup, eFld, eSl, oNone, oSome, eTup, fLst, eNew, eCB, fCB, dLen, dAbs, dInt, dTuple, dList, aNil, aCons, fLstRg, eTupRg, rRg1, rRg2, eIsi, fSeq, fRg1, fRg2, fEnum, fZip, D.items, gdName, gdTup, gdCons, gdNil, sSeq, sNext, sDrop, sRet, sRetN, sIf, sAsg, sOwn, sOwnD, sStill, sPar, sAugI, sApp, sExt, sSetI, sSetH, sFor, fLc, sForD, eGetD, dOf, keyD, sMany, setAll, nNil, nSh, nOl, nOd, eCall, mBody, mInit, eMake, sSelf, sSelf2, wipeE, dSl, List.getElem?_cons_zero, List.getElem?_cons_succ, List.set_cons_zero, List.set_cons_succ, List.replicate_succ, List.replicate_zero, List.map_cons, List.map_nil, List.cons_append, List.nil_append, List.length_cons, List.length_nil, List.length_map, atI_0, atI_1, atI_2, atI_3, atI_4, atI_n, ↓reduceIte, Bool.false_eq_true, dEq_int, dNe_int, Nat.reduceAdd, Nat.zero_add, putFD, f2, dAddF, dMulF, fSl]
        exact draw_lit (by omega) (by omega) fun j hj => hk _ ⟨_, rfl, trivial⟩
      · obtain ⟨G, rfl, hG2⟩ := all2_int hds
        have hG : G.length = p := by rw [← hG2.length, hR.1]
        simp only [l_17, eVar, eRd, eC, e2, dAdd, dSub, dMul, dFdiv, dMod, dPow, dII, dI0, dLtI, dLe, dGt, dGe, eAnd, eOr, eNot, eIf, eNeg, eChain, mTru, mVal, mAnd, mOr, mNot, mYes, dTru_bl, dTru_int, dTru_non, dTru_tup, dTru_lst, dIx_lst, dIx_tup, eFld, eSl, oNone, oSome, eTup, fLst, eNew, eCB, fCB, dLen, dAbs, dInt, dTuple, dList, aNil, aCons, fLstRg, eTupRg, rRg1, rRg2, eIsi, fSeq, fRg1, fRg2, fEnum, fZip, D.items, gdName, gdTup, gdCons, gdNil, sSeq, sNext, sDrop, sRet, sRetN, sIf, sAsg, sOwn, sOwnD, sStill, sPar, sAugI, sApp, sExt, sSetI, sSetH, sFor, fLc, sForD, eGetD, dOf, keyD, sMany, setAll, nNil, nSh, nOl, nOd, eCall, mBody, mInit, eMake, sSelf, sSelf2, wipeE, dSl, List.getElem?_cons_zero, List.getElem?_cons_succ, List.set_cons_zero, List.set_cons_succ, List.replicate_succ, List.replicate_zero, List.map_cons, List.map_nil, List.cons_append, List.nil_append, List.length_cons, List.length_nil, List.length_map, atI_0, atI_1, atI_2, atI_3, atI_4, atI_n, ↓reduceIte, Bool.false_eq_true, dEq_int, dNe_int, Nat.reduceAdd, Nat.zero_add, putFD, f2, dAddF, dMulF, fSl]
        have inv := bst_inv R G T.p1 t
        refine w_law_bag T hG (fun hb => ?_) (fun l hl => ?_)
        · refine w_bag_filled T hG (fun _ => ?_) (fun l hl => absurd hb (by rw [hl]; simp))
          simp only [l_18, dIs, D.isNon, dNe_bl, beq_self_eq_true, Bool.not_true, eVar, eRd, eC, e2, dAdd, dSub, dMul, dFdiv, dMod, dPow, dII, dI0, dLtI, dLe, dGt, dGe, eAnd, eOr, eNot, eIf, eNeg, eChain, mTru, mVal, mAnd, mOr, mNot, mYes, dTru_bl, dTru_int, dTru_non, dTru_tup, dTru_lst, dIx_lst, dIx_tup, eFld, eSl, oNone, oSome, eTup, fLst, eNew, eCB, fCB, dLen, dAbs, dInt, dTuple, dList, aNil, aCons, fLstRg, eTupRg, rRg1, rRg2, eIsi, fSeq, fRg1, fRg2, fEnum, fZip, D.items, gdName, gdTup, gdCons, gdNil, sSeq, sNext, sDrop, sRet, sRetN, sIf, sAsg, sOwn, sOwnD, sStill, sPar, sAugI, sApp, sExt, sSetI, sSetH, sFor, fLc, sForD, eGetD, dOf, keyD, sMany, setAll, nNil, nSh, nOl, nOd, eCall, mBody, mInit, eMake, sSelf, sSelf2, wipeE, dSl, List.getElem?_cons_zero, List.getElem?_cons_succ, List.set_cons_zero, List.set_cons_succ, List.replicate_succ, List.replicate_zero, List.map_cons, List.map_nil, List.cons_append, List.nil_append, List.length_cons, List.length_nil, List.length_map, atI_0, atI_1, atI_2, atI_3, atI_4, atI_n, ↓reduceIte, Bool.false_eq_true, dEq_int, dNe_int, Nat.reduceAdd, Nat.zero_add, putFD, f2, dAddF, dMulF, fSl]
          simp only [l_24, l_19, dIs, D.isNon, eVar, eRd, eC, e2, dAdd, dSub, dMul, dFdiv, dMod, dPow, dII, dI0, dLtI, dLe, dGt, dGe, eAnd, eOr, eNot, eIf, eNeg, eChain, mTru, mVal, mAnd, mOr, mNot, mYes, dTru_bl, dTru_int, dTru_non, dTru_tup, dTru_lst, dIx_lst, dIx_tup, eFld, eSl, oNone, oSome, eTup, fLst, eNew, eCB, fCB, dLen, dAbs, dInt, dTuple, dList, aNil, aCons, fLstRg, eTupRg, rRg1, rRg2, eIsi, fSeq, fRg1, fRg2, fEnum, fZip, D.items, gdName, gdTup, gdCons, gdNil, sSeq, sNext, sDrop, sRet, sRetN, sIf, sAsg, sOwn, sOwnD, sStill, sPar, sAugI, sApp, sExt, sSetI, sSetH, sFor, fLc, sForD, eGetD, dOf, keyD, sMany, setAll, nNil, nSh, nOl, nOd, eCall, mBody, mInit, eMake, sSelf, sSelf2, wipeE, dSl, List.getElem?_cons_zero, List.getElem?_cons_succ, List.set_cons_zero, List.set_cons_succ, List.replicate_succ, List.replicate_zero, List.map_cons, List.map_nil, List.cons_append, List.nil_append, List.length_cons, List.length_nil, List.length_map, atI_0, atI_1, atI_2, atI_3, atI_4, atI_n, ↓reduceIte, Bool.false_eq_true, dEq_int, dNe_int, Nat.reduceAdd, Nat.zero_add, putFD, f2, dAddF, dMulF, fSl]
          refine w_is_told_bag T hG (fun _ => ?_) (fun l hl => absurd hb (by rw [hl]; simp))
          simp only [dIsNot, decide_true, Bool.not_true, eVar, eRd, eC, e2, dAdd, dSub, dMul, dFdiv, dMod, dPow, dII, dI0, dLtI, dLe, dGt, dGe, eAnd, eOr, eNot, eIf, eNeg, eChain, mTru, mVal, mAnd, mOr, mNot, mYes, dTru_bl, dTru_int, dTru_non, dTru_tup, dTru_lst, dIx_lst, dIx_tup, eFld, eSl, oNone, oSome, eTup, fLst, eNew, eCB, fCB, dLen, dAbs, dInt, dTuple, dList, aNil, aCons, fLstRg, eTupRg, rRg1, rRg2, eIsi, fSeq, fRg1, fRg2, fEnum, fZip, D.items, gdName, gdTup, gdCons, gdNil, sSeq, sNext, sDrop, sRet, sRetN, sIf, sAsg, sOwn, sOwnD, sStill, sPar, sAugI, sApp, sExt, sSetI, sSetH, sFor, fLc, sForD, eGetD, dOf, keyD, sMany, setAll, nNil, nSh, nOl, nOd, eCall, mBody, mInit, eMake, sSelf, sSelf2, wipeE, dSl, List.getElem?_cons_zero, List.getElem?_cons_succ, List.set_cons_zero, List.set_cons_succ, List.replicate_succ, List.replicate_zero, List.map_cons, List.map_nil, List.cons_append, List.nil_append, List.length_cons, List.length_nil, List.length_map, atI_0, atI_1, atI_2, atI_3, atI_4, atI_n, ↓reduceIte, Bool.false_eq_true, dEq_int, dNe_int, Nat.reduceAdd, Nat.zero_add, putFD, f2, dAddF, dMulF, fSl]
          exact hk _ ⟨_, _, _, _, _, _, _, _, _, _, _, _, _, _, _, rfl⟩
        · refine w_bag_filled T hG (fun hb => absurd hb (by rw [hl]; simp)) (fun l' hl' => ?_)
          have el : l' = l := by rw [hl] at hl'; exact (List.cons.inj hl').1.symm
          subst el
          simp only [l_18, dIs, isNon_tup, dNe_bl, beq_self_eq_true, Bool.not_true, eVar, eRd, eC, e2, dAdd, dSub, dMul, dFdiv, dMod, dPow, dII, dI0, dLtI, dLe, dGt, dGe, eAnd, eOr, eNot, eIf, eNeg, eChain, mTru, mVal, mAnd, mOr, mNot, mYes, dTru_bl, dTru_int, dTru_non, dTru_tup, dTru_lst, dIx_lst, dIx_tup, eFld, eSl, oNone, oSome, eTup, fLst, eNew, eCB, fCB, dLen, dAbs, dInt, dTuple, dList, aNil, aCons, fLstRg, eTupRg, rRg1, rRg2, eIsi, fSeq, fRg1, fRg2, fEnum, fZip, D.items, gdName, gdTup, gdCons, gdNil, sSeq, sNext, sDrop, sRet, sRetN, sIf, sAsg, sOwn, sOwnD, sStill, sPar, sAugI, sApp, sExt, sSetI, sSetH, sFor, fLc, sForD, eGetD, dOf, keyD, sMany, setAll, nNil, nSh, nOl, nOd, eCall, mBody, mInit, eMake, sSelf, sSelf2, wipeE, dSl, List.getElem?_cons_zero, List.getElem?_cons_succ, List.set_cons_zero, List.set_cons_succ, List.replicate_succ, List.replicate_zero, List.map_cons, List.map_nil, List.cons_append, List.nil_append, List.length_cons, List.length_nil, List.length_map, atI_0, atI_1, atI_2, atI_3, atI_4, atI_n, ↓reduceIte, Bool.false_eq_true, dEq_int, dNe_int, Nat.reduceAdd, Nat.zero_add, putFD, f2, dAddF, dMulF, fSl]
          generalize hs0 : bst R G p t = s at inv hl ⊢
          have hd2 : Deal p t (due t (s.don ++ [(l', s.bag)])) := due_deal T.p1 inv.flat fun e he => (inv.mem hl).mp (List.mem_map.mpr ⟨e, he, rfl⟩)
          simp only [l_24, l_20, dIs, isNon_tup, rgD_0, List.length_range, eVar, eRd, eC, e2, dAdd, dSub, dMul, dFdiv, dMod, dPow, dII, dI0, dLtI, dLe, dGt, dGe, eAnd, eOr, eNot, eIf, eNeg, eChain, mTru, mVal, mAnd, mOr, mNot, mYes, dTru_bl, dTru_int, dTru_non, dTru_tup, dTru_lst, dIx_lst, dIx_tup, eFld, eSl, oNone, oSome, eTup, fLst, eNew, eCB, fCB, dLen, dAbs, dInt, dTuple, dList, aNil, aCons, fLstRg, eTupRg, rRg1, rRg2, eIsi, fSeq, fRg1, fRg2, fEnum, fZip, D.items, gdName, gdTup, gdCons, gdNil, sSeq, sNext, sDrop, sRet, sRetN, sIf, sAsg, sOwn, sOwnD, sStill, sPar, sAugI, sApp, sExt, sSetI, sSetH, sFor, fLc, sForD, eGetD, dOf, keyD, sMany, setAll, nNil, nSh, nOl, nOd, eCall, mBody, mInit, eMake, sSelf, sSelf2, wipeE, dSl, List.getElem?_cons_zero, List.getElem?_cons_succ, List.set_cons_zero, List.set_cons_succ, List.replicate_succ, List.replicate_zero, List.map_cons, List.map_nil, List.cons_append, List.nil_append, List.length_cons, List.length_nil, List.length_map, atI_0, atI_1, atI_2, atI_3, atI_4, atI_n, ↓reduceIte, Bool.false_eq_true, dEq_int, dNe_int, Nat.reduceAdd, Nat.zero_add, putFD, f2, dAddF, dMulF, fSl]
          generalize hdu : due t (s.don ++ [(l', s.bag)]) = du at hd2 ⊢
          refine ⟨rgB_small (by omega), small (by omega), lc_map (fun i => nats (lotOf t du i)) (fun i hi k hk => ?_) ?_⟩
          · simp only [rgD_0, List.length_range, eVar, eRd, eC, e2, dAdd, dSub, dMul, dFdiv, dMod, dPow, dII, dI0, dLtI, dLe, dGt, dGe, eAnd, eOr, eNot, eIf, eNeg, eChain, mTru, mVal, mAnd, mOr, mNot, mYes, dTru_bl, dTru_int, dTru_non, dTru_tup, dTru_lst, dIx_lst, dIx_tup, eFld, eSl, oNone, oSome, eTup, fLst, eNew, eCB, fCB, dLen, dAbs, dInt, dTuple, dList, aNil, aCons, fLstRg, eTupRg, rRg1, rRg2, eIsi, fSeq, fRg1, fRg2, fEnum, fZip, D.items, gdName, gdTup, gdCons, gdNil, sSeq, sNext, sDrop, sRet, sRetN, sIf, sAsg, sOwn, sOwnD, sStill, sPar, sAugI, sApp, sExt, sSetI, sSetH, sFor, fLc, sForD, eGetD, dOf, keyD, sMany, setAll, nNil, nSh, nOl, nOd, eCall, mBody, mInit, eMake, sSelf, sSelf2, wipeE, dSl, List.getElem?_cons_zero, List.getElem?_cons_succ, List.set_cons_zero, List.set_cons_succ, List.replicate_succ, List.replicate_zero, List.map_cons, List.map_nil, List.cons_append, List.nil_append, List.length_cons, List.length_nil, List.length_map, atI_0, atI_1, atI_2, atI_3, atI_4, atI_n, ↓reduceIte, Bool.false_eq_true, dEq_int, dNe_int, Nat.reduceAdd, Nat.zero_add, putFD, f2, dAddF, dMulF, fSl]
            refine ⟨rgB_small (by omega), small (by omega), lc_filter (fun j => du.getD j 0 == i) natI (fun j hj k k' h1 h2 => ?_) hk⟩
            have hj' := List.mem_range.mp hj
            simp only [hd2.at_ hj', cast_beq, eVar, eRd, eC, e2, dAdd, dSub, dMul, dFdiv, dMod, dPow, dII, dI0, dLtI, dLe, dGt, dGe, eAnd, eOr, eNot, eIf, eNeg, eChain, mTru, mVal, mAnd, mOr, mNot, mYes, dTru_bl, dTru_int, dTru_non, dTru_tup, dTru_lst, dIx_lst, dIx_tup, eFld, eSl, oNone, oSome, eTup, fLst, eNew, eCB, fCB, dLen, dAbs, dInt, dTuple, dList, aNil, aCons, fLstRg, eTupRg, rRg1, rRg2, eIsi, fSeq, fRg1, fRg2, fEnum, fZip, D.items, gdName, gdTup, gdCons, gdNil, sSeq, sNext, sDrop, sRet, sRetN, sIf, sAsg, sOwn, sOwnD, sStill, sPar, sAugI, sApp, sExt, sSetI, sSetH, sFor, fLc, sForD, eGetD, dOf, keyD, sMany, setAll, nNil, nSh, nOl, nOd, eCall, mBody, mInit, eMake, sSelf, sSelf2, wipeE, dSl, List.getElem?_cons_zero, List.getElem?_cons_succ, List.set_cons_zero, List.set_cons_succ, List.replicate_succ, List.replicate_zero, List.map_cons, List.map_nil, List.cons_append, List.nil_append, List.length_cons, List.length_nil, List.length_map, atI_0, atI_1, atI_2, atI_3, atI_4, atI_n, ↓reduceIte, Bool.false_eq_true, dEq_int, dNe_int, Nat.reduceAdd, Nat.zero_add, putFD, f2, dAddF, dMulF, fSl]
            by_cases e : (du.getD j 0 == i) = true
            · rw [if_pos e]; exact h1 e
            · rw [if_neg e]; exact h2 (by simpa using e)
          · simp only [l_21, dNe_self (okq_nats du), eVar, eRd, eC, e2, dAdd, dSub, dMul, dFdiv, dMod, dPow, dII, dI0, dLtI, dLe, dGt, dGe, eAnd, eOr, eNot, eIf, eNeg, eChain, mTru, mVal, mAnd, mOr, mNot, mYes, dTru_bl, dTru_int, dTru_non, dTru_tup, dTru_lst, dIx_lst, dIx_tup, eFld, eSl, oNone, oSome, eTup, fLst, eNew, eCB, fCB, dLen, dAbs, dInt, dTuple, dList, aNil, aCons, fLstRg, eTupRg, rRg1, rRg2, eIsi, fSeq, fRg1, fRg2, fEnum, fZip, D.items, gdName, gdTup, gdCons, gdNil, sSeq, sNext, sDrop, sRet, sRetN, sIf, sAsg, sOwn, sOwnD, sStill, sPar, sAugI, sApp, sExt, sSetI, sSetH, sFor, fLc, sForD, eGetD, dOf, keyD, sMany, setAll, nNil, nSh, nOl, nOd, eCall, mBody, mInit, eMake, sSelf, sSelf2, wipeE, dSl, List.getElem?_cons_zero, List.getElem?_cons_succ, List.set_cons_zero, List.set_cons_succ, List.replicate_succ, List.replicate_zero, List.map_cons, List.map_nil, List.cons_append, List.nil_append, List.length_cons, List.length_nil, List.length_map, atI_0, atI_1, atI_2, atI_3, atI_4, atI_n, ↓reduceIte, Bool.false_eq_true, dEq_int, dNe_int, Nat.reduceAdd, Nat.zero_add, putFD, f2, dAddF, dMulF, fSl]
            simp only [List.length_range, eVar, eRd, eC, e2, dAdd, dSub, dMul, dFdiv, dMod, dPow, dII, dI0, dLtI, dLe, dGt, dGe, eAnd, eOr, eNot, eIf, eNeg, eChain, mTru, mVal, mAnd, mOr, mNot, mYes, dTru_bl, dTru_int, dTru_non, dTru_tup, dTru_lst, dIx_lst, dIx_tup, eFld, eSl, oNone, oSome, eTup, fLst, eNew, eCB, fCB, dLen, dAbs, dInt, dTuple, dList, aNil, aCons, fLstRg, eTupRg, rRg1, rRg2, eIsi, fSeq, fRg1, fRg2, fEnum, fZip, D.items, gdName, gdTup, gdCons, gdNil, sSeq, sNext, sDrop, sRet, sRetN, sIf, sAsg, sOwn, sOwnD, sStill, sPar, sAugI, sApp, sExt, sSetI, sSetH, sFor, fLc, sForD, eGetD, dOf, keyD, sMany, setAll, nNil, nSh, nOl, nOd, eCall, mBody, mInit, eMake, sSelf, sSelf2, wipeE, dSl, List.getElem?_cons_zero, List.getElem?_cons_succ, List.set_cons_zero, List.set_cons_succ, List.replicate_succ, List.replicate_zero, List.map_cons, List.map_nil, List.cons_append, List.nil_append, List.length_cons, List.length_nil, List.length_map, atI_0, atI_1, atI_2, atI_3, atI_4, atI_n, ↓reduceIte, Bool.false_eq_true, dEq_int, dNe_int, Nat.reduceAdd, Nat.zero_add, putFD, f2, dAddF, dMulF, fSl]
            refine ⟨small (by omega), lc_map (fun i => nats (lotOf t du i)) (fun i hi k hk => ?_) ?_⟩
            · simp only [eVar, eRd, eC, e2, dAdd, dSub, dMul, dFdiv, dMod, dPow, dII, dI0, dLtI, dLe, dGt, dGe, eAnd, eOr, eNot, eIf, eNeg, eChain, mTru, mVal, mAnd, mOr, mNot, mYes, dTru_bl, dTru_int, dTru_non, dTru_tup, dTru_lst, dIx_lst, dIx_tup, eFld, eSl, oNone, oSome, eTup, fLst, eNew, eCB, fCB, dLen, dAbs, dInt, dTuple, dList, aNil, aCons, fLstRg, eTupRg, rRg1, rRg2, eIsi, fSeq, fRg1, fRg2, fEnum, fZip, D.items, gdName, gdTup, gdCons, gdNil, sSeq, sNext, sDrop, sRet, sRetN, sIf, sAsg, sOwn, sOwnD, sStill, sPar, sAugI, sApp, sExt, sSetI, sSetH, sFor, fLc, sForD, eGetD, dOf, keyD, sMany, setAll, nNil, nSh, nOl, nOd, eCall, mBody, mInit, eMake, sSelf, sSelf2, wipeE, dSl, List.getElem?_cons_zero, List.getElem?_cons_succ, List.set_cons_zero, List.set_cons_succ, List.replicate_succ, List.replicate_zero, List.map_cons, List.map_nil, List.cons_append, List.nil_append, List.length_cons, List.length_nil, List.length_map, atI_0, atI_1, atI_2, atI_3, atI_4, atI_n, ↓reduceIte, Bool.false_eq_true, dEq_int, dNe_int, Nat.reduceAdd, Nat.zero_add, putFD, f2, dAddF, dMulF, fSl]
              exact hk
            · simp only [dNe_self (okq_natss (fun i => lotOf t du i) (List.range p)), eVar, eRd, eC, e2, dAdd, dSub, dMul, dFdiv, dMod, dPow, dII, dI0, dLtI, dLe, dGt, dGe, eAnd, eOr, eNot, eIf, eNeg, eChain, mTru, mVal, mAnd, mOr, mNot, mYes, dTru_bl, dTru_int, dTru_non, dTru_tup, dTru_lst, dIx_lst, dIx_tup, eFld, eSl, oNone, oSome, eTup, fLst, eNew, eCB, fCB, dLen, dAbs, dInt, dTuple, dList, aNil, aCons, fLstRg, eTupRg, rRg1, rRg2, eIsi, fSeq, fRg1, fRg2, fEnum, fZip, D.items, gdName, gdTup, gdCons, gdNil, sSeq, sNext, sDrop, sRet, sRetN, sIf, sAsg, sOwn, sOwnD, sStill, sPar, sAugI, sApp, sExt, sSetI, sSetH, sFor, fLc, sForD, eGetD, dOf, keyD, sMany, setAll, nNil, nSh, nOl, nOd, eCall, mBody, mInit, eMake, sSelf, sSelf2, wipeE, dSl, List.getElem?_cons_zero, List.getElem?_cons_succ, List.set_cons_zero, List.set_cons_succ, List.replicate_succ, List.replicate_zero, List.map_cons, List.map_nil, List.cons_append, List.nil_append, List.length_cons, List.length_nil, List.length_map, atI_0, atI_1, atI_2, atI_3, atI_4, atI_n, ↓reduceIte, Bool.false_eq_true, dEq_int, dNe_int, Nat.reduceAdd, Nat.zero_add, putFD, f2, dAddF, dMulF, fSl]
              simp only [l_22, eVar, eRd, eC, e2, dAdd, dSub, dMul, dFdiv, dMod, dPow, dII, dI0, dLtI, dLe, dGt, dGe, eAnd, eOr, eNot, eIf, eNeg, eChain, mTru, mVal, mAnd, mOr, mNot, mYes, dTru_bl, dTru_int, dTru_non, dTru_tup, dTru_lst, dIx_lst, dIx_tup, eFld, eSl, oNone, oSome, eTup, fLst, eNew, eCB, fCB, dLen, dAbs, dInt, dTuple, dList, aNil, aCons, fLstRg, eTupRg, rRg1, rRg2, eIsi, fSeq, fRg1, fRg2, fEnum, fZip, D.items, gdName, gdTup, gdCons, gdNil, sSeq, sNext, sDrop, sRet, sRetN, sIf, sAsg, sOwn, sOwnD, sStill, sPar, sAugI, sApp, sExt, sSetI, sSetH, sFor, fLc, sForD, eGetD, dOf, keyD, sMany, setAll, nNil, nSh, nOl, nOd, eCall, mBody, mInit, eMake, sSelf, sSelf2, wipeE, dSl, List.getElem?_cons_zero, List.getElem?_cons_succ, List.set_cons_zero, List.set_cons_succ, List.replicate_succ, List.replicate_zero, List.map_cons, List.map_nil, List.cons_append, List.nil_append, List.length_cons, List.length_nil, List.length_map, atI_0, atI_1, atI_2, atI_3, atI_4, atI_n, ↓reduceIte, Bool.false_eq_true, dEq_int, dNe_int, Nat.reduceAdd, Nat.zero_add, putFD, f2, dAddF, dMulF, fSl]
              refine w_law_gains T hd2 ?_
              simp only [zip_gains, eVar, eRd, eC, e2, dAdd, dSub, dMul, dFdiv, dMod, dPow, dII, dI0, dLtI, dLe, dGt, dGe, eAnd, eOr, eNot, eIf, eNeg, eChain, mTru, mVal, mAnd, mOr, mNot, mYes, dTru_bl, dTru_int, dTru_non, dTru_tup, dTru_lst, dIx_lst, dIx_tup, eFld, eSl, oNone, oSome, eTup, fLst, eNew, eCB, fCB, dLen, dAbs, dInt, dTuple, dList, aNil, aCons, fLstRg, eTupRg, rRg1, rRg2, eIsi, fSeq, fRg1, fRg2, fEnum, fZip, D.items, gdName, gdTup, gdCons, gdNil, sSeq, sNext, sDrop, sRet, sRetN, sIf, sAsg, sOwn, sOwnD, sStill, sPar, sAugI, sApp, sExt, sSetI, sSetH, sFor, fLc, sForD, eGetD, dOf, keyD, sMany, setAll, nNil, nSh, nOl, nOd, eCall, mBody, mInit, eMake, sSelf, sSelf2, wipeE, dSl, List.getElem?_cons_zero, List.getElem?_cons_succ, List.set_cons_zero, List.set_cons_succ, List.replicate_succ, List.replicate_zero, List.map_cons, List.map_nil, List.cons_append, List.nil_append, List.length_cons, List.length_nil, List.length_map, atI_0, atI_1, atI_2, atI_3, atI_4, atI_n, ↓reduceIte, Bool.false_eq_true, dEq_int, dNe_int, Nat.reduceAdd, Nat.zero_add, putFD, f2, dAddF, dMulF, fSl]
              refine ⟨small (by rw [List.length_zip, List.length_range]; omega), lc_map (fun x => .bl (decide (x.2 ≤ gain R t du x.1))) (fun x hx k hk => ?_) ?_⟩
              · simp only [true_and, eVar, eRd, eC, e2, dAdd, dSub, dMul, dFdiv, dMod, dPow, dII, dI0, dLtI, dLe, dGt, dGe, eAnd, eOr, eNot, eIf, eNeg, eChain, mTru, mVal, mAnd, mOr, mNot, mYes, dTru_bl, dTru_int, dTru_non, dTru_tup, dTru_lst, dIx_lst, dIx_tup, eFld, eSl, oNone, oSome, eTup, fLst, eNew, eCB, fCB, dLen, dAbs, dInt, dTuple, dList, aNil, aCons, fLstRg, eTupRg, rRg1, rRg2, eIsi, fSeq, fRg1, fRg2, fEnum, fZip, D.items, gdName, gdTup, gdCons, gdNil, sSeq, sNext, sDrop, sRet, sRetN, sIf, sAsg, sOwn, sOwnD, sStill, sPar, sAugI, sApp, sExt, sSetI, sSetH, sFor, fLc, sForD, eGetD, dOf, keyD, sMany, setAll, nNil, nSh, nOl, nOd, eCall, mBody, mInit, eMake, sSelf, sSelf2, wipeE, dSl, List.getElem?_cons_zero, List.getElem?_cons_succ, List.set_cons_zero, List.set_cons_succ, List.replicate_succ, List.replicate_zero, List.map_cons, List.map_nil, List.cons_append, List.nil_append, List.length_cons, List.length_nil, List.length_map, atI_0, atI_1, atI_2, atI_3, atI_4, atI_n, ↓reduceIte, Bool.false_eq_true, dEq_int, dNe_int, Nat.reduceAdd, Nat.zero_add, putFD, f2, dAddF, dMulF, fSl]
                exact hk
              · simp only [dAll_map, l_23, eVar, eRd, eC, e2, dAdd, dSub, dMul, dFdiv, dMod, dPow, dII, dI0, dLtI, dLe, dGt, dGe, eAnd, eOr, eNot, eIf, eNeg, eChain, mTru, mVal, mAnd, mOr, mNot, mYes, dTru_bl, dTru_int, dTru_non, dTru_tup, dTru_lst, dIx_lst, dIx_tup, eFld, eSl, oNone, oSome, eTup, fLst, eNew, eCB, fCB, dLen, dAbs, dInt, dTuple, dList, aNil, aCons, fLstRg, eTupRg, rRg1, rRg2, eIsi, fSeq, fRg1, fRg2, fEnum, fZip, D.items, gdName, gdTup, gdCons, gdNil, sSeq, sNext, sDrop, sRet, sRetN, sIf, sAsg, sOwn, sOwnD, sStill, sPar, sAugI, sApp, sExt, sSetI, sSetH, sFor, fLc, sForD, eGetD, dOf, keyD, sMany, setAll, nNil, nSh, nOl, nOd, eCall, mBody, mInit, eMake, sSelf, sSelf2, wipeE, dSl, List.getElem?_cons_zero, List.getElem?_cons_succ, List.set_cons_zero, List.set_cons_succ, List.replicate_succ, List.replicate_zero, List.map_cons, List.map_nil, List.cons_append, List.nil_append, List.length_cons, List.length_nil, List.length_map, atI_0, atI_1, atI_2, atI_3, atI_4, atI_n, ↓reduceIte, Bool.false_eq_true, dEq_int, dNe_int, Nat.reduceAdd, Nat.zero_add, putFD, f2, dAddF, dMulF, fSl]
                refine w_is_told_bag T hG (fun hb => absurd hb (by rw [hs0, hl]; simp)) (fun l2 hl2 => ?_)
                rw [hs0] at hl2 ⊢
                have el2 : l2 = l' := by rw [hl] at hl2; exact (List.cons.inj hl2).1.symm
                subst el2
                rw [hdu]
                simp only [okG, dNe_bl, beq_self_eq_true, Bool.not_true, eVar, eRd, eC, e2, dAdd, dSub, dMul, dFdiv, dMod, dPow, dII, dI0, dLtI, dLe, dGt, dGe, eAnd, eOr, eNot, eIf, eNeg, eChain, mTru, mVal, mAnd, mOr, mNot, mYes, dTru_bl, dTru_int, dTru_non, dTru_tup, dTru_lst, dIx_lst, dIx_tup, eFld, eSl, oNone, oSome, eTup, fLst, eNew, eCB, fCB, dLen, dAbs, dInt, dTuple, dList, aNil, aCons, fLstRg, eTupRg, rRg1, rRg2, eIsi, fSeq, fRg1, fRg2, fEnum, fZip, D.items, gdName, gdTup, gdCons, gdNil, sSeq, sNext, sDrop, sRet, sRetN, sIf, sAsg, sOwn, sOwnD, sStill, sPar, sAugI, sApp, sExt, sSetI, sSetH, sFor, fLc, sForD, eGetD, dOf, keyD, sMany, setAll, nNil, nSh, nOl, nOd, eCall, mBody, mInit, eMake, sSelf, sSelf2, wipeE, dSl, List.getElem?_cons_zero, List.getElem?_cons_succ, List.set_cons_zero, List.set_cons_succ, List.replicate_succ, List.replicate_zero, List.map_cons, List.map_nil, List.cons_append, List.nil_append, List.length_cons, List.length_nil, List.length_map, atI_0, atI_1, atI_2, atI_3, atI_4, atI_n, ↓reduceIte, Bool.false_eq_true, dEq_int, dNe_int, Nat.reduceAdd, Nat.zero_add, putFD, f2, dAddF, dMulF, fSl]
                exact hk _ ⟨_, _, _, _, _, _, _, _, _, _, _, _, _, _, _, rfl⟩
  · obtain ⟨u2, u3, u4, u5, u6, u7, u8, u9, u10, u11, u12, u13, u14, u15, u16, rfl⟩ := hs
    simp only [eVar, eRd, eC, e2, dAdd, dSub, dMul, dFdiv, dMod, dPow, dII, dI0, dLtI, dLe, dGt, dGe, eAnd, eOr, eNot, eIf, eNeg, eChain, mTru, mVal, mAnd, mOr, mNot, mYes, dTru_bl, dTru_int, dTru_non, dTru_tup, dTru_lst, dIx_lst, dIx_tup, eFld, eSl, oNone, oSome, eTup, fLst, eNew, eCB, fCB, dLen, dAbs, dInt, dTuple, dList, aNil, aCons, fLstRg, eTupRg, rRg1, rRg2, eIsi, fSeq, fRg1, fRg2, fEnum, fZip, D.items, gdName, gdTup, gdCons, gdNil, sSeq, sNext, sDrop, sRet, sRetN, sIf, sAsg, sOwn, sOwnD, sStill, sPar, sAugI, sApp, sExt, sSetI, sSetH, sFor, fLc, sForD, eGetD, dOf, keyD, sMany, setAll, nNil, nSh, nOl, nOd, eCall, mBody, mInit, eMake, sSelf, sSelf2, wipeE, dSl, List.getElem?_cons_zero, List.getElem?_cons_succ, List.set_cons_zero, List.set_cons_succ, List.replicate_succ, List.replicate_zero, List.map_cons, List.map_nil, List.cons_append, List.nil_append, List.length_cons, List.length_nil, List.length_map, atI_0, atI_1, atI_2, atI_3, atI_4, atI_n, ↓reduceIte, Bool.false_eq_true, dEq_int, dNe_int, Nat.reduceAdd, Nat.zero_add, putFD, f2, dAddF, dMulF, fSl]
end K12
set_option maxHeartbeats 0
namespace K12
open PySem PySem.Spec L2 Fd
def d0 : He.DefD := ⟨("is_integer", none), "is_integer", "is_integer", defArgs (top 7), defBody (top 7), defScope (top 7), [], []⟩
def d1 : He.DefD := ⟨("is_within", none), "is_within", "is_within", defArgs (top 8), defBody (top 8), defScope (top 8), [], []⟩
def d2 : He.DefD := ⟨("is_row", none), "is_row", "is_row", defArgs (top 9), defBody (top 9), defScope (top 9), [], []⟩
def d3 : He.DefD := ⟨("Table", some "__init__"), "__init__", "Table.__init__", defArgs (inClass (top 14) 0), defBody (inClass (top 14) 0), defScope (inClass (top 14) 0), [], []⟩
def d4 : He.DefD := ⟨("check_person", none), "check_person", "check_person", defArgs (top 15), defBody (top 15), defScope (top 15), [], []⟩
def d5 : He.DefD := ⟨("is_lot", none), "is_lot", "is_lot", defArgs (top 16), defBody (top 16), defScope (top 16), [], []⟩
def d6 : He.DefD := ⟨("check_lot", none), "check_lot", "check_lot", defArgs (top 17), defBody (top 17), defScope (top 17), [], []⟩
def d7 : He.DefD := ⟨("worth", none), "worth", "worth", defArgs (top 18), defBody (top 18), defScope (top 18), [], []⟩
def d8 : He.DefD := ⟨("is_deal", none), "is_deal", "is_deal", defArgs (top 19), defBody (top 19), defScope (top 19), [], []⟩
def d9 : He.DefD := ⟨("check_deal", none), "check_deal", "check_deal", defArgs (top 20), defBody (top 20), defScope (top 20), [], []⟩
def d10 : He.DefD := ⟨("lots", none), "lots", "lots", defArgs (top 21), defBody (top 21), defScope (top 21), [], []⟩
def d11 : He.DefD := ⟨("gains", none), "gains", "gains", defArgs (top 22), defBody (top 22), defScope (top 22), [], []⟩
def d12 : He.DefD := ⟨("pairs_share", none), "pairs_share", "pairs_share", defArgs (top 24), defBody (top 24), defScope (top 24), [], []⟩
def d13 : He.DefD := ⟨("is_kept_by_pairs", none), "is_kept_by_pairs", "is_kept_by_pairs", defArgs (top 25), defBody (top 25), defScope (top 25), [], []⟩
def d14 : He.DefD := ⟨("bag_filled", none), "bag_filled", "bag_filled", defArgs (top 26), defBody (top 26), defScope (top 26), [], []⟩
def d15 : He.DefD := ⟨("is_told_bag", none), "is_told_bag", "is_told_bag", defArgs (top 27), defBody (top 27), defScope (top 27), [], []⟩
def d16 : He.DefD := ⟨("_law_hand", none), "_law_hand", "_law_hand", defArgs (top 29), defBody (top 29), defScope (top 29), [], []⟩
def d17 : He.DefD := ⟨("_law_draw", none), "_law_draw", "_law_draw", defArgs (top 30), defBody (top 30), defScope (top 30), [], []⟩
def d18 : He.DefD := ⟨("_law_some", none), "_law_some", "_law_some", defArgs (top 31), defBody (top 31), defScope (top 31), [], []⟩
def d19 : He.DefD := ⟨("_law_rows", none), "_law_rows", "_law_rows", defArgs (top 32), defBody (top 32), defScope (top 32), [], []⟩
def d20 : He.DefD := ⟨("_law_sum", none), "_law_sum", "_law_sum", defArgs (top 33), defBody (top 33), defScope (top 33), [], []⟩
def d21 : He.DefD := ⟨("_law_gains", none), "_law_gains", "_law_gains", defArgs (top 34), defBody (top 34), defScope (top 34), [], []⟩
def d22 : He.DefD := ⟨("_law_lots", none), "_law_lots", "_law_lots", defArgs (top 35), defBody (top 35), defScope (top 35), [], []⟩
def d23 : He.DefD := ⟨("_law_pair", none), "_law_pair", "_law_pair", defArgs (top 36), defBody (top 36), defScope (top 36), [], []⟩
def d24 : He.DefD := ⟨("_law_bag", none), "_law_bag", "_law_bag", defArgs (top 37), defBody (top 37), defScope (top 37), [], []⟩
def d25 : He.DefD := ⟨("law", none), "law", "law", defArgs (top 38), defBody (top 38), defScope (top 38), [], []⟩
def fn : List He.DefD := [d0, d1, d2, d3, d4, d5, d6, d7, d8, d9, d10, d11, d12, d13, d14, d15, d16, d17, d18, d19] ++ [d20, d21, d22, d23, d24, d25]
def fa : List He.Fa := [.glo "is_integer", .glo "is_within", .glo "is_row", .glo "Table", .mkr "Table", .glo "check_person", .glo "is_lot", .glo "check_lot", .glo "worth", .glo "is_deal", .glo "check_deal", .glo "lots", .glo "gains", .glo "pairs_share", .glo "is_kept_by_pairs", .glo "bag_filled", .glo "is_told_bag", .glo "_law_hand", .glo "_law_draw", .glo "_law_some"] ++ [.glo "_law_rows", .glo "_law_sum", .glo "_law_gains", .glo "_law_lots", .glo "_law_pair", .glo "_law_bag", .glo "law", .int "MOST_PERSONS" (5), .int "MOST_THINGS" (9), .int "MOST_WORTH" (100), .free "abs", .free "all", .free "bool", .free "enumerate", .free "int", .free "isinstance", .free "len", .free "list", .free "min", .free "range"] ++ [.free "sum", .free "tuple", .free "zip", .cls "Table", .noat "Table" "persons", .noat "Table" "rows", .noat "Table" "things"]
def loose0 : List Str := [("__name__" : Str), ("DealError" : Str), ("BadTable" : Str), ("NoDeal" : Str), ("NoPerson" : Str), ("NoThing" : Str), ("is_integer" : Str), ("is_within" : Str), ("is_row" : Str), ("MOST_PERSONS" : Str), ("MOST_THINGS" : Str), ("MOST_WORTH" : Str), ("Table" : Str), ("check_person" : Str), ("is_lot" : Str), ("check_lot" : Str), ("worth" : Str), ("is_deal" : Str), ("check_deal" : Str), ("lots" : Str)]
def loose1 : List Str := [("gains" : Str), ("pairs_share" : Str), ("is_kept_by_pairs" : Str), ("bag_filled" : Str), ("is_told_bag" : Str), ("_law_hand" : Str), ("_law_draw" : Str), ("_law_some" : Str), ("_law_rows" : Str), ("_law_sum" : Str), ("_law_gains" : Str), ("_law_lots" : Str), ("_law_pair" : Str), ("_law_bag" : Str)]
def loose : List Str := loose0 ++ loose1
abbrev R : PySem.W.OpenRow := PySem.W.OpenLaw.row PySem.Challenge.rw_fairdeals_k12_whole_shares_by_pairs_and
abbrev hk : PySem.W.Hook := He.hookD 5 fa fn
def ob (s : PySem.W.SharedT) : He.AlD := He.obsDG 5 fa fn (HandSHeadRun.getT s)
theorem ob_eq (s : PySem.W.SharedT) : ob s = hk.obs s.abs := He.obsDG_eq (HandSHeadRun.getT_eq s)
theorem run (w : World) : HandSHeadRun.RunEq R (PySem.W.view R.prog [38]) hk ob 6000 loose w := by
  intro os
  kernel_rfl
theorem txt_of {K : PySem.W.Frag} {h : Heap} {mg : Str → Option Value} (X : K.In h) (G : h.Ns mainGlobals mg) (c : He.SaysD fa fn K) : Txt K mg := by
  refine ⟨c.def_ 0 (d := d0) rfl,
    He.glo_ok X G (c.fact 0 rfl),
    c.def_ 1 (d := d1) rfl,
    He.glo_ok X G (c.fact 1 rfl),
    c.def_ 2 (d := d2) rfl,
    He.glo_ok X G (c.fact 2 rfl),
    c.def_ 3 (d := d3) rfl,
    He.glo_ok X G (c.fact 3 rfl),
    He.mkr_ok (c.fact 4 rfl),
    c.def_ 4 (d := d4) rfl,
    He.glo_ok X G (c.fact 5 rfl),
    c.def_ 5 (d := d5) rfl,
    He.glo_ok X G (c.fact 6 rfl),
    c.def_ 6 (d := d6) rfl,
    He.glo_ok X G (c.fact 7 rfl),
    c.def_ 7 (d := d7) rfl,
    He.glo_ok X G (c.fact 8 rfl),
    c.def_ 8 (d := d8) rfl,
    He.glo_ok X G (c.fact 9 rfl),
    c.def_ 9 (d := d9) rfl,
    He.glo_ok X G (c.fact 10 rfl),
    c.def_ 10 (d := d10) rfl,
    He.glo_ok X G (c.fact 11 rfl),
    c.def_ 11 (d := d11) rfl,
    He.glo_ok X G (c.fact 12 rfl),
    c.def_ 12 (d := d12) rfl,
    He.glo_ok X G (c.fact 13 rfl),
    c.def_ 13 (d := d13) rfl,
    He.glo_ok X G (c.fact 14 rfl),
    c.def_ 14 (d := d14) rfl,
    He.glo_ok X G (c.fact 15 rfl),
    c.def_ 15 (d := d15) rfl,
    He.glo_ok X G (c.fact 16 rfl),
    c.def_ 16 (d := d16) rfl,
    He.glo_ok X G (c.fact 17 rfl),
    c.def_ 17 (d := d17) rfl,
    He.glo_ok X G (c.fact 18 rfl),
    c.def_ 18 (d := d18) rfl,
    He.glo_ok X G (c.fact 19 rfl),
    c.def_ 19 (d := d19) rfl,
    He.glo_ok X G (c.fact 20 rfl),
    c.def_ 20 (d := d20) rfl,
    He.glo_ok X G (c.fact 21 rfl),
    c.def_ 21 (d := d21) rfl,
    He.glo_ok X G (c.fact 22 rfl),
    c.def_ 22 (d := d22) rfl,
    He.glo_ok X G (c.fact 23 rfl),
    c.def_ 23 (d := d23) rfl,
    He.glo_ok X G (c.fact 24 rfl),
    c.def_ 24 (d := d24) rfl,
    He.glo_ok X G (c.fact 25 rfl),
    c.def_ 25 (d := d25) rfl,
    He.glo_ok X G (c.fact 26 rfl),
    He.int_ok X G (c.fact 27 rfl),
    He.int_ok X G (c.fact 28 rfl),
    He.int_ok X G (c.fact 29 rfl),
    He.free_ok X G (c.fact 30 rfl),
    He.free_ok X G (c.fact 31 rfl),
    He.free_ok X G (c.fact 32 rfl),
    He.free_ok X G (c.fact 33 rfl),
    He.free_ok X G (c.fact 34 rfl),
    He.free_ok X G (c.fact 35 rfl),
    He.free_ok X G (c.fact 36 rfl),
    He.free_ok X G (c.fact 37 rfl),
    He.free_ok X G (c.fact 38 rfl),
    He.free_ok X G (c.fact 39 rfl),
    He.free_ok X G (c.fact 40 rfl),
    He.free_ok X G (c.fact 41 rfl),
    He.free_ok X G (c.fact 42 rfl),
    (fun c' hc => by
      simp only [List.mem_cons, List.not_mem_nil, or_false] at hc
      subst hc
      exact ⟨He.cls_ok (c.fact 43 rfl), He.noat_ok (c.fact 44 rfl)⟩),
    (fun c' hc => by
      simp only [List.mem_cons, List.not_mem_nil, or_false] at hc
      subst hc
      exact ⟨He.cls_ok (c.fact 43 rfl), He.noat_ok (c.fact 44 rfl)⟩),
    (fun c' hc => by
      simp only [List.mem_cons, List.not_mem_nil, or_false] at hc
      subst hc
      exact ⟨He.cls_ok (c.fact 43 rfl), He.noat_ok (c.fact 45 rfl)⟩),
    (fun c' hc => by
      simp only [List.mem_cons, List.not_mem_nil, or_false] at hc
      subst hc
      exact ⟨He.cls_ok (c.fact 43 rfl), He.noat_ok (c.fact 45 rfl)⟩),
    (fun c' hc => by
      simp only [List.mem_cons, List.not_mem_nil, or_false] at hc
      subst hc
      exact ⟨He.cls_ok (c.fact 43 rfl), He.noat_ok (c.fact 46 rfl)⟩),
    (fun c' hc => by
      simp only [List.mem_cons, List.not_mem_nil, or_false] at hc
      subst hc
      exact ⟨He.cls_ok (c.fact 43 rfl), He.noat_ok (c.fact 46 rfl)⟩)⟩
end K12
open PySem PySem.W PySem.Calls PyProof.Rows
theorem PySem.Challenge.cw_fairdeals_k12_whole_shares_by_pairs_and_holds : PySem.Challenge.rw_fairdeals_k12_whole_shares_by_pairs_and.Holds := by
  w_on; o_law
  refine HandSHeadRun.head_any (r := OpenLaw.row PySem.Challenge.rw_fairdeals_k12_whole_shares_by_pairs_and) (q := view (OpenLaw.row PySem.Challenge.rw_fairdeals_k12_whole_shares_by_pairs_and).prog [38]) (H := K12.hk) (ob := K12.ob) (M := 6000) (loose := K12.loose) (d := HandSHeadRun.topDef (OpenLaw.row PySem.Challenge.rw_fairdeals_k12_whole_shares_by_pairs_and).prog 38) (kwd := []) K12.ob_eq
    (by kernel_rfl) (fun s => by kernel_rfl) K12.run (by kernel_rfl) (by kernel_rfl) (by kernel_rfl) (by rfl) (by first | assumption | decide +kernel) (by decide +kernel) ⟨rfl, rfl, rfl, rfl, rfl, by decide +kernel⟩ ?hw ?hc
  case hw => w_witness2
  case hc =>
    refine L2.walk_ofE (l := PySem.Challenge.rw_fairdeals_k12_whole_shares_by_pairs_and) (n := 63) (k := 8) (x := "script") (CX := L2.CX0) rfl (by decide) (by kernel_rfl) ⟨rfl, by decide, by decide⟩ ?F (fun _ _ _ _ z => z)
    intro w mg fa h Y G hmg0
    obtain ⟨K, KX, c⟩ := Y
    have T := K12.txt_of KX G c
    have hmg : mg ("law" : PySem.Str) = some (.ref fa) := by
      have e : (HandSHeadRun.topDef (OpenLaw.row PySem.Challenge.rw_fairdeals_k12_whole_shares_by_pairs_and).prog 38).name = ("law" : PySem.Str) := by kernel_rfl
      rw [← e]
      exact hmg0
    have e := hmg.symm.trans T.g_law
    cases e
    obtain ⟨fd, F⟩ := T.f_law
    have b := L2.FunD.bindsA (ps := ["script"]) F fun _ _ _ _ _ _ us hl => match us, hl with | [_], _ => rfl
    refine ⟨K, fd, Fd.spLaw K, KX, fun s v => b s [v] rfl, fun H a ns hl _ hS => ⟨a, ns, rfl, hl, hS, fun _ => rfl⟩, fun base _ _ => ?_⟩
    obtain ⟨fd2, F2, ok⟩ := K12.c_law (P := (PySem.Challenge.rw_fairdeals_k12_whole_shares_by_pairs_and).prog) (w := w) (base := base) T K12.hand_works K12.law_works
    obtain ⟨_, _, _, _, _, _, _, _, _, _, _, k1, _⟩ := F.ex
    obtain ⟨_, _, _, _, _, _, _, _, _, _, _, k2, _⟩ := F2.ex
    rw [k1] at k2
    cases k2
    exact ok
