import PyProof.Rows.All
import Wide.All
import OpenK.AllK
import Wide.FinOn
import KE.KStateDown
import KE.SortData
import KE.SortKeyHeap
import HandS.ForMost
import HandS.Exc
import HandS.ExcOwn
import HandS.WordsExc
import HandS.Defaults
import HandS.Deep
import HandS.IsInst
import HandS.Wide
import HandS.TupAny
import HandS.Style
import HandS.HeadHook2
import HandS.Lambda
import KE.KxIndex
import HandS.Walk
import HandS.ExcInit
import HandS.ExcSuper
import HandS.ExcField
import HandS.ExcIs
import KE.KSuper
import KE.KExcSuper
import KE.KIsAll
import HandS.Dict
import HandS.Small
import HandS.SortKw
import HandS.Head0
import HandS.Head1
import HandS.Head2
import HandS.HeadEnd
import HandS.HeadHook1
import HandS.HeadHook3
import HandS.HeadHook4
import HandS.HeadWalk
import HandS.EndTab
import PyProof.P3Eq
import PySem.Challenge.RW_tellorhide_k55_least_hitting
set_option Elab.async false
set_option linter.all false
section
set_option maxRecDepth 100000
set_option maxHeartbeats 1000000
/-! T2: plain data over the hand layer: each expression, each statement is a plain function on data; a rule a construct. -/
namespace T2
open PySem PySem.Spec L2

/-- plain data -/
inductive D where
  | non | bl (b : Bool) | int (i : Int) | str (s : Str)
  | lst (xs : List D) | tup (xs : List D)
  | dic (kvs : List (Key × D))
  | obj (c : Str) (fs : List (Str × D))
  /-- the script: read, never changed -/
  | scr (ns : List Int)
  /-- an exception in hand: its address, its dict's, its class, its fields -/
  | exn (a : Addr) (dx : Option Addr) (c : Str) (fs : List (Str × D))

/-- what a run gives -/
inductive R (α : Type) where
  | ok (a : α) | exc (c : Str) (fs : List (Str × D)) | bad

namespace R
variable {α β : Type}
def bind (r : R α) (g : α → R β) : R β := match r with
  | .ok a => g a
  | .exc c fs => .exc c fs
  | .bad => .bad
@[simp] theorem bind_ok (a : α) (g : α → R β) : (R.ok a).bind g = g a := rfl
@[simp] theorem bind_exc (c fs) (g : α → R β) : (R.exc c fs : R α).bind g = .exc c fs := rfl
@[simp] theorem bind_bad (g : α → R β) : (R.bad : R α).bind g = .bad := rfl
end R

section
variable (K : PySem.W.Frag) (B : Hp)
mutual
inductive Rep : V → D → Prop
  | non : Rep .non .non
  | bl (b : Bool) : Rep (.bl b) (.bl b)
  | int (i : Int) : Rep (.int i) (.int i)
  | str (s : Str) : Rep (.str s) (.str s)
  | lst {a : Addr} {vs : List V} {ds : List D} : B a = some (.lst vs) → RepAll vs ds → Rep (.ref a) (.lst ds)
  | scr {a : Addr} {ns : List Int} : SqL K B a (ns.map V.int) → Rep (.ref a) (.scr ns)
  | tup {a : Addr} {vs : List V} {ds : List D} : SqT K B a vs → RepAll vs ds → Rep (.ref a) (.tup ds)
  | dic {a : Addr} {kvs : List (Key × V)} {ds : List (Key × D)} : B a = some (.dK kvs) → RepKV kvs ds → Rep (.ref a) (.dic ds)
  | obj {a dx : Addr} {c : Str} {fs : List (Str × V)} {ds : List (Str × D)} : B a = some (.ins (He.ga K c) dx fs) → RepF fs ds → Rep (.ref a) (.obj c ds)
  | exn0 (a : Addr) (c : Str) : Rep (.ref a) (.exn a none c [])
  | exn {a d : Addr} {c : Str} {fs : List (Str × V)} {ds : List (Str × D)} : B d = some (.xd fs) → RepF fs ds → Rep (.ref a) (.exn a (some d) c ds)
inductive RepAll : List V → List D → Prop
  | nil : RepAll [] []
  | cons {v vs d ds} : Rep v d → RepAll vs ds → RepAll (v :: vs) (d :: ds)
inductive RepKV : List (Key × V) → List (Key × D) → Prop
  | nil : RepKV [] []
  | cons {k v vs d ds} : Rep v d → RepKV vs ds → RepKV ((k, v) :: vs) ((k, d) :: ds)
inductive RepF : List (Str × V) → List (Str × D) → Prop
  | nil : RepF [] []
  | cons {k v vs d ds} : Rep v d → RepF vs ds → RepF ((k, v) :: vs) ((k, d) :: ds)
end
end

theorem seqT_mono {K : PySem.W.Frag} {H H' : Hp} {a : Addr} {xs : List V} (e : Same H H') (h : SqT K H a xs) : SqT K H' a xs := by
  rcases h with (h | ⟨o, h⟩) | h
  · exact .inl (.inl (e _ _ h))
  · exact .inl (.inr ⟨o, e _ _ h⟩)
  · exact .inr h

section
variable {K : PySem.W.Frag} {B B' : Hp}
mutual
theorem Rep.mono (s : Same B B') : ∀ {v : V} {d : D}, Rep K B v d → Rep K B' v d
  | _, _, .non => .non
  | _, _, .bl b => .bl b
  | _, _, .int i => .int i
  | _, _, .str i => .str i
  | _, _, .lst h r => .lst (s _ _ h) (RepAll.mono s r)
  | _, _, .scr h => .scr (Same.seq s h)
  | _, _, .tup h r => .tup (seqT_mono s h) (RepAll.mono s r)
  | _, _, .dic h r => .dic (s _ _ h) (RepKV.mono s r)
  | _, _, .obj h r => .obj (s _ _ h) (RepF.mono s r)
  | _, _, .exn0 a c => .exn0 a c
  | _, _, .exn h r => .exn (s _ _ h) (RepF.mono s r)
theorem RepAll.mono (s : Same B B') : ∀ {vs : List V} {ds : List D}, RepAll K B vs ds → RepAll K B' vs ds
  | _, _, .nil => .nil
  | _, _, .cons h r => .cons (Rep.mono s h) (RepAll.mono s r)
theorem RepKV.mono (s : Same B B') : ∀ {vs : List (Key × V)} {ds : List (Key × D)}, RepKV K B vs ds → RepKV K B' vs ds
  | _, _, .nil => .nil
  | _, _, .cons h r => .cons (Rep.mono s h) (RepKV.mono s r)
theorem RepF.mono (s : Same B B') : ∀ {vs : List (Str × V)} {ds : List (Str × D)}, RepF K B vs ds → RepF K B' vs ds
  | _, _, .nil => .nil
  | _, _, .cons h r => .cons (Rep.mono s h) (RepF.mono s r)
end
theorem RepAll.length : ∀ {vs : List V} {ds : List D}, RepAll K B vs ds → vs.length = ds.length
  | _, _, .nil => rfl
  | _, _, .cons _ r => by rw [List.length_cons, List.length_cons, RepAll.length r]
theorem RepAll.get : ∀ {vs : List V} {ds : List D} {i : Nat} {d : D}, RepAll K B vs ds → ds[i]? = some d → ∃ v, vs[i]? = some v ∧ Rep K B v d
  | _, _, _, _, .nil, e => by simp at e
  | _, _, 0, _, .cons h _, e => by
    simp only [List.getElem?_cons_zero, Option.some.injEq] at e
    subst e
    exact ⟨_, rfl, h⟩
  | _, _, i + 1, _, .cons _ r, e => by
    obtain ⟨v, h1, h2⟩ := RepAll.get (i := i) r (by simpa using e)
    exact ⟨v, by simpa using h1, h2⟩
theorem RepAll.get' {vs : List V} {ds : List D} {i : Nat} {v : V} (r : RepAll K B vs ds) (e : vs[i]? = some v) : ∃ d, ds[i]? = some d ∧ Rep K B v d := by
  have hl := r.length
  have hi : i < ds.length := by rw [← hl]; exact (List.getElem?_eq_some_iff.mp e).1
  obtain ⟨w, h1, h2⟩ := r.get (List.getElem?_eq_getElem hi)
  rw [e] at h1; cases h1
  exact ⟨_, List.getElem?_eq_getElem hi, h2⟩
theorem RepAll.append : ∀ {vs ws : List V} {ds es : List D}, RepAll K B vs ds → RepAll K B ws es → RepAll K B (vs ++ ws) (ds ++ es)
  | _, _, _, _, .nil, s => s
  | _, _, _, _, .cons h r, s => .cons h (RepAll.append r s)
theorem RepAll.take : ∀ {vs : List V} {ds : List D} (n : Nat), RepAll K B vs ds → RepAll K B (vs.take n) (ds.take n)
  | _, _, 0, _ => .nil
  | _, _, _ + 1, .nil => .nil
  | _, _, n + 1, .cons h r => .cons h (RepAll.take n r)
theorem RepAll.drop : ∀ {vs : List V} {ds : List D} (n : Nat), RepAll K B vs ds → RepAll K B (vs.drop n) (ds.drop n)
  | _, _, 0, r => r
  | _, _, _ + 1, .nil => .nil
  | _, _, n + 1, .cons _ r => RepAll.drop n r
theorem RepAll.set {v : V} {d : D} (h : Rep K B v d) : ∀ {vs : List V} {ds : List D} (i : Nat), RepAll K B vs ds → RepAll K B (vs.set i v) (ds.set i d)
  | _, _, _, .nil => .nil
  | _, _, 0, .cons _ r => .cons h r
  | _, _, i + 1, .cons q r => .cons q (RepAll.set h i r)
theorem RepAll.reverse : ∀ {vs : List V} {ds : List D}, RepAll K B vs ds → RepAll K B vs.reverse ds.reverse
  | _, _, .nil => .nil
  | _, _, .cons h r => by
    rw [List.reverse_cons, List.reverse_cons]
    exact (RepAll.reverse r).append (.cons h .nil)
theorem RepAll.dropLast {vs : List V} {ds : List D} (r : RepAll K B vs ds) : RepAll K B vs.dropLast ds.dropLast := by
  rw [List.dropLast_eq_take, List.dropLast_eq_take, r.length]
  exact r.take _
theorem RepAll.ints : ∀ {ns : List Int}, RepAll K B (ns.map V.int) (ns.map D.int)
  | [] => .nil
  | n :: ns => .cons (.int n) RepAll.ints
theorem RepAll.ints_of : ∀ {vs : List V} {ns : List Int}, RepAll K B vs (ns.map D.int) → vs = ns.map V.int
  | _, [], h => by cases h; rfl
  | _, n :: ns, h => by
    cases h with
    | cons h r => cases h; rw [RepAll.ints_of r]; rfl
end

/-! ### heaps -/
abbrev Tb := List (Addr × Str)
variable {T : Tb}
/-- H goes on as H': code tables may grow, all else stays -/
structure Kp (T : Tb) (H H' : Hp) : Prop where
  ext : LamX.ExtN H H'
  pres : ∀ a, H a ≠ none → H' a ≠ none
  tab : ∀ p ∈ T, LamX.TabS H p.1 p.2 → LamX.TabS H' p.1 p.2
theorem Kp.of {H H' : Hp} (s : Same H H') : Kp T H H' := ⟨fun b o h _ => s b o h, fun a n z => n (s.free z), fun _ _ t => t.ext s⟩
theorem Kp.refl {H : Hp} : Kp T H H := .of (Same.refl _)
theorem Kp.trans {H H1 H2 : Hp} (a : Kp T H H1) (b : Kp T H1 H2) : Kp T H H2 := ⟨a.ext.trans b.ext, fun x n => b.pres x (a.pres x n), fun p hp t => b.tab p hp (a.tab p hp t)⟩
theorem Kp.free {H H' : Hp} (s : Kp T H H') {a : Addr} (h : H' a = none) : H a = none := by
  cases e : H a with
  | none => rfl
  | some o => exact absurd h (s.pres a (by rw [e]; exact fun z => nomatch z))
theorem Kp.lst {H H' : Hp} (s : Kp T H H') {a : Addr} {vs : List V} (h : H a = some (.lst vs)) : H' a = some (.lst vs) := s.ext a _ h fun _ z => nomatch z
theorem Kp.dic {H H' : Hp} (s : Kp T H H') {a : Addr} {vs : List (Key × V)} (h : H a = some (.dK vs)) : H' a = some (.dK vs) := s.ext a _ h fun _ z => nomatch z
theorem tabS_upd {H : Hp} {a P : Addr} {q : Str} {o u : HO} (t : LamX.TabS H P q) (ha : H a = some u) (hu : (∃ vs, u = .lst vs) ∨ ∃ kvs, u = .dK kvs) : LamX.TabS (upd H a o) P q := by
  obtain ⟨ps, h1, h2, h3⟩ := t
  have ne : ∀ b w, H b = some w → (∀ vs, w ≠ .lst vs) → (∀ kvs, w ≠ .dK kvs) → upd H a o b = some w := fun b w e n1 n2 => by
    rw [upd_ne (fun z => ?_)]
    · exact e
    · rw [z, ha] at e
      cases e
      rcases hu with ⟨vs, rfl⟩ | ⟨vs, rfl⟩
      · exact n1 _ rfl
      · exact n2 _ rfl
  refine ⟨ps, ne _ _ h1 (fun _ z => nomatch z) (fun _ z => nomatch z), h2, fun pos cv hc => ?_⟩
  obtain ⟨c, e1, e2⟩ := h3 pos cv hc
  refine ⟨c, e1, ne _ _ e2 (fun _ z => ?_) (fun _ z => ?_)⟩ <;> (unfold LamX.CodeO at z; cases z)
/-- an object that stood not at the entry has changed -/
theorem Kp.upd {H H' : Hp} {a : Addr} {o u : HO} (s : Kp T H H') (n : H a = none) (e : H' a = some u) (hu : (∃ vs, u = .lst vs) ∨ ∃ kvs, u = .dK kvs) : Kp T H (upd H' a o) :=
  ⟨fun b w h nt => by rw [upd_ne (ne_of_none h n)]; exact s.ext b w h nt, fun b h => by
    by_cases z : b = a
    · rw [z, upd_same]; exact fun z => nomatch z
    · rw [upd_ne z]; exact s.pres b h, fun p hp t => tabS_upd (s.tab p hp t) e hu⟩
/-- B the part that stays for good, H all that is tracked -/
structure Step (T : Tb) (B H B' H' : Hp) : Prop where
  bb : Same B B'
  sub : Same B' H'
  hh : Kp T H H'
  no : ∀ a, B a = none → H a ≠ none → B' a = none
section
variable {B H B1 H1 B2 H2 : Hp}
theorem Step.refl (s : Same B H) : Step T B H B H := ⟨Same.refl _, s, Kp.refl, fun _ h _ => h⟩
theorem Step.trans (a : Step T B H B1 H1) (b : Step T B1 H1 B2 H2) : Step T B H B2 H2 :=
  ⟨a.bb.trans b.bb, b.sub, a.hh.trans b.hh, fun x h n => b.no x (a.no x h n) (a.hh.pres x n)⟩
theorem Step.none_of (a : Step T B H B1 H1) {x : Addr} (h : B x = none) {o : HO} (e : H x = some o) (nt : ∀ ps, o ≠ .tbl ps := by intro _ z; cases z) : B1 x = none ∧ H1 x = some o :=
  ⟨a.no x h (by rw [e]; exact fun z => nomatch z), a.hh.ext x o e nt⟩
theorem same_upd {a : Addr} {o : HO} (h : H a = none) : Same H (upd H a o) := fun b u e => by rw [upd_ne (ne_of_none e h)]; exact e
/-- a new object that nobody may change -/
theorem Step.put {a : Addr} {o : HO} (s : Same B H) (h : H a = none) : Step T B H (upd B a o) (upd H a o) := by
  have hb : B a = none := s.free h
  refine ⟨same_upd hb, fun b u e => ?_, .of (same_upd h), fun b hb n => ?_⟩
  · by_cases q : b = a
    · subst q; rw [upd_same] at e ⊢; exact e
    · rw [upd_ne q] at e ⊢; exact s b u e
  · rw [upd_ne (fun q => n (by rw [q]; exact h))]; exact hb
/-- a new object that is one's own -/
theorem Step.own {a : Addr} {o : HO} (s : Same B H) (h : H a = none) : Step T B H B (upd H a o) :=
  ⟨Same.refl _, s.trans (same_upd h), .of (same_upd h), fun b hb _ => hb⟩
/-- a new object is given away -/
theorem Step.give {a : Addr} {o : HO} (s : Step T B H B1 H1) (h : H a = none) (hb : B1 a = none) (e : H1 a = some o) : Step T B H (upd B1 a o) H1 := by
  refine ⟨s.bb.trans (same_upd hb), fun b u q => ?_, s.hh, fun b hb' n => ?_⟩
  · by_cases z : b = a
    · subst z; rw [upd_same] at q; cases q; exact e
    · rw [upd_ne z] at q; exact s.sub b u q
  · rw [upd_ne (fun q => n (by rw [q]; exact h))]; exact s.no b hb' n
end

/-! ### values -/
/-- sh: shared; fr: new, nobody else's; lk: to be looked at -/
inductive Md | sh | fr | lk
  deriving DecidableEq

/-- one's own object at a -/
def OwnAt (K : PySem.W.Frag) (B H : Hp) (a : Addr) (d : D) : Prop := B a = none ∧ match d with
  | .lst ds => ∃ vs, H a = some (.lst vs) ∧ RepAll K B vs ds
  | .dic ds => ∃ kvs, H a = some (.dK kvs) ∧ RepKV K B kvs ds
  | _ => False
def Lk (K : PySem.W.Frag) (B H : Hp) (v : V) (d : D) : Prop := match d with
  | .lst ds => ∃ a vs, v = .ref a ∧ H a = some (.lst vs) ∧ RepAll K B vs ds
  | .dic ds => ∃ a kvs, v = .ref a ∧ H a = some (.dK kvs) ∧ RepKV K B kvs ds
  | _ => Rep K B v d
def Res (m : Md) (K : PySem.W.Frag) (B' H H' : Hp) (v : V) (d : D) : Prop := match m with
  | .sh => Rep K B' v d
  | .fr => ∃ a, v = .ref a ∧ H a = none ∧ OwnAt K B' H' a d
  | .lk => Lk K B' H' v d
section
variable {K : PySem.W.Frag} {B H H0 B' H' : Hp} {v : V} {d : D} {a : Addr}
theorem OwnAt.step (o : OwnAt K B H a d) (s : Step T B H B' H') : OwnAt K B' H' a d := by
  obtain ⟨hb, q⟩ := o
  cases d with
  | lst ds =>
    obtain ⟨vs, e, r⟩ := q
    obtain ⟨n, e'⟩ := s.none_of hb e
    exact ⟨n, vs, e', r.mono s.bb⟩
  | dic ds =>
    obtain ⟨vs, e, r⟩ := q
    obtain ⟨n, e'⟩ := s.none_of hb e
    exact ⟨n, vs, e', r.mono s.bb⟩
  | _ => exact q.elim
theorem OwnAt.lk (o : OwnAt K B H a d) : Lk K B H (.ref a) d := by
  obtain ⟨hb, q⟩ := o
  cases d with
  | lst ds =>
    obtain ⟨vs, e, r⟩ := q
    exact ⟨a, vs, rfl, e, r⟩
  | dic ds =>
    obtain ⟨vs, e, r⟩ := q
    exact ⟨a, vs, rfl, e, r⟩
  | _ => exact q.elim
theorem Rep.lk (s : Same B H) (r : Rep K B v d) : Lk K B H v d := by
  cases r with
  | lst h r => exact ⟨_, _, rfl, s _ _ h, r⟩
  | scr h => exact .scr h
  | dic h r => exact ⟨_, _, rfl, s _ _ h, r⟩
  | non => exact .non
  | bl b => exact .bl b
  | int i => exact .int i
  | str x => exact .str x
  | tup h r => exact .tup h r
  | obj h r => exact .obj h r
  | exn0 a c => exact .exn0 a c
  | exn h r => exact .exn h r
theorem Lk.step (q : Lk K B H v d) (s : Step T B H B' H') : Lk K B' H' v d := by
  cases d with
  | lst ds => obtain ⟨a, vs, e, h, r⟩ := q; exact ⟨a, vs, e, s.hh.lst h, r.mono s.bb⟩
  | dic ds => obtain ⟨a, vs, e, h, r⟩ := q; exact ⟨a, vs, e, s.hh.dic h, r.mono s.bb⟩
  | _ => exact Rep.mono s.bb q
/-- what was one's own is everybody's from now on -/
theorem OwnAt.give (o : OwnAt K B' H' a d) (s : Step T B H B' H') (n : H a = none) : ∃ B2, Step T B H B2 H' ∧ Rep K B2 (.ref a) d := by
  obtain ⟨hb, q⟩ := o
  cases d with
  | lst ds =>
    obtain ⟨vs, e, r⟩ := q
    exact ⟨_, s.give n hb e, .lst upd_same (r.mono (same_upd hb))⟩
  | dic ds =>
    obtain ⟨vs, e, r⟩ := q
    exact ⟨_, s.give n hb e, .dic upd_same (r.mono (same_upd hb))⟩
  | _ => exact q.elim
end

/-! ### an exception: its class by name, its fields -/
def ExcOk (K : PySem.W.Frag) (B H : Hp) (cls : Value) (dx : Option Addr) (c : Str) (fs : List (Str × D)) : Prop :=
  cls = .ref (He.ga K c) ∧ ((fs = [] ∧ dx = none) ∨ ∃ (d : Addr) (vs : List (Str × V)), dx = some d ∧ B d = some (.xd vs) ∧ RepF K B vs fs)

/-! ### what is wanted behind -/
abbrev ERel (α β : Type) := Hp → Hp → Hp → β → α → Prop
def Post {α β : Type} (T : Tb) (K : PySem.W.Frag) (W : WX) (rel : ERel α β) (σ : St) (B H : Hp) (r : R α) (Q : β → Hp → Prop) : Prop := match r with
  | .ok d => ∀ v B' H', Step T B H B' H' → rel B' H H' v d → Q v H'
  | .exc c fs => ∀ cls dx B' H', Step T B H B' H' → ExcOk K B' H' cls dx c fs → W cls dx σ H'
  | .bad => False
def Anti {α β : Type} (T : Tb) (rel : ERel α β) : Prop := ∀ B' H H1 H' v d, Kp T H H1 → rel B' H1 H' v d → rel B' H H' v d
theorem anti_res {m : Md} {K : PySem.W.Frag} : Anti T (Res m K) := fun B' H H1 H' v d s r => by
  cases m with
  | fr => obtain ⟨a, e, n, o⟩ := r; exact ⟨a, e, s.free n, o⟩
  | sh => exact r
  | lk => exact r
section
variable {α β γ δ : Type} {K : PySem.W.Frag} {W : WX} {rel : ERel α β} {rel2 : ERel γ δ} {σ : St} {B H B1 H1 : Hp} {r : R α} {Q : β → Hp → Prop}
theorem Post.step (an : Anti T rel) (h : Post T K W rel σ B H r Q) (s : Step T B H B1 H1) : Post T K W rel σ B1 H1 r Q := by
  cases r with
  | ok d => exact fun v B' H' t q => h v B' H' (s.trans t) (an _ _ _ _ _ _ s.hh q)
  | exc c fs => exact fun cls dx B' H' t q => h cls dx B' H' (s.trans t) q
  | bad => exact h
theorem Post.seq {g : α → R γ} {Q1 : β → Hp → Prop} {Q2 : δ → Hp → Prop} (an : Anti T rel2) (h : Post T K W rel2 σ B H (r.bind g) Q2)
    (k : ∀ d v B1 H1, r = .ok d → Step T B H B1 H1 → rel B1 H H1 v d → Post T K W rel2 σ B1 H1 (g d) Q2 → Q1 v H1) : Post T K W rel σ B H r Q1 := by
  cases r with
  | ok d => exact fun v B' H' s q => k d v B' H' rfl s q (Post.step an h s)
  | exc c fs => exact h
  | bad => exact h
theorem Post.at {d : α} {v : β} (h : Post T K W rel σ B H (.ok d) Q) (s : Step T B H B1 H1) (q : rel B1 H H1 v d) : Q v H1 := h v B1 H1 s q
end

/-! ### the state of a def's body: env ρ over the slots σ -/
abbrev Rho := List (Option D)
/-- the code tables that the program's lambdas need -/
def TabsB (T : Tb) (B H : Hp) : Prop := ∀ p ∈ T, B p.1 = none ∧ LamX.TabS H p.1 p.2
theorem TabsB.step {T : Tb} {B H B' H' : Hp} (t : TabsB T B H) (s : Step T B H B' H') : TabsB T B' H' := fun p hp => by
  obtain ⟨h1, h2⟩ := t p hp
  refine ⟨s.no _ h1 ?_, s.hh.tab p hp h2⟩
  obtain ⟨ps, e, _⟩ := h2
  rw [e]
  exact fun z => nomatch z
structure TInv (T : Tb) (K : PySem.W.Frag) (B0 H0 : Hp) (own : List Nat) (ρ : Rho) (σ : St) (B H : Hp) : Prop where
  len : ρ.length = σ.length
  st : Step T B0 H0 B H
  tb : TabsB T B0 H0
  sh : ∀ i d, i ∉ own → ρ[i]? = some (some d) → ∃ v, σ[i]? = some (some v) ∧ Rep K B v d
  ow : ∃ ad : Nat → Addr, (∀ i d, i ∈ own → ρ[i]? = some (some d) → σ[i]? = some (some (.ref (ad i))) ∧ H0 (ad i) = none ∧ OwnAt K B H (ad i) d) ∧
    ∀ i j d e, i ∈ own → j ∈ own → ρ[i]? = some (some d) → ρ[j]? = some (some e) → ad i = ad j → i = j
section
variable {T : Tb} {K : PySem.W.Frag} {B0 H0 B H B' H' : Hp} {own own' : List Nat} {ρ : Rho} {σ : St}
theorem TInv.step (I : TInv T K B0 H0 own ρ σ B H) (s : Step T B H B' H') : TInv T K B0 H0 own ρ σ B' H' := by
  obtain ⟨ad, h1, h2⟩ := I.ow
  refine ⟨I.len, I.st.trans s, I.tb, fun i d hi e => ?_, ad, fun i d hi e => ?_, h2⟩
  · obtain ⟨v, a, b⟩ := I.sh i d hi e
    exact ⟨v, a, b.mono s.bb⟩
  · obtain ⟨a, b, c⟩ := h1 i d hi e
    exact ⟨a, b, c.step s⟩
theorem TInv.sub (I : TInv T K B0 H0 own ρ σ B H) : Same B H := I.st.sub
theorem TInv.lk (I : TInv T K B0 H0 own ρ σ B H) {i : Nat} {d : D} (e : ρ[i]? = some (some d)) : ∃ v, σ[i]? = some (some v) ∧ Lk K B H v d := by
  by_cases hi : i ∈ own
  · obtain ⟨ad, h1, h2⟩ := I.ow
    obtain ⟨a, b, c⟩ := h1 i d hi e
    exact ⟨_, a, c.lk⟩
  · obtain ⟨v, a, b⟩ := I.sh i d hi e
    exact ⟨v, a, b.lk I.sub⟩
/-- one slot less is one's own -/
theorem TInv.give1 (I : TInv T K B0 H0 own ρ σ B H) (j : Nat) : ∃ B2, Same B B2 ∧ TInv T K B0 H0 (own.filter (· ≠ j)) ρ σ B2 H := by
  obtain ⟨ad, h1, h2⟩ := I.ow
  have mem : ∀ i, i ∈ own.filter (· ≠ j) ↔ i ∈ own ∧ i ≠ j := fun i => by simp [List.mem_filter]
  by_cases hj : j ∈ own
  · cases ej : ρ[j]? with
    | none =>
      refine ⟨B, Same.refl _, I.len, I.st, I.tb, fun i d hi e => ?_, ad, fun i d hi e => h1 i d ((mem i).mp hi).1 e, fun i k d e hi hk => h2 i k d e ((mem i).mp hi).1 ((mem k).mp hk).1⟩
      by_cases q : i = j
      · subst q; rw [ej] at e; cases e
      · exact I.sh i d (fun z => hi ((mem i).mpr ⟨z, q⟩)) e
    | some o =>
      cases o with
      | none =>
        refine ⟨B, Same.refl _, I.len, I.st, I.tb, fun i d hi e => ?_, ad, fun i d hi e => h1 i d ((mem i).mp hi).1 e, fun i k d e hi hk => h2 i k d e ((mem i).mp hi).1 ((mem k).mp hk).1⟩
        by_cases q : i = j
        · subst q; rw [ej] at e; cases e
        · exact I.sh i d (fun z => hi ((mem i).mpr ⟨z, q⟩)) e
      | some dj =>
        obtain ⟨sj, nj, oj⟩ := h1 j dj hj ej
        obtain ⟨hb, q⟩ := id oj
        have main : ∀ o, H (ad j) = some o → Rep K (upd B (ad j) o) (.ref (ad j)) dj → ∃ B2, Same B B2 ∧ TInv T K B0 H0 (own.filter (· ≠ j)) ρ σ B2 H := fun o eo rj => by
          refine ⟨upd B (ad j) o, same_upd hb, I.len, I.st.give nj hb eo, I.tb, fun i d hi e => ?_, ad, fun i d hi e => ?_, fun i k d e hi hk => h2 i k d e ((mem i).mp hi).1 ((mem k).mp hk).1⟩
          · by_cases q : i = j
            · subst q; rw [ej] at e; cases e; exact ⟨_, sj, rj⟩
            · obtain ⟨v, a, b⟩ := I.sh i d (fun z => hi ((mem i).mpr ⟨z, q⟩)) e
              exact ⟨v, a, b.mono (same_upd hb)⟩
          · obtain ⟨hi1, hi2⟩ := (mem i).mp hi
            obtain ⟨a, b, c⟩ := h1 i d hi1 e
            have ne : ad i ≠ ad j := fun z => hi2 (h2 i j d dj hi1 hj e ej z)
            refine ⟨a, b, by rw [upd_ne ne]; exact c.1, ?_⟩
            obtain ⟨_, c⟩ := c
            cases d with
            | lst ds => obtain ⟨vs, e1, r⟩ := c; exact ⟨vs, e1, r.mono (same_upd hb)⟩
            | dic ds => obtain ⟨vs, e1, r⟩ := c; exact ⟨vs, e1, r.mono (same_upd hb)⟩
            | _ => exact c.elim
        cases dj with
        | lst ds => obtain ⟨vs, e, r⟩ := q; exact main _ e (.lst upd_same (r.mono (same_upd hb)))
        | dic ds => obtain ⟨vs, e, r⟩ := q; exact main _ e (.dic upd_same (r.mono (same_upd hb)))
        | _ => exact q.elim
  · have e : own.filter (· ≠ j) = own := List.filter_eq_self.mpr fun i hi => decide_eq_true (fun z : i = j => hj (by rw [← z]; exact hi))
    rw [e]
    exact ⟨B, Same.refl _, I⟩
/-- the same set of one's own -/
theorem TInv.congr (I : TInv T K B0 H0 own ρ σ B H) (h : ∀ i, i ∈ own ↔ i ∈ own') : TInv T K B0 H0 own' ρ σ B H := by
  obtain ⟨ad, h1, h2⟩ := I.ow
  exact ⟨I.len, I.st, I.tb, fun i d hi e => I.sh i d (fun z => hi ((h i).mp z)) e, ad, fun i d hi e => h1 i d ((h i).mpr hi) e, fun i j d e hi hj => h2 i j d e ((h i).mpr hi) ((h j).mpr hj)⟩
/-- fewer slots are one's own -/
theorem TInv.give (I : TInv T K B0 H0 own ρ σ B H) (h : ∀ i ∈ own', i ∈ own) : ∃ B2, Same B B2 ∧ TInv T K B0 H0 own' ρ σ B2 H := by
  have all : ∀ (js : List Nat) (own : List Nat) (B : Hp), TInv T K B0 H0 own ρ σ B H → ∃ B2, Same B B2 ∧ TInv T K B0 H0 (own.filter (· ∉ js)) ρ σ B2 H := by
    intro js
    induction js with
    | nil => intro own B I; exact ⟨B, Same.refl _, I.congr fun i => by simp⟩
    | cons j js ih =>
      intro own B I
      obtain ⟨B1, s1, I1⟩ := I.give1 j
      obtain ⟨B2, s2, I2⟩ := ih _ _ I1
      exact ⟨B2, s1.trans s2, I2.congr fun i => by simp only [List.mem_filter, decide_eq_true_eq, List.mem_cons]; constructor <;> (rintro h; refine ⟨?_, ?_⟩ <;> simp_all)⟩
  obtain ⟨B2, s2, I2⟩ := all (own.filter (· ∉ own')) own B I
  exact ⟨B2, s2, I2.congr fun i => by
    simp only [List.mem_filter, decide_eq_true_eq]
    constructor
    · rintro ⟨a, b⟩
      by_cases q : i ∈ own'
      · exact q
      · exact absurd ⟨a, q⟩ b
    · intro a
      exact ⟨h i a, fun z => z.2 a⟩⟩
/-- a slot is stored: a shared value -/
theorem TInv.put {i : Nat} {v : V} {d : D} (I : TInv T K B0 H0 own ρ σ B H) (r : Rep K B v d) : TInv T K B0 H0 (own.filter (· ≠ i)) (ρ.set i (some d)) (σ.set i (some v)) B H := by
  obtain ⟨ad, h1, h2⟩ := I.ow
  have mem : ∀ k, k ∈ own.filter (· ≠ i) ↔ k ∈ own ∧ k ≠ i := fun k => by simp [List.mem_filter]
  have old : ∀ {k e}, k ≠ i → (ρ.set i (some d))[k]? = some (some e) → ρ[k]? = some (some e) := fun {k e} hk q => by rw [List.getElem?_set_ne (Ne.symm hk)] at q; exact q
  refine ⟨by simpa using I.len, I.st, I.tb, fun k e hk q => ?_, ad, fun k e hk q => ?_, fun k l e f hk hl qk ql => h2 k l e f ((mem k).mp hk).1 ((mem l).mp hl).1 (old ((mem k).mp hk).2 qk) (old ((mem l).mp hl).2 ql)⟩
  · by_cases hki : k = i
    · subst hki
      have hlt : k < ρ.length := by
        have := (List.getElem?_eq_some_iff.mp q).1
        simpa using this
      rw [List.getElem?_set_self hlt] at q
      cases q
      exact ⟨v, List.getElem?_set_self (by rw [← I.len]; exact hlt), r⟩
    · obtain ⟨w, a, b⟩ := I.sh k e (fun z => hk ((mem k).mpr ⟨z, hki⟩)) (old hki q)
      exact ⟨w, by rw [List.getElem?_set_ne (Ne.symm hki)]; exact a, b⟩
  · obtain ⟨hk1, hk2⟩ := (mem k).mp hk
    obtain ⟨a, b, c⟩ := h1 k e hk1 (old hk2 q)
    exact ⟨by rw [List.getElem?_set_ne (Ne.symm hk2)]; exact a, b, c⟩
/-- a slot is stored: a new object, one's own -/
theorem TInv.putOwn {i : Nat} {a : Addr} {d : D} {B1 H1 : Hp} (I : TInv T K B0 H0 own ρ σ B1 H1) (s : Step T B1 H1 B H) (n : H1 a = none) (o : OwnAt K B H a d) :
    TInv T K B0 H0 (i :: own.filter (· ≠ i)) (ρ.set i (some d)) (σ.set i (some (.ref a))) B H := by
  have I2 := I.step s
  obtain ⟨ad, h1, h2⟩ := I.ow
  have mem : ∀ k, k ∈ i :: own.filter (· ≠ i) ↔ k = i ∨ (k ∈ own ∧ k ≠ i) := fun k => by simp [List.mem_filter]
  have old : ∀ {k e}, k ≠ i → (ρ.set i (some d))[k]? = some (some e) → ρ[k]? = some (some e) := fun {k e} hk q => by rw [List.getElem?_set_ne (Ne.symm hk)] at q; exact q
  have neA : ∀ k e, k ∈ own → ρ[k]? = some (some e) → ad k ≠ a := fun k e hk q z => by
    obtain ⟨_, _, c⟩ := h1 k e hk q
    obtain ⟨_, c⟩ := c
    rw [z] at c
    cases e with
    | lst ds => obtain ⟨vs, e1, _⟩ := c; rw [n] at e1; cases e1
    | dic ds => obtain ⟨vs, e1, _⟩ := c; rw [n] at e1; cases e1
    | _ => exact c
  refine ⟨by simpa using I.len, I2.st, I.tb, fun k e hk q => ?_, fun k => if k = i then a else ad k, fun k e hk q => ?_, fun k l e f hk hl qk ql z => ?_⟩
  · have hki : k ≠ i := fun z => hk ((mem k).mpr (.inl z))
    obtain ⟨w, x, y⟩ := I2.sh k e (fun z => hk ((mem k).mpr (.inr ⟨z, hki⟩))) (old hki q)
    exact ⟨w, by rw [List.getElem?_set_ne (Ne.symm hki)]; exact x, y⟩
  · rcases (mem k).mp hk with hki | ⟨hk1, hk2⟩
    · subst hki
      have hlt : k < ρ.length := by
        have := (List.getElem?_eq_some_iff.mp q).1
        simpa using this
      rw [List.getElem?_set_self hlt] at q
      cases q
      have e1 : (if k = k then a else ad k) = a := if_pos rfl
      show _ ∧ H0 (if k = k then a else ad k) = none ∧ OwnAt K B H (if k = k then a else ad k) d
      rw [e1]
      refine ⟨?_, I.st.hh.free n, o⟩
      show _ = some (some (V.ref (if k = k then a else ad k)))
      rw [e1]
      exact List.getElem?_set_self (by rw [← I.len]; exact hlt)
    · obtain ⟨x, y, z⟩ := h1 k e hk1 (old hk2 q)
      have e1 : (if k = i then a else ad k) = ad k := if_neg hk2
      show _ ∧ H0 (if k = i then a else ad k) = none ∧ OwnAt K B H (if k = i then a else ad k) e
      rw [e1]
      refine ⟨?_, y, z.step s⟩
      show _ = some (some (V.ref (if k = i then a else ad k)))
      rw [e1, List.getElem?_set_ne (Ne.symm hk2)]
      exact x
  · have z : (if k = i then a else ad k) = (if l = i then a else ad l) := z
    rcases (mem k).mp hk with hki | ⟨hk1, hk2⟩
    · rcases (mem l).mp hl with hli | ⟨hl1, hl2⟩
      · rw [hki, hli]
      · rw [if_pos hki, if_neg hl2] at z
        exact absurd z.symm (neA l f hl1 (old hl2 ql))
    · rcases (mem l).mp hl with hli | ⟨hl1, hl2⟩
      · rw [if_neg hk2, if_pos hli] at z
        exact absurd z (neA k e hk1 (old hk2 qk))
      · rw [if_neg hk2, if_neg hl2] at z
        exact h2 k l e f hk1 hl1 (old hk2 qk) (old hl2 ql) z
/-- another ground -/
theorem TInv.ground (I : TInv T K B0 H0 own ρ σ B H) : TInv T K B H0 own ρ σ B H :=
  ⟨I.len, ⟨Same.refl _, I.st.sub, I.st.hh, fun _ h _ => h⟩, fun p hp => ⟨((I.tb.step I.st) p hp).1, (I.tb p hp).2⟩, I.sh, I.ow⟩
theorem TInv.tabs (I : TInv T K B0 H0 own ρ σ B H) : TabsB T B H := I.tb.step I.st
theorem Step.over {B0 H0 B1 H1 B H : Hp} (a : Step T B0 H0 B1 H1) (b : Step T B1 H0 B H) : Step T B0 H0 B H :=
  ⟨a.bb.trans b.bb, b.sub, b.hh, fun x h n => b.no x (a.no x h n) n⟩
theorem TInv.under {B1 H1 : Hp} (I : TInv T K B1 H0 own ρ σ B H) (a : Step T B0 H0 B1 H1) : TInv T K B0 H0 own ρ σ B H := ⟨I.len, a.over I.st, fun p hp => ⟨a.bb.free (I.tb p hp).1, (I.tb p hp).2⟩, I.sh, I.ow⟩
/-- slots are forgotten -/
theorem TInv.forget {ρ' : Rho} {σ' : St} (I : TInv T K B0 H0 own ρ σ B H) (hl : ρ'.length = σ'.length) (h : ∀ (i : Nat) (d : D), ρ'[i]? = some (some d) → ρ[i]? = some (some d) ∧ σ'[i]? = σ[i]?) : TInv T K B0 H0 own ρ' σ' B H := by
  obtain ⟨ad, h1, h2⟩ := I.ow
  refine ⟨hl, I.st, I.tb, fun i d hi e => ?_, ad, fun i d hi e => ?_, fun i j d e hi hj q1 q2 => h2 i j d e hi hj (h i d q1).1 (h j e q2).1⟩
  · obtain ⟨a, b⟩ := h i d e
    rw [b]; exact I.sh i d hi a
  · obtain ⟨a, b⟩ := h i d e
    rw [b]; exact h1 i d hi a
/-- one's own object at slot i has changed -/
theorem TInv.change {i : Nat} {a : Addr} {d d' : D} {o : HO} (I : TInv T K B0 H0 own ρ σ B H) (hi : i ∈ own) (hd : ρ[i]? = some (some d)) (ha : σ[i]? = some (some (.ref a))) (new : OwnAt K B (upd H a o) a d') :
    TInv T K B0 H0 own (ρ.set i (some d')) σ B (upd H a o) := by
  obtain ⟨ad, h1, h2⟩ := I.ow
  obtain ⟨sa, na, oa⟩ := h1 i d hi hd
  rw [ha] at sa
  have ea : a = ad i := by injection sa with sa; injection sa with sa; injection sa
  subst ea
  have hlt : i < ρ.length := (List.getElem?_eq_some_iff.mp hd).1
  have hb := oa.1
  have ho : ∃ u, H (ad i) = some u := by
    obtain ⟨_, q⟩ := oa
    cases d with
    | lst ds => obtain ⟨vs, e, _⟩ := q; exact ⟨_, e⟩
    | dic ds => obtain ⟨vs, e, _⟩ := q; exact ⟨_, e⟩
    | _ => exact q.elim
  have keep : ∀ b u, b ≠ ad i → H b = some u → upd H (ad i) o b = some u := fun b u hb e => by rw [upd_ne hb]; exact e
  refine ⟨by simpa using I.len, ⟨I.st.bb, fun b u e => keep b u (fun z => by rw [z, hb] at e; cases e) (I.st.sub b u e), ⟨fun b u e nt => keep b u (fun z => by rw [z, na] at e; cases e) (I.st.hh.ext b u e nt), fun b n => by
      by_cases z : b = ad i
      · rw [z, upd_same]; exact fun z => nomatch z
      · rw [upd_ne z]; exact I.st.hh.pres b n, fun p hp t => by
      obtain ⟨_, qq⟩ := oa
      cases d with
      | lst ds => obtain ⟨vs, e, _⟩ := qq; exact tabS_upd (I.st.hh.tab p hp t) e (.inl ⟨_, rfl⟩)
      | dic ds => obtain ⟨vs, e, _⟩ := qq; exact tabS_upd (I.st.hh.tab p hp t) e (.inr ⟨_, rfl⟩)
      | _ => exact qq.elim⟩, I.st.no⟩, I.tb, fun k e hk q => ?_, ad, fun k e hk q => ?_, fun k l e f hk hl qk ql => ?_⟩
  · have hki : k ≠ i := fun z => hk (z ▸ hi)
    rw [List.getElem?_set_ne (Ne.symm hki)] at q
    exact I.sh k e hk q
  · by_cases hki : k = i
    · subst hki
      rw [List.getElem?_set_self hlt] at q
      cases q
      exact ⟨ha, na, new⟩
    · rw [List.getElem?_set_ne (Ne.symm hki)] at q
      obtain ⟨x, y, z⟩ := h1 k e hk q
      have ne : ad k ≠ ad i := fun z => hki (h2 k i e d hk hi q hd z)
      refine ⟨x, y, z.1, ?_⟩
      obtain ⟨_, z⟩ := z
      cases e with
      | lst ds => obtain ⟨vs, e1, r⟩ := z; exact ⟨vs, keep _ _ ne e1, r⟩
      | dic ds => obtain ⟨vs, e1, r⟩ := z; exact ⟨vs, keep _ _ ne e1, r⟩
      | _ => exact z.elim
  · have old : ∀ {k e}, (ρ.set i (some d'))[k]? = some (some e) → ∃ e', ρ[k]? = some (some e') := fun {k e} q => by
      by_cases hki : k = i
      · subst hki; exact ⟨_, hd⟩
      · rw [List.getElem?_set_ne (Ne.symm hki)] at q; exact ⟨_, q⟩
    obtain ⟨e', qk'⟩ := old qk
    obtain ⟨f', ql'⟩ := old ql
    exact h2 k l e' f' hk hl qk' ql'
end
end T2
end
section
set_option maxRecDepth 100000
set_option maxHeartbeats 1000000
namespace T2
open PySem PySem.Spec L2

/-! ### the signature of a def's body (or a block of it) -/
/-- the exception that a suite holds -/
structure Sus where
  a : Addr
  dx : Option Addr
  c : Str
structure Sg where
  P : Program
  w : World
  K : PySem.W.Frag
  T : Tb
  mg : Str → Option Value
  base : Heap
  N : List Str
  sc : Scope
  lv : Nat
  W : WX
  calm : Bool
  top : Bool
  mine : Str → Bool
  sus : Option Sus := none
  code : Value := .none
  ql : Str := ""
  hasC : Bool := false

structure Good (S : Sg) (X : Cx) : Prop where
  hP : X.prog = S.P
  hw : X.w = S.w
  hK : X.K = S.K
  hm : X.mg = S.mg
  hb : X.base = S.base
  hN : X.N = S.N
  kd : X.env.scope = S.sc
  hc : X.calm = S.calm
  rm : S.calm = true → Room S.lv X.A
  un : X.A.units + 200 < cLine
  su : ∀ q, S.sus = some q → ∃ (X0 : Cx) (oe : Obj) (pn : List (Addr × Obj)), X = X0.suite q.a ((q.a, oe) :: pn) ∧ Zc (.ref (He.ga S.K q.c)) q.dx oe ∧ ∃ vs, oe.data = .fields vs
  tk : Takes X S.W
  nd : S.N.Nodup
  fn : ∀ x, S.mine x = true → X.fn x = true
  po : PassesOwn (model X.prog X.w) X.A X.env X.xe
  cq : S.hasC = true → X.env.code = S.code ∧ X.env.qual = S.ql
  tp : S.top = true → X.stack = X.env :: X.outer ∧ X.env.frame = some X.env.locals

def kdOf (sc : Scope) (x : Str) : Option NameKind := sc.names.lookup x
def visB (sc : Scope) (x : Str) : Bool := match kdOf sc x with
  | some .local => true
  | some .cell => true
  | some .free => true
  | _ => false
theorem vis_of {sc : Scope} {x : Str} (h : visB sc x = true) : Vis sc x := by
  unfold visB kdOf at h
  unfold Vis
  cases e : sc.names.lookup x with
  | none => rw [e] at h; cases h
  | some k =>
    rw [e] at h
    cases k with
    | «local» => exact .inl rfl
    | cell => exact .inr (.inl rfl)
    | free => exact .inr (.inr rfl)
    | _ => cases h
section
variable {S : Sg} {X : Cx}
theorem Good.vis (g : Good S X) {x : Str} (h : visB S.sc x = true) : Vis X.env.scope x := by rw [g.kd]; exact vis_of h
theorem Good.gl (g : Good S X) {x : Str} (h : kdOf S.sc x = some .globalImplicit) : Gl X x := by
  show X.env.scope.names.lookup x = _
  rw [g.kd]; exact h
theorem Good.mgx (g : Good S X) {x : Str} {r} (h : S.mg x = r) : X.mg x = r := by rw [g.hm]; exact h
theorem Good.nx (g : Good S X) {i : Nat} {x : Str} (h : S.N[i]? = some x) : X.N[i]? = some x := by rw [g.hN]; exact h
theorem Good.room (g : Good S X) (h : S.calm = true) : Room S.lv X.A := g.rm h
theorem Good.calm (g : Good S X) (h : S.calm = true) : X.calm = true := g.hc.trans h
theorem Good.units (g : Good S X) : X.A.units + 64 < cLine := by have := g.un; omega
end

/-! ### expressions -/
abbrev FE := Rho → R D
abbrev FT := Rho → R Bool
abbrev FA := Rho → R (List D)
def PE_ (S : Sg) (m : Md) (σ : St) (B H : Hp) (r : R D) (Q : VK) : Prop := Post S.T S.K S.W (Res m S.K) σ B H r Q
inductive LkAll (K : PySem.W.Frag) (B H : Hp) : List V → List D → Prop
  | nil : LkAll K B H [] []
  | cons {v vs d ds} : Lk K B H v d → LkAll K B H vs ds → LkAll K B H (v :: vs) (d :: ds)
theorem LkAll.step {K : PySem.W.Frag} {B H B' H' : Hp} (s : Step T B H B' H') : ∀ {vs ds}, LkAll K B H vs ds → LkAll K B' H' vs ds
  | _, _, .nil => .nil
  | _, _, .cons h r => .cons (h.step s) (LkAll.step s r)
def ResA (m : Md) (K : PySem.W.Frag) : ERel (List D) (List V) := fun B' _ H' vs ds => match m with
  | .sh => RepAll K B' vs ds
  | .lk => LkAll K B' H' vs ds
  | .fr => False
theorem anti_resA {m : Md} {K : PySem.W.Frag} : Anti T (ResA m K) := fun _ _ _ _ _ _ _ h => h
def relB : ERel Bool Bool := fun _ _ _ b d => b = d
theorem anti_relB : Anti T relB := fun _ _ _ _ _ _ _ h => h
def relO : ERel (Option Int) (Option Int) := fun _ _ _ b d => b = d
theorem anti_relO : Anti T relO := fun _ _ _ _ _ _ _ h => h

def VE (S : Sg) (own : List Nat) (m : Md) (e : Expr) (f : FE) : Prop :=
  ∃ t : TE, (∀ X, Good S X → PE X e t) ∧ ∀ B0 H0 ρ σ B H Q, TInv S.T S.K B0 H0 own ρ σ B H → Post S.T S.K S.W (Res m S.K) σ B H (f ρ) Q → t σ H Q
def VT (S : Sg) (own : List Nat) (e : Expr) (f : FT) : Prop :=
  ∃ t : TT, (∀ X, Good S X → PT X e t) ∧ ∀ B0 H0 ρ σ B H Q, TInv S.T S.K B0 H0 own ρ σ B H → Post S.T S.K S.W relB σ B H (f ρ) Q → t σ H Q
def VW (S : Sg) (own : List Nat) (e : Expr) (f : FT) : Prop :=
  ∃ t : TT, (∀ X, Good S X → PW X e t) ∧ ∀ B0 H0 ρ σ B H Q, TInv S.T S.K B0 H0 own ρ σ B H → Post S.T S.K S.W relB σ B H (f ρ) Q → t σ H Q
def VA (S : Sg) (own : List Nat) (m : Md) (es : List Expr) (f : FA) : Prop :=
  ∃ t : TA, (∀ X, Good S X → PA X es t) ∧ ∀ B0 H0 ρ σ B H Q, TInv S.T S.K B0 H0 own ρ σ B H → Post S.T S.K S.W (ResA m S.K) σ B H (f ρ) Q → t σ H Q
def VO (S : Sg) (own : List Nat) (e : Option Expr) (f : Rho → R (Option Int)) : Prop :=
  ∃ t : TO, (∀ X, Good S X → PO X e t) ∧ ∀ B0 H0 ρ σ B H Q, TInv S.T S.K B0 H0 own ρ σ B H → Post S.T S.K S.W relO σ B H (f ρ) Q → t σ H Q

section
variable {S : Sg} {own : List Nat} {m : Md} {e a b c : Expr} {es : List Expr} {f fa fb fc : FE} {pos p : Pos}

theorem VE.sh_of_fr (h : VE S own .fr e f) : VE S own .sh e f := by
  obtain ⟨t, h1, h2⟩ := h
  refine ⟨t, h1, fun B0 H0 ρ σ B H Q I p => h2 B0 H0 ρ σ B H Q I ?_⟩
  cases q : f ρ with
  | ok d =>
    rw [q] at p
    rintro v B' H' s ⟨a, rfl, n, o⟩
    obtain ⟨B2, s2, r⟩ := o.give s n
    exact p _ B2 H' s2 r
  | exc c fs => rw [q] at p; exact p
  | bad => rw [q] at p; exact p
theorem VE.lk_of_sh (h : VE S own .sh e f) : VE S own .lk e f := by
  obtain ⟨t, h1, h2⟩ := h
  refine ⟨t, h1, fun B0 H0 ρ σ B H Q I p => h2 B0 H0 ρ σ B H Q I ?_⟩
  cases q : f ρ with
  | ok d => rw [q] at p; exact fun v B' H' s r => p v B' H' s (Rep.lk s.sub r)
  | exc c fs => rw [q] at p; exact p
  | bad => rw [q] at p; exact p

def fVar (i : Nat) : FE := fun ρ => match ρ[i]? with
  | some (some d) => .ok d
  | _ => .bad
def fC (d : D) : FE := fun _ => .ok d
theorem ve_var {i : Nat} {x : Str} (hN : S.N[i]? = some x) (hv : visB S.sc x = true) (ho : i ∉ own) (hd : (x == ("__debug__" : Str)) = false) (hcd : (x == ("__classdict__" : Str)) = false) : VE S own .sh (.Name x pos) (fVar i) := by
  refine ⟨tVar i, fun X g => pe_var (g.nx hN) (g.vis hv) hd hcd, fun B0 H0 ρ σ B H Q I p => ?_⟩
  unfold fVar at p
  split at p
  · rename_i d e
    obtain ⟨v, h1, h2⟩ := I.sh i d ho e
    exact ⟨v, h1, p v B H (.refl I.sub) h2⟩
  · exact p.elim
theorem ve_look {i : Nat} {x : Str} (hN : S.N[i]? = some x) (hv : visB S.sc x = true) (hd : (x == ("__debug__" : Str)) = false) (hcd : (x == ("__classdict__" : Str)) = false) : VE S own .lk (.Name x pos) (fVar i) := by
  refine ⟨tVar i, fun X g => pe_var (g.nx hN) (g.vis hv) hd hcd, fun B0 H0 ρ σ B H Q I p => ?_⟩
  unfold fVar at p
  split at p
  · rename_i d e
    obtain ⟨v, h1, h2⟩ := I.lk e
    exact ⟨v, h1, p v B H (.refl I.sub) h2⟩
  · exact p.elim
theorem ve_int {i : Int} {j : Nat} : VE S own .sh (.Constant (.int i) j pos) (fC (.int i)) :=
  ⟨_, fun X _ => pe_int, fun _ _ _ _ _ _ _ I p => p _ _ _ (.refl I.sub) (.int i)⟩
theorem ve_bl {i : Bool} {j : Nat} : VE S own .sh (.Constant (.bool i) j pos) (fC (.bl i)) :=
  ⟨_, fun X _ => pe_bl, fun _ _ _ _ _ _ _ I p => p _ _ _ (.refl I.sub) (.bl i)⟩
theorem ve_non {j : Nat} : VE S own .sh (.Constant .none j pos) (fC .non) :=
  ⟨_, fun X _ => pe_non, fun _ _ _ _ _ _ _ I p => p _ _ _ (.refl I.sub) .non⟩
theorem ve_str {i : Str} {j : Nat} : VE S own .sh (.Constant (.str i) j pos) (fC (.str i)) :=
  ⟨_, fun X _ => pe_str, fun _ _ _ _ _ _ _ I p => p _ _ _ (.refl I.sub) (.str i)⟩
theorem ve_gint {x : Str} {i : Int} (hg : kdOf S.sc x = some .globalImplicit) (hm : ∃ t, S.mg x = some (.int i t)) (hd : (x == ("__debug__" : Str)) = false) : VE S own .sh (.Name x pos) (fC (.int i)) := by
  obtain ⟨t, hm⟩ := hm
  exact ⟨_, fun X g => pe_glob (v := .int i) (g.gl hg) (g.mgx hm) ⟨t, rfl⟩ hd, fun _ _ _ _ _ _ _ I p => p _ _ _ (.refl I.sub) (.int i)⟩
theorem ve_gstr {x : Str} {i : Str} (hg : kdOf S.sc x = some .globalImplicit) (hm : ∃ t, S.mg x = some (.str i t)) (hd : (x == ("__debug__" : Str)) = false) : VE S own .sh (.Name x pos) (fC (.str i)) := by
  obtain ⟨t, hm⟩ := hm
  exact ⟨_, fun X g => pe_glob (v := .str i) (g.gl hg) (g.mgx hm) ⟨t, rfl⟩ hd, fun _ _ _ _ _ _ _ I p => p _ _ _ (.refl I.sub) (.str i)⟩

/-! ### operators -/
def OpS (S : Sg) (fn : Value → Value → Sem Value) (m : Md) (g : D → D → R D) : Prop :=
  ∃ r : R2, (∀ X, Good S X → OpR X fn r) ∧ ∀ x y dx dy σ B H Q, Same B H → Lk S.K B H x dx → Lk S.K B H y dy → Post S.T S.K S.W (Res m S.K) σ B H (g dx dy) Q → r x y H Q
def f2 (g : D → D → R D) (fa fb : FE) : FE := fun ρ => (fa ρ).bind fun x => (fb ρ).bind fun y => g x y
theorem two {ta tb : TE} {r : R2} {g : D → D → R D} (ha : ∀ B0 H0 ρ σ B H Q, TInv S.T S.K B0 H0 own ρ σ B H → Post S.T S.K S.W (Res .lk S.K) σ B H (fa ρ) Q → ta σ H Q)
    (hb : ∀ B0 H0 ρ σ B H Q, TInv S.T S.K B0 H0 own ρ σ B H → Post S.T S.K S.W (Res .lk S.K) σ B H (fb ρ) Q → tb σ H Q)
    (ho : ∀ x y dx dy σ B H Q, Same B H → Lk S.K B H x dx → Lk S.K B H y dy → Post S.T S.K S.W (Res m S.K) σ B H (g dx dy) Q → r x y H Q) {B0 H0 ρ σ B H Q}
    (I : TInv S.T S.K B0 H0 own ρ σ B H) (p : Post S.T S.K S.W (Res m S.K) σ B H (f2 g fa fb ρ) Q) : tOp r ta tb σ H Q := by
  refine ha B0 H0 ρ σ B H _ I (Post.seq anti_res p fun d v B1 H1 e1 s1 r1 p1 => ?_)
  refine hb B0 H0 ρ σ B1 H1 _ (I.step s1) (Post.seq anti_res p1 fun d2 v2 B2 H2 e2 s2 r2 p2 => ?_)
  exact ho v v2 d d2 σ B2 H2 Q s2.sub (Lk.step r1 s2) r2 p2
theorem ve_op {op : Operator} {g : D → D → R D} (ho : OpS S (binaryOp op) m g) (ha : VE S own .lk a fa) (hb : VE S own .lk b fb) : VE S own m (.BinOp a op b pos) (f2 g fa fb) := by
  obtain ⟨r, o1, o2⟩ := ho
  obtain ⟨ta, a1, a2⟩ := ha
  obtain ⟨tb, b1, b2⟩ := hb
  exact ⟨_, fun X g => pe_op (o1 X g) (a1 X g) (b1 X g), fun B0 H0 ρ σ B H Q I p => two a2 b2 o2 I p⟩
theorem ve_cmp {op : CmpOp} {g : D → D → R D} (ho : OpS S (compareOp op) m g) (ha : VE S own .lk a fa) (hb : VE S own .lk b fb) (hm : behindInMarks op b = false := by rfl) : VE S own m (.Compare a [op] [b] pos) (f2 g fa fb) := by
  obtain ⟨r, o1, o2⟩ := ho
  obtain ⟨ta, a1, a2⟩ := ha
  obtain ⟨tb, b1, b2⟩ := hb
  exact ⟨_, fun X g => pe_cmpR (o1 X g) (a1 X g) (b1 X g) hm, fun B0 H0 ρ σ B H Q I p => two a2 b2 o2 I p⟩
def asB : D → R Bool
  | .bl b => .ok b
  | _ => .bad
def fTst (f : FE) : FT := fun ρ => (f ρ).bind asB
theorem tst {t : TE} {B0 H0 ρ σ B H Q} (h : ∀ B0 H0 ρ σ B H Q, TInv S.T S.K B0 H0 own ρ σ B H → Post S.T S.K S.W (Res .sh S.K) σ B H (f ρ) Q → t σ H Q) (I : TInv S.T S.K B0 H0 own ρ σ B H)
    (p : Post S.T S.K S.W relB σ B H (fTst f ρ) Q) : t σ H fun x H' => ∃ k, x = .bl k ∧ Q k H' := by
  refine h B0 H0 ρ σ B H _ I (Post.seq anti_relB p fun d v B1 H1 e1 s1 r1 p1 => ?_)
  cases d with
  | bl k =>
    cases (show Rep S.K B1 v (.bl k) from r1)
    exact ⟨k, rfl, p1 k B1 H1 (.refl s1.sub) rfl⟩
  | _ => exact p1.elim
theorem vt_cmp {op : CmpOp} {g : D → D → R D} (ho : OpS S (compareOp op) .sh g) (ha : VE S own .lk a fa) (hb : VE S own .lk b fb) (hm : behindInMarks op b = false := by rfl) : VT S own (.Compare a [op] [b] pos) (fTst (f2 g fa fb)) := by
  obtain ⟨r, o1, o2⟩ := ho
  obtain ⟨ta, a1, a2⟩ := ha
  obtain ⟨tb, b1, b2⟩ := hb
  refine ⟨_, fun X g => pt_cmpR (o1 X g) (a1 X g) (b1 X g) hm, fun B0 H0 ρ σ B H Q I p => ?_⟩
  exact tst (fun B0 H0 ρ σ B H Q I p => two a2 b2 o2 I p) I p
theorem vt_val (h : VE S own .sh e f) (he : ∀ (X : Cx) (whole : Sem Value), isTrue e X.env whole = (do let v ← whole; standAt e.pos; holding [v] (truthy v)) := by intro _ _; rfl) : VT S own e (fTst f) := by
  obtain ⟨t, h1, h2⟩ := h
  exact ⟨_, fun X g => pt_val (h1 X g) (he X), fun B0 H0 ρ σ B H Q I p => tst h2 I p⟩
def fNotT (f : FT) : FT := fun ρ => (f ρ).bind fun b => .ok (!b)
def fAndT (f g : FT) : FT := fun ρ => (f ρ).bind fun b => if b then g ρ else .ok false
def fOrT (f g : FT) : FT := fun ρ => (f ρ).bind fun b => if b then .ok true else g ρ
variable {ft gt : FT} {rest : List Expr}
theorem vt_not (h : VT S own a ft) : VT S own (.UnaryOp .Not a pos) (fNotT ft) := by
  obtain ⟨t, h1, h2⟩ := h
  refine ⟨_, fun X g => pt_not (h1 X g), fun B0 H0 ρ σ B H Q I p => ?_⟩
  refine h2 B0 H0 ρ σ B H _ I (Post.seq anti_relB p fun d v B1 H1 e1 s1 r1 p1 => ?_)
  obtain rfl : v = d := r1
  exact p1 _ B1 H1 (.refl s1.sub) rfl
theorem vt_of (h : VW S own e ft) : VT S own e ft := by
  obtain ⟨t, h1, h2⟩ := h
  exact ⟨t, fun X g => (h1 X g).pt, h2⟩
theorem vw_and1 (h : VT S own a ft) : VW S own (.BoolOp .And [a] pos) ft := by
  obtain ⟨t, h1, h2⟩ := h
  exact ⟨t, fun X g => pw_and1 (h1 X g), h2⟩
theorem vw_or1 (h : VT S own a ft) : VW S own (.BoolOp .Or [a] pos) ft := by
  obtain ⟨t, h1, h2⟩ := h
  exact ⟨t, fun X g => pw_or1 (h1 X g), h2⟩
theorem vw_and (ha : VT S own a ft) (hb : VW S own (.BoolOp .And (b :: rest) pos) gt) : VW S own (.BoolOp .And (a :: b :: rest) pos) (fAndT ft gt) := by
  obtain ⟨t, a1, a2⟩ := ha
  obtain ⟨u, b1, b2⟩ := hb
  refine ⟨_, fun X g => pw_and (a1 X g) (b1 X g), fun B0 H0 ρ σ B H Q I p => ?_⟩
  refine a2 B0 H0 ρ σ B H _ I (Post.seq anti_relB p fun d v B1 H1 e1 s1 r1 p1 => ?_)
  obtain rfl : v = d := r1
  cases v with
  | true => exact iteT (b2 B0 H0 ρ σ B1 H1 _ (I.step s1) p1)
  | false => exact iteF (p1 _ B1 H1 (.refl s1.sub) rfl)
theorem vw_or (ha : VT S own a ft) (hb : VW S own (.BoolOp .Or (b :: rest) pos) gt) : VW S own (.BoolOp .Or (a :: b :: rest) pos) (fOrT ft gt) := by
  obtain ⟨t, a1, a2⟩ := ha
  obtain ⟨u, b1, b2⟩ := hb
  refine ⟨_, fun X g => pw_or (a1 X g) (b1 X g), fun B0 H0 ρ σ B H Q I p => ?_⟩
  refine a2 B0 H0 ρ σ B H _ I (Post.seq anti_relB p fun d v B1 H1 e1 s1 r1 p1 => ?_)
  obtain rfl : v = d := r1
  cases v with
  | true => exact iteT (p1 _ B1 H1 (.refl s1.sub) rfl)
  | false => exact iteF (b2 B0 H0 ρ σ B1 H1 _ (I.step s1) p1)
/-! values: and, or, not of bools; a if t else b -/
def fNot (f : FE) : FE := fun ρ => (f ρ).bind fun d => match d with
  | .bl b => .ok (.bl (!b))
  | _ => .bad
def fAnd (f g : FE) : FE := fun ρ => (f ρ).bind fun d => match d with
  | .bl b => if b then g ρ else .ok (.bl false)
  | _ => .bad
def fOr (f g : FE) : FE := fun ρ => (f ρ).bind fun d => match d with
  | .bl b => if b then .ok (.bl true) else g ρ
  | _ => .bad
def fIte (t : FT) (f g : FE) : FE := fun ρ => (t ρ).bind fun b => if b then f ρ else g ρ
theorem ve_not (h : VE S own .sh a fa) : VE S own .sh (.UnaryOp .Not a pos) (fNot fa) := by
  obtain ⟨t, h1, h2⟩ := h
  refine ⟨_, fun X g => pe_not (h1 X g), fun B0 H0 ρ σ B H Q I p => ?_⟩
  refine h2 B0 H0 ρ σ B H _ I (Post.seq anti_res p fun d v B1 H1 e1 s1 r1 p1 => ?_)
  cases d with
  | bl k =>
    cases (show Rep S.K B1 v (.bl k) from r1)
    exact ⟨k, rfl, p1 _ B1 H1 (.refl s1.sub) (.bl _)⟩
  | _ => exact p1.elim
theorem ve_one {op : BoolOp} (h : VE S own m a fa) : VE S own m (.BoolOp op [a] pos) fa := by
  obtain ⟨t, h1, h2⟩ := h
  exact ⟨t, fun X g => pe_one (h1 X g), h2⟩
theorem ve_and (ha : VE S own .sh a fa) (hb : VE S own .sh (.BoolOp .And (b :: rest) pos) fb) : VE S own .sh (.BoolOp .And (a :: b :: rest) pos) (fAnd fa fb) := by
  obtain ⟨t, a1, a2⟩ := ha
  obtain ⟨u, b1, b2⟩ := hb
  refine ⟨_, fun X g => pe_and (a1 X g) (b1 X g), fun B0 H0 ρ σ B H Q I p => ?_⟩
  refine a2 B0 H0 ρ σ B H _ I (Post.seq anti_res p fun d v B1 H1 e1 s1 r1 p1 => ?_)
  cases d with
  | bl k =>
    cases (show Rep S.K B1 v (.bl k) from r1)
    refine ⟨k, rfl, ?_⟩
    cases k with
    | true => exact iteT (b2 B0 H0 ρ σ B1 H1 _ (I.step s1) p1)
    | false => exact iteF (p1 _ B1 H1 (.refl s1.sub) (.bl _))
  | _ => exact p1.elim
theorem ve_or (ha : VE S own .sh a fa) (hb : VE S own .sh (.BoolOp .Or (b :: rest) pos) fb) : VE S own .sh (.BoolOp .Or (a :: b :: rest) pos) (fOr fa fb) := by
  obtain ⟨t, a1, a2⟩ := ha
  obtain ⟨u, b1, b2⟩ := hb
  refine ⟨_, fun X g => pe_or (a1 X g) (b1 X g), fun B0 H0 ρ σ B H Q I p => ?_⟩
  refine a2 B0 H0 ρ σ B H _ I (Post.seq anti_res p fun d v B1 H1 e1 s1 r1 p1 => ?_)
  cases d with
  | bl k =>
    cases (show Rep S.K B1 v (.bl k) from r1)
    refine ⟨k, rfl, ?_⟩
    cases k with
    | true => exact iteT (p1 _ B1 H1 (.refl s1.sub) (.bl _))
    | false => exact iteF (b2 B0 H0 ρ σ B1 H1 _ (I.step s1) p1)
  | _ => exact p1.elim
theorem ve_ite (hc : VT S own c ft) (ha : VE S own m a fa) (hb : VE S own m b fb) : VE S own m (.IfExp c a b pos) (fIte ft fa fb) := by
  obtain ⟨t, c1, c2⟩ := hc
  obtain ⟨ta, a1, a2⟩ := ha
  obtain ⟨tb, b1, b2⟩ := hb
  refine ⟨_, fun X g => pe_ifExp (c1 X g) (a1 X g) (b1 X g), fun B0 H0 ρ σ B H Q I p => ?_⟩
  refine c2 B0 H0 ρ σ B H _ I (Post.seq anti_res p fun d v B1 H1 e1 s1 r1 p1 => ?_)
  obtain rfl : v = d := r1
  cases v with
  | true => exact iteT (a2 B0 H0 ρ σ B1 H1 _ (I.step s1) p1)
  | false => exact iteF (b2 B0 H0 ρ σ B1 H1 _ (I.step s1) p1)
/-! a < b < c -/
def fChain (g g' : D → D → R D) (fa fb fc : FE) : FE := fun ρ => (fa ρ).bind fun x => (fb ρ).bind fun y => (g x y).bind fun z => match z with
  | .bl k => if k then (fc ρ).bind fun w => g' y w else .ok (.bl false)
  | _ => .bad

/-! ### arguments -/
def fNil : FA := fun _ => .ok []
def fCons (f : FE) (g : FA) : FA := fun ρ => (f ρ).bind fun d => (g ρ).bind fun ds => .ok (d :: ds)
variable {fs : FA}
theorem va_nil : VA S own m [] fNil ∨ m = .fr := by
  cases m with
  | fr => exact .inr rfl
  | sh => exact .inl ⟨_, fun X _ => pa_nil, fun _ _ _ _ _ _ _ I p => p _ _ _ (.refl I.sub) .nil⟩
  | lk => exact .inl ⟨_, fun X _ => pa_nil, fun _ _ _ _ _ _ _ I p => p _ _ _ (.refl I.sub) .nil⟩
theorem vs_nil : VA S own .sh [] fNil := ⟨_, fun X _ => pa_nil, fun _ _ _ _ _ _ _ I p => p _ _ _ (.refl I.sub) .nil⟩
theorem vl_nil : VA S own .lk [] fNil := ⟨_, fun X _ => pa_nil, fun _ _ _ _ _ _ _ I p => p _ _ _ (.refl I.sub) .nil⟩
theorem vs_cons (ha : VE S own .sh a fa) (hr : VA S own .sh es fs) (hs : ∀ X : Cx, starEach (a :: es) X.env = (false, eval a X.env) :: starEach es X.env := by intro _; rfl) : VA S own .sh (a :: es) (fCons fa fs) := by
  obtain ⟨t, a1, a2⟩ := ha
  obtain ⟨u, b1, b2⟩ := hr
  refine ⟨_, fun X g => pa_cons (a1 X g) (b1 X g) (hs X), fun B0 H0 ρ σ B H Q I p => ?_⟩
  refine a2 B0 H0 ρ σ B H _ I (Post.seq anti_resA p fun d v B1 H1 e1 s1 r1 p1 => ?_)
  refine b2 B0 H0 ρ σ B1 H1 _ (I.step s1) (Post.seq anti_resA p1 fun ds vs B2 H2 e2 s2 r2 p2 => ?_)
  exact p2 _ B2 H2 (.refl s2.sub) (.cons (Rep.mono s2.bb r1) r2)
theorem vl_cons (ha : VE S own .lk a fa) (hr : VA S own .lk es fs) (hs : ∀ X : Cx, starEach (a :: es) X.env = (false, eval a X.env) :: starEach es X.env := by intro _; rfl) : VA S own .lk (a :: es) (fCons fa fs) := by
  obtain ⟨t, a1, a2⟩ := ha
  obtain ⟨u, b1, b2⟩ := hr
  refine ⟨_, fun X g => pa_cons (a1 X g) (b1 X g) (hs X), fun B0 H0 ρ σ B H Q I p => ?_⟩
  refine a2 B0 H0 ρ σ B H _ I (Post.seq anti_resA p fun d v B1 H1 e1 s1 r1 p1 => ?_)
  refine b2 B0 H0 ρ σ B1 H1 _ (I.step s1) (Post.seq anti_resA p1 fun ds vs B2 H2 e2 s2 r2 p2 => ?_)
  exact p2 _ B2 H2 (.refl s2.sub) (.cons (Lk.step r1 s2) r2)

/-! ### calls -/
def CallS (S : Sg) (fv : Value) (m : Md) (g : List D → R D) : Prop :=
  ∃ r : List V → Hp → VK → Prop, (∀ X, Good S X → CallR X fv r) ∧ ∀ vs ds σ B H Q, Same B H → LkAll S.K B H vs ds → Post S.T S.K S.W (Res m S.K) σ B H (g ds) Q → r vs H Q
def fCall (g : List D → R D) (f : FA) : FE := fun ρ => (f ρ).bind g
theorem calling {t : TA} {r : List V → Hp → VK → Prop} {g : List D → R D} (h : ∀ B0 H0 ρ σ B H Q, TInv S.T S.K B0 H0 own ρ σ B H → Post S.T S.K S.W (ResA .lk S.K) σ B H (fs ρ) Q → t σ H Q)
    (ho : ∀ vs ds σ B H Q, Same B H → LkAll S.K B H vs ds → Post S.T S.K S.W (Res m S.K) σ B H (g ds) Q → r vs H Q) {B0 H0 ρ σ B H Q}
    (I : TInv S.T S.K B0 H0 own ρ σ B H) (p : Post S.T S.K S.W (Res m S.K) σ B H (fCall g fs ρ) Q) : tCB r t σ H Q :=
  h B0 H0 ρ σ B H _ I (Post.seq anti_res p fun ds vs B1 H1 e1 s1 r1 p1 => ho vs ds σ B1 H1 Q s1.sub r1 p1)
theorem ve_callB {x : Str} {id : String} {g : List D → R D} (hc : CallS S (.builtin id) m g) (hg : kdOf S.sc x = some .globalImplicit) (hm : S.mg x = none) (hv : bootBuiltins x = some (.builtin id)) (ha : VA S own .lk (a :: es) fs)
    (hn : x ≠ "__name__") (hdb : (x == ("__debug__" : Str)) = false) (he : ∀ X : Cx, starEach (a :: es) X.env = (false, eval a X.env) :: starEach es X.env := by intro _; rfl) (hpl : ∀ X : Cx, (backTo pos (starEach es X.env)).any (·.1) = false := by intro _; rfl) :
    VE S own m (.Call (.Name x p) (a :: es) [] pos) (fCall g fs) := by
  obtain ⟨r, c1, c2⟩ := hc
  obtain ⟨t, a1, a2⟩ := ha
  exact ⟨_, fun X g => pe_callB (c1 X g) (g.gl hg) (g.mgx hm) hv (a1 X g) hn hdb (he X) (hpl X), fun B0 H0 ρ σ B H Q I p => calling a2 c2 I p⟩
theorem ve_callTy {x : Str} {T : String} {g : List D → R D} (hc : CallS S (.type T) m g) (hg : kdOf S.sc x = some .globalImplicit) (hm : S.mg x = none) (hv : bootBuiltins x = some (.type T)) (ha : VA S own .lk (a :: es) fs)
    (hn : x ≠ "__name__") (hdb : (x == ("__debug__" : Str)) = false) (he : ∀ X : Cx, starEach (a :: es) X.env = (false, eval a X.env) :: starEach es X.env := by intro _; rfl) (hpl : ∀ X : Cx, (backTo pos (starEach es X.env)).any (·.1) = false := by intro _; rfl) :
    VE S own m (.Call (.Name x p) (a :: es) [] pos) (fCall g fs) := by
  obtain ⟨r, c1, c2⟩ := hc
  obtain ⟨t, a1, a2⟩ := ha
  exact ⟨_, fun X g => pe_callTy (c1 X g) (g.gl hg) (g.mgx hm) hv (a1 X g) hn hdb (he X) (hpl X), fun B0 H0 ρ σ B H Q I p => calling a2 c2 I p⟩
end

/-! ### the promise of a def -/
def spF (T : Tb) (K : PySem.W.Frag) (m : Md) (n : Nat) (g : List D → R D) : Sp := fun vs H Q E =>
  ∃ B ds, vs.length = n ∧ Same B H ∧ TabsB T B H ∧ RepAll K B vs ds ∧ Post T K (fun c d _ H' => E c d H') (Res m K) [] B H (g ds) Q
section
variable {S : Sg} {own : List Nat} {m : Md} {a : Expr} {es : List Expr} {fs : FA} {pos p : Pos}
theorem ve_call {x : Str} {f : Addr} {fd : FuncData} {ps : List Str} {k n : Nat} {g : List D → R D} (F : FnOk S.P S.w S.K S.mg S.base (L2.CX S.P S.w) k f fd ps (spF S.T S.K m n g)) (hlv : k ≤ S.lv) (hc : S.calm = true) (hg : kdOf S.sc x = some .globalImplicit) (hm : S.mg x = some (.ref f))
    (hk : PySem.W.keepIn S.K (.ref f) = true) (hb : Binds S.K fd ps []) (ha : VA S own .sh (a :: es) fs) (hn : ∀ ρ ds, fs ρ = .ok ds → ds.length = n) (hdb : (x == ("__debug__" : Str)) = false)
    (he : ∀ X : Cx, starEach (a :: es) X.env = (false, eval a X.env) :: starEach es X.env := by intro _; rfl) (hpl : ∀ X : Cx, (backTo pos (starEach es X.env)).any (·.1) = false := by intro _; rfl) :
    VE S own m (.Call (.Name x p) (a :: es) [] pos) (fCall g fs) := by
  obtain ⟨t, a1, a2⟩ := ha
  refine ⟨tCallS (spF S.T S.K m n g) (WE S.W) t, fun X gd => ?_, fun B0 H0 ρ σ B H Q I p => ?_⟩
  · have F' : FnOk X.prog X.w X.K X.mg X.base (L2.CX X.prog X.w) k f fd ps (spF S.T S.K m n g) := by
      rw [gd.hP, gd.hw, gd.hK, gd.hm, gd.hb]; exact F
    exact pe_callS F' ((gd.room hc).mono hlv) (gd.gl hg) (gd.mgx hm) (by rw [gd.hK]; exact hk) (by rw [gd.hK]; exact hb) (fun σ => passAt gd.tk σ) (a1 X gd) hdb (he X) (hpl X)
  · refine a2 B0 H0 ρ σ B H _ I (Post.seq anti_res p fun ds vs B1 H1 e1 s1 r1 p1 => ?_)
    refine ⟨B1, ds, by rw [RepAll.length r1, hn ρ ds e1], s1.sub, (I.step s1).tabs, r1, ?_⟩
    cases q : g ds with
    | ok d => rw [q] at p1; exact p1
    | exc c fs => rw [q] at p1; exact p1
    | bad => rw [q] at p1; exact p1
end
end T2
end
section
set_option maxRecDepth 100000
set_option maxHeartbeats 1000000
namespace T2
open PySem PySem.Spec L2

/-! ### data as the library's data -/
mutual
def D.py : D → PyData
  | .non => .none
  | .bl b => .bool b
  | .int i => .int i
  | .str s => .str s
  | .lst xs => .list (D.pys xs)
  | .tup xs => .tuple (D.pys xs)
  | .dic _ => .dict []
  | .obj _ _ => .dict []
  | .scr _ => .dict []
  | .exn _ _ _ _ => .dict []
def D.pys : List D → List PyData
  | [] => []
  | x :: xs => D.py x :: D.pys xs
end
section
variable {K : PySem.W.Frag} {B H : Hp}
mutual
theorem Rep.dp (s : Same B H) : ∀ {v : V} {d : D}, Rep K B v d → d.py.canLay0 = true → Dp K H v d.py
  | _, _, .non, _ => .non
  | _, _, .bl b, _ => .bl b
  | _, _, .int i, _ => .int i
  | _, _, .str x, _ => .str x
  | _, _, .lst h r, q => .lst (SqL.of (s _ _ h)) (RepAll.dp s r (by simpa [D.py, PyData.canLay0] using q))
  | _, _, .tup h r, q => .tup (seqT_mono s h) (RepAll.dp s r (by simpa [D.py, PyData.canLay0] using q))
  | _, _, .dic _ _, q => by simp [D.py, PyData.canLay0] at q
  | _, _, .obj _ _, q => by simp [D.py, PyData.canLay0] at q
  | _, _, .scr _, q => by simp [D.py, PyData.canLay0] at q
  | _, _, .exn0 _ _, q => by simp [D.py, PyData.canLay0] at q
  | _, _, .exn _ _, q => by simp [D.py, PyData.canLay0] at q
theorem RepAll.dp (s : Same B H) : ∀ {vs : List V} {ds : List D}, RepAll K B vs ds → PyData.canLayAll0 (D.pys ds) = true → DpAll K H vs (D.pys ds)
  | _, _, .nil, _ => .nil
  | _, _, .cons (d := d) (ds := ds) h r, q => by
    have q' : d.py.canLay0 = true ∧ PyData.canLayAll0 (D.pys ds) = true := by simpa [D.pys, PyData.canLayAll0] using q
    exact .cons (Rep.dp s h q'.1) (RepAll.dp s r q'.2)
end
theorem Lk.dp {v : V} {d : D} (s : Same B H) (h : Lk K B H v d) (q : d.py.canLay0 = true) : Dp K H v d.py := by
  cases d with
  | lst ds =>
    obtain ⟨a, vs, rfl, e, r⟩ := h
    exact .lst (SqL.of e) (RepAll.dp s r (by simpa [D.py, PyData.canLay0] using q))
  | dic ds => simp [D.py, PyData.canLay0] at q
  | _ => exact Rep.dp s h q
end
def D.ok (d : D) : Bool := SeqAt.shaped d.py
theorem D.ok_lay {d : D} (h : d.ok = true) : d.py.canLay0 = true := SeqAt.canLay_of_shaped h

/-! ### the operators on data -/
def addD : D → D → R D
  | .int i, .int j => .ok (.int (i + j))
  | .str x, .str y => if x.length + y.length ≤ sizeLine then .ok (.str (x ++ y)) else .bad
  | .tup xs, .tup ys => if xs.length + ys.length ≤ sizeLine then .ok (.tup (xs ++ ys)) else .bad
  | .lst xs, .lst ys => if xs.length + ys.length ≤ sizeLine then .ok (.lst (xs ++ ys)) else .bad
  | _, _ => .bad
def catD : D → D → R D
  | .lst xs, .lst ys => if xs.length + ys.length ≤ sizeLine then .ok (.lst (xs ++ ys)) else .bad
  | _, _ => .bad
def subD : D → D → R D
  | .int i, .int j => .ok (.int (i - j))
  | _, _ => .bad
instance (i j : Int) : Decidable (CMul i j) := by unfold CMul; infer_instance
instance (i j : Int) : Decidable (CPow i j) := by unfold CPow; infer_instance
instance (i j : Int) : Decidable (CDiv i j) := by unfold CDiv; infer_instance
def mulD : D → D → R D
  | .int i, .int j => if CMul i j then .ok (.int (i * j)) else .bad
  | .str x, .int j => if x.length ≤ 16 ∧ 0 ≤ j ∧ j ≤ 1048576 then .ok (.str (Txt.mul x j)) else .bad
  | .lst xs, .int k => if -(2 ^ 63) ≤ k ∧ k < 2 ^ 63 ∧ xs.length * k.toNat ≤ sizeLine then .ok (.lst (List.replicate k.toNat xs).flatten) else .bad
  | _, _ => .bad
def divD : D → D → R D
  | .int i, .int j => if CDiv i j then .ok (.int (i / j)) else .bad
  | _, _ => .bad
def modD : D → D → R D
  | .int i, .int j => if 0 < j then .ok (.int (i % j)) else .bad
  | _, _ => .bad
def powD : D → D → R D
  | .int i, .int j => if CPow i j then .ok (.int (i ^ j.toNat)) else .bad
  | _, _ => .bad
def shlD : D → D → R D
  | .int i, .int j => if CPow i j then .ok (.int (i * 2 ^ j.toNat)) else .bad
  | _, _ => .bad
def ltD : D → D → R D
  | .int i, .int j => .ok (.bl (decide (i < j)))
  | _, _ => .bad
def leD : D → D → R D
  | .int i, .int j => .ok (.bl (decide (i ≤ j)))
  | _, _ => .bad
def gtD : D → D → R D
  | .int i, .int j => .ok (.bl (decide (j < i)))
  | _, _ => .bad
def geD : D → D → R D
  | .int i, .int j => .ok (.bl (decide (j ≤ i)))
  | _, _ => .bad
def eqB : D → D → Option Bool
  | .int i, .int j => some (decide (i = j))
  | .str i, .str j => some (decide (i = j))
  | .bl i, .bl j => some (decide (i = j))
  | .non, .non => some true
  | .non, .int _ => some false
  | .int _, .non => some false
  | .non, .str _ => some false
  | .str _, .non => some false
  | x, y => if x.ok = true ∧ y.ok = true then some (PyData.eqv x.py y.py) else none
def eqD (x y : D) : R D := match eqB x y with
  | some b => .ok (.bl b)
  | none => .bad
def neD (x y : D) : R D := match eqB x y with
  | some b => .ok (.bl (!b))
  | none => .bad
/-- x in y: a sign in a text; anything in a list -/
def inB : D → D → Option Bool
  | .str x, .str y => match x.cps.toList with
    | [c] => some (decide (c ∈ y.cps.toList))
    | _ => none
  | x, .lst ys => if x.ok = true ∧ (D.lst ys).ok = true then some ((D.pys ys).any fun z => PyData.eqv z x.py) else none
  | .str x, .tup ys => if (ys.all fun y => match y with | .str _ => true | _ => false) = true then some (ys.any fun y => match y with | .str z => decide (z = x) | _ => false) else none
  | .int x, .tup ys => if (ys.all fun y => match y with | .int _ => true | _ => false) = true then some (ys.any fun y => match y with | .int z => decide (z = x) | _ => false) else none
  | _, _ => none
def inD (x y : D) : R D := match inB x y with
  | some b => .ok (.bl b)
  | none => .bad
def ninD (x y : D) : R D := match inB x y with
  | some b => .ok (.bl (!b))
  | none => .bad

section
variable {S : Sg}
theorem Post.okv {α β : Type} {K : PySem.W.Frag} {W : WX} {rel : ERel α β} {σ : St} {B H : Hp} {d : α} {Q : β → Hp → Prop} {v : β} (h : Post T K W rel σ B H (.ok d) Q) (s : Same B H) (r : rel B H H v d) : Q v H := h v B H (.refl s) r
theorem Lk.rep_tup {K : PySem.W.Frag} {B H : Hp} {v : V} {ds : List D} (h : Lk K B H v (.tup ds)) : ∃ a vs, v = .ref a ∧ SqT K B a vs ∧ RepAll K B vs ds := by
  cases (show Rep K B v (.tup ds) from h) with
  | tup h1 r => exact ⟨_, _, rfl, h1, r⟩
theorem Lk.int_of {K : PySem.W.Frag} {B H : Hp} {v : V} {i : Int} (h : Lk K B H v (.int i)) : v = .int i := by
  cases (show Rep K B v (.int i) from h); rfl
theorem Lk.str_of {K : PySem.W.Frag} {B H : Hp} {v : V} {i : Str} (h : Lk K B H v (.str i)) : v = .str i := by
  cases (show Rep K B v (.str i) from h); rfl
theorem Lk.bl_of {K : PySem.W.Frag} {B H : Hp} {v : V} {i : Bool} (h : Lk K B H v (.bl i)) : v = .bl i := by
  cases (show Rep K B v (.bl i) from h); rfl
theorem Lk.non_of {K : PySem.W.Frag} {B H : Hp} {v : V} (h : Lk K B H v .non) : v = .non := by
  cases (show Rep K B v .non from h); rfl

/-- ints alone -/
theorem opS_int {fn : Value → Value → Sem Value} {C : Int → Int → Prop} [∀ i j, Decidable (C i j)] {gv : Int → Int → V} {gd : Int → Int → D} {g : D → D → R D}
    (h : ∀ X : Cx, OpR X fn (rI C gv)) (hg : ∀ K B i j, Rep K B (gv i j) (gd i j)) (e : ∀ x y d, g x y = .ok d → ∃ i j, x = .int i ∧ y = .int j ∧ C i j ∧ d = gd i j) (ne : ∀ x y c fs, g x y ≠ .exc c fs) : OpS S fn .sh g := by
  refine ⟨_, fun X _ => h X, fun x y dx dy σ B H Q s hx hy p => ?_⟩
  cases q : g dx dy with
  | bad => rw [q] at p; exact p.elim
  | exc c fs => exact absurd q (ne _ _ _ _)
  | ok d =>
    obtain ⟨i, j, rfl, rfl, hC, rfl⟩ := e _ _ _ q
    rw [q] at p
    exact ⟨i, j, hx.int_of, hy.int_of, hC, p.okv s (hg _ _ _ _)⟩
theorem rI_true {fn : Value → Value → Sem Value} {gv : Int → Int → V} {X : Cx} (h : OpR X fn (rI0 gv)) : OpR X fn (rI (fun _ _ => True) gv) := by
  intro pins s σ H x y v u Q I rx ry ⟨i, j, h1, h2, _, q⟩
  exact h pins s σ H x y v u Q I rx ry ⟨i, j, h1, h2, q⟩
theorem os_sub : OpS S (binaryOp .Sub) .sh subD := by
  refine opS_int (C := fun _ _ => True) (gd := fun i j => .int (i - j)) (fun X => rI_true op_sub) (fun _ _ _ _ => .int _) (fun x y d q => ?_) (fun x y c fs q => ?_) <;> (cases x <;> cases y <;> simp only [subD, R.ok.injEq, reduceCtorEq] at q)
  exact ⟨_, _, rfl, rfl, trivial, q.symm⟩
theorem os_div : OpS S (binaryOp .FloorDiv) .sh divD := by
  refine opS_int (C := CDiv) (gd := fun i j => .int (i / j)) (fun X => op_fdiv) (fun _ _ _ _ => .int _) (fun x y d q => ?_) (fun x y c fs q => ?_) <;> (cases x <;> cases y <;> simp only [divD, reduceCtorEq] at q)
  · split at q
    · rename_i h; injection q with q; exact ⟨_, _, rfl, rfl, h, q.symm⟩
    · cases q
  · split at q <;> cases q
theorem os_mod : OpS S (binaryOp .Mod) .sh modD := by
  refine opS_int (C := fun _ j => 0 < j) (gd := fun i j => .int (i % j)) (fun X => op_mod) (fun _ _ _ _ => .int _) (fun x y d q => ?_) (fun x y c fs q => ?_) <;> (cases x <;> cases y <;> simp only [modD, reduceCtorEq] at q)
  · split at q
    · rename_i h; injection q with q; exact ⟨_, _, rfl, rfl, h, q.symm⟩
    · cases q
  · split at q <;> cases q
theorem os_pow : OpS S (binaryOp .Pow) .sh powD := by
  refine opS_int (C := CPow) (gd := fun i j => .int (i ^ j.toNat)) (fun X => op_pow) (fun _ _ _ _ => .int _) (fun x y d q => ?_) (fun x y c fs q => ?_) <;> (cases x <;> cases y <;> simp only [powD, reduceCtorEq] at q)
  · split at q
    · rename_i h; injection q with q; exact ⟨_, _, rfl, rfl, h, q.symm⟩
    · cases q
  · split at q <;> cases q
theorem os_shl : OpS S (binaryOp .LShift) .sh shlD := by
  refine opS_int (C := CPow) (gd := fun i j => .int (i * 2 ^ j.toNat)) (fun X => op_shl) (fun _ _ _ _ => .int _) (fun x y d q => ?_) (fun x y c fs q => ?_) <;> (cases x <;> cases y <;> simp only [shlD, reduceCtorEq] at q)
  · split at q
    · rename_i h; injection q with q; exact ⟨_, _, rfl, rfl, h, q.symm⟩
    · cases q
  · split at q <;> cases q
theorem os_lt : OpS S (compareOp .Lt) .sh ltD := by
  refine opS_int (C := fun _ _ => True) (gd := fun i j => .bl (decide (i < j))) (fun X => rI_true op_lt) (fun _ _ _ _ => .bl _) (fun x y d q => ?_) (fun x y c fs q => ?_) <;> (cases x <;> cases y <;> simp only [ltD, R.ok.injEq, reduceCtorEq] at q)
  exact ⟨_, _, rfl, rfl, trivial, q.symm⟩
theorem os_le : OpS S (compareOp .LtE) .sh leD := by
  refine opS_int (C := fun _ _ => True) (gd := fun i j => .bl (decide (i ≤ j))) (fun X => rI_true op_le) (fun _ _ _ _ => .bl _) (fun x y d q => ?_) (fun x y c fs q => ?_) <;> (cases x <;> cases y <;> simp only [leD, R.ok.injEq, reduceCtorEq] at q)
  exact ⟨_, _, rfl, rfl, trivial, q.symm⟩
theorem os_gt : OpS S (compareOp .Gt) .sh gtD := by
  refine opS_int (C := fun _ _ => True) (gd := fun i j => .bl (decide (j < i))) (fun X => rI_true op_gt) (fun _ _ _ _ => .bl _) (fun x y d q => ?_) (fun x y c fs q => ?_) <;> (cases x <;> cases y <;> simp only [gtD, R.ok.injEq, reduceCtorEq] at q)
  exact ⟨_, _, rfl, rfl, trivial, q.symm⟩
theorem os_ge : OpS S (compareOp .GtE) .sh geD := by
  refine opS_int (C := fun _ _ => True) (gd := fun i j => .bl (decide (j ≤ i))) (fun X => rI_true op_ge) (fun _ _ _ _ => .bl _) (fun x y d q => ?_) (fun x y c fs q => ?_) <;> (cases x <;> cases y <;> simp only [geD, R.ok.injEq, reduceCtorEq] at q)
  exact ⟨_, _, rfl, rfl, trivial, q.symm⟩

/-! + -/
theorem os_cat : OpS S (binaryOp .Add) .fr catD := by
  refine ⟨rCat, fun X _ => op_cat, fun x y dx dy σ B H Q s hx hy p => ?_⟩
  cases dx <;> cases dy <;> simp only [catD] at p <;> try exact p.elim
  rename_i xs ys
  split at p
  · rename_i hz
    obtain ⟨a, vs, rfl, e1, r1⟩ := hx
    obtain ⟨b, ws, rfl, e2, r2⟩ := hy
    refine ⟨a, b, vs, ws, rfl, rfl, e1, e2, by rw [r1.length, r2.length]; exact hz, fun q n => p _ B _ (.own s n) ⟨q, rfl, n, s.free n, _, upd_same, r1.append r2⟩⟩
  · exact p.elim
theorem os_add : OpS S (binaryOp .Add) .sh addD := by
  refine ⟨_, fun X g => (op_add.or op_add_str).or ((g.hK ▸ op_catA : OpR X (binaryOp .Add) (rCatA S.K)).or op_cat), fun x y dx dy σ B H Q s hx hy p => ?_⟩
  cases dx <;> cases dy <;> simp only [addD] at p <;> try exact p.elim
  · exact .inl (.inl ⟨_, _, hx.int_of, hy.int_of, p.okv s (.int _)⟩)
  · split at p
    · rename_i hz
      exact .inl (.inr ⟨_, _, hx.str_of, hy.str_of, hz, p.okv s (.str _)⟩)
    · exact p.elim
  · split at p
    · rename_i hz
      obtain ⟨a, vs, rfl, e1, r1⟩ := hx
      obtain ⟨b, ws, rfl, e2, r2⟩ := hy
      exact .inr (.inr ⟨a, b, vs, ws, rfl, rfl, e1, e2, by rw [r1.length, r2.length]; exact hz, fun q n => p _ _ _ (.put s n) (.lst upd_same ((r1.append r2).mono (same_upd (s.free n))))⟩)
    · exact p.elim
  · split at p
    · rename_i hz
      obtain ⟨a, vs, rfl, e1, r1⟩ := hx.rep_tup
      obtain ⟨b, ws, rfl, e2, r2⟩ := hy.rep_tup
      refine .inr (.inl ⟨a, b, vs, ws, rfl, rfl, seqT_mono s e1, seqT_mono s e2, by rw [r1.length, r2.length]; exact hz, fun q => ?_, fun _ q => ?_, fun _ _ q n => p _ _ _ (.put s n) (.tup (SqT.of upd_same) ((r1.append r2).mono (same_upd (s.free n))))⟩)
      · subst q
        cases r1
        exact p.okv s (.tup e2 r2)
      · subst q
        cases r2
        rw [List.append_nil] at p
        exact p.okv s (.tup e1 r1)
    · exact p.elim

/-! * -/
theorem op_mulS {X : Cx} : OpR X (binaryOp .Mult) (fun x y H Q => ∃ i j, x = .str i ∧ y = .int j ∧ (i.length ≤ 16 ∧ 0 ≤ j ∧ j ≤ 1048576) ∧ Q (.str (Txt.mul i j)) H) := by
  intro pins s σ H x y v u Q I rx ry h
  obtain ⟨i, j, rfl, rfl, ⟨h1, h2, h3⟩, q⟩ := h
  obtain ⟨t, rfl⟩ := rx
  obtain ⟨t', rfl⟩ := ry
  exact PySem.W.KXi.mul rfl h1 (by omega) (by omega) fun t' k _ _ => ⟨.str _, H, I.tok _, ⟨_, rfl⟩, q⟩
theorem os_mul : OpS S (binaryOp .Mult) .sh mulD := by
  refine ⟨_, fun X g => (op_mul.or op_mulS).or op_rep, fun x y dx dy σ B H Q s hx hy p => ?_⟩
  cases dx <;> cases dy <;> simp only [mulD] at p <;> try exact p.elim
  · split at p
    · rename_i hz
      exact .inl (.inl ⟨_, _, hx.int_of, hy.int_of, hz, p.okv s (.int _)⟩)
    · exact p.elim
  · split at p
    · rename_i hz
      exact .inl (.inr ⟨_, _, hx.str_of, hy.int_of, hz, p.okv s (.str _)⟩)
    · exact p.elim
  · split at p
    · rename_i xs k hz
      obtain ⟨a, vs, rfl, e1, r1⟩ := hx
      have rr : ∀ n : Nat, RepAll S.K B (List.replicate n vs).flatten (List.replicate n xs).flatten := fun n => by
        induction n with
        | zero => exact .nil
        | succ n ih => rw [List.replicate_succ, List.replicate_succ, List.flatten_cons, List.flatten_cons]; exact r1.append ih
      refine .inr ⟨a, k, vs, rfl, hy.int_of, e1, hz.1, hz.2.1, by rw [r1.length]; exact hz.2.2, fun q n => p _ _ _ (.put s n) (.lst upd_same ((rr _).mono (same_upd (s.free n))))⟩
    · exact p.elim

/-! ==, != -/
theorem eqB_data {x y : D} {b : Bool} (h : eqB x y = some b) :
    (∀ K B H vx vy, Same B H → Lk K B H vx x → Lk K B H vy y → scal vx vy = true ∧ decide (vx = vy) = b) ∨ (x.ok = true ∧ y.ok = true ∧ PyData.eqv x.py y.py = b) := by
  have gen : ∀ {x y : D}, (if x.ok = true ∧ y.ok = true then some (PyData.eqv x.py y.py) else none) = some b → x.ok = true ∧ y.ok = true ∧ PyData.eqv x.py y.py = b := fun {x y} e => by
    split at e
    · rename_i q; exact ⟨q.1, q.2, Option.some.inj e⟩
    · cases e
  unfold eqB at h
  split at h
  · refine .inl fun K B H vx vy s hx hy => ?_
    obtain rfl := hx.int_of; obtain rfl := hy.int_of
    refine ⟨rfl, ?_⟩
    rw [← Option.some.inj h]
    exact decide_eq_decide.mpr ⟨fun q => V.int.inj q, fun q => by rw [q]⟩
  · refine .inl fun K B H vx vy s hx hy => ?_
    obtain rfl := hx.str_of; obtain rfl := hy.str_of
    refine ⟨rfl, ?_⟩
    rw [← Option.some.inj h]
    exact decide_eq_decide.mpr ⟨fun q => V.str.inj q, fun q => by rw [q]⟩
  · refine .inl fun K B H vx vy s hx hy => ?_
    obtain rfl := hx.bl_of; obtain rfl := hy.bl_of
    refine ⟨rfl, ?_⟩
    rw [← Option.some.inj h]
    exact decide_eq_decide.mpr ⟨fun q => V.bl.inj q, fun q => by rw [q]⟩
  · refine .inl fun K B H vx vy s hx hy => ?_
    obtain rfl := hx.non_of; obtain rfl := hy.non_of
    exact ⟨rfl, by rw [← Option.some.inj h]; rfl⟩
  · refine .inl fun K B H vx vy s hx hy => ?_
    obtain rfl := hx.non_of; obtain rfl := hy.int_of
    exact ⟨rfl, by rw [← Option.some.inj h]; rfl⟩
  · refine .inl fun K B H vx vy s hx hy => ?_
    obtain rfl := hx.int_of; obtain rfl := hy.non_of
    exact ⟨rfl, by rw [← Option.some.inj h]; rfl⟩
  · refine .inl fun K B H vx vy s hx hy => ?_
    obtain rfl := hx.non_of; obtain rfl := hy.str_of
    exact ⟨rfl, by rw [← Option.some.inj h]; rfl⟩
  · refine .inl fun K B H vx vy s hx hy => ?_
    obtain rfl := hx.str_of; obtain rfl := hy.non_of
    exact ⟨rfl, by rw [← Option.some.inj h]; rfl⟩
  · exact .inr (gen h)
theorem os_eq (hc : true = true) : OpS S (compareOp .Eq) .sh eqD := by
  refine ⟨_, fun X g => op_eq.or (g.hK ▸ op_eqD (g.units) : OpR X (compareOp .Eq) (rEqD S.K)), fun x y dx dy σ B H Q s hx hy p => ?_⟩
  unfold eqD at p
  cases q : eqB dx dy with
  | none => rw [q] at p; exact p.elim
  | some b =>
    rw [q] at p
    have p' := p.okv (v := V.bl b) s (show Rep S.K B (.bl b) (.bl b) from .bl b)
    rcases eqB_data q with h | ⟨h1, h2, h3⟩
    · obtain ⟨a1, a2⟩ := h _ _ _ _ _ s hx hy
      exact .inl ⟨a1, by rw [a2]; exact p'⟩
    · exact .inr ⟨_, _, hx.dp s (D.ok_lay h1), hy.dp s (D.ok_lay h2), h1, h2, by rw [h3]; exact p'⟩
theorem os_ne (hc : true = true) : OpS S (compareOp .NotEq) .sh neD := by
  refine ⟨_, fun X g => op_ne.or (g.hK ▸ op_neD (g.units) : OpR X (compareOp .NotEq) (rNeD S.K)), fun x y dx dy σ B H Q s hx hy p => ?_⟩
  unfold neD at p
  cases q : eqB dx dy with
  | none => rw [q] at p; exact p.elim
  | some b =>
    rw [q] at p
    have p' := p.okv (v := V.bl (!b)) s (show Rep S.K B (.bl (!b)) (.bl (!b)) from .bl _)
    rcases eqB_data q with h | ⟨h1, h2, h3⟩
    · obtain ⟨a1, a2⟩ := h _ _ _ _ _ s hx hy
      exact .inl ⟨a1, by rw [a2]; exact p'⟩
    · exact .inr ⟨_, _, hx.dp s (D.ok_lay h1), hy.dp s (D.ok_lay h2), h1, h2, by rw [h3]; exact p'⟩

/-! in, not in -/
theorem Good.units65 {X : Cx} (g : Good S X) : X.A.units + 65 < cLine := by have := g.un; omega
theorem in_strs {K : PySem.W.Frag} {B : Hp} {x : Str} : ∀ {vs : List V} {ys : List D}, RepAll K B vs ys → (ys.all fun y => match y with | .str _ => true | _ => false) = true →
    vs.all flatV = true ∧ inV (.str x) vs = ys.any fun y => match y with | .str z => decide (z = x) | _ => false
  | _, _, .nil, _ => ⟨rfl, rfl⟩
  | _, _, .cons h r, q => by
    rw [List.all_cons, Bool.and_eq_true] at q
    obtain ⟨i1, i2⟩ := in_strs (x := x) r q.2
    cases h with
    | str z =>
      refine ⟨by rw [List.all_cons, i1]; rfl, ?_⟩
      unfold inV at i2 ⊢
      rw [List.any_cons, List.any_cons, i2]
      rfl
    | _ => cases q.1
theorem in_ints {K : PySem.W.Frag} {B : Hp} {x : Int} : ∀ {vs : List V} {ys : List D}, RepAll K B vs ys → (ys.all fun y => match y with | .int _ => true | _ => false) = true →
    vs.all flatV = true ∧ inV (.int x) vs = ys.any fun y => match y with | .int z => decide (z = x) | _ => false
  | _, _, .nil, _ => ⟨rfl, rfl⟩
  | _, _, .cons h r, q => by
    rw [List.all_cons, Bool.and_eq_true] at q
    obtain ⟨i1, i2⟩ := in_ints (x := x) r q.2
    cases h with
    | int z =>
      refine ⟨by rw [List.all_cons, i1]; rfl, ?_⟩
      unfold inV at i2 ⊢
      rw [List.any_cons, List.any_cons, i2]
      rfl
    | _ => cases q.1
theorem inB_of {x y : D} {b : Bool} {K : PySem.W.Frag} {B H : Hp} {vx vy : V} (h : inB x y = some b) (s : Same B H) (hx : Lk K B H vx x) (hy : Lk K B H vy y) :
    (∃ c z, vx = .str ⟨#[c]⟩ ∧ vy = .str z ∧ b = decide (c ∈ z.cps.toList)) ∨
    (∃ d ds, Dp K H vx d ∧ Dp K H vy (.list ds) ∧ SeqAt.shaped d = true ∧ SeqAt.shaped (.list ds) = true ∧ b = ds.any fun z => PyData.eqv z d) ∨
    (∃ p xs, vy = .ref p ∧ SqT K H p xs ∧ flatV vx = true ∧ xs.all flatV = true ∧ b = inV vx xs) := by
  unfold inB at h
  split at h
  · rename_i x y
    split at h
    · rename_i c e
      have ex : x = ⟨#[c]⟩ := by
        obtain ⟨a⟩ := x
        have : a.toList = [c] := e
        congr
        apply Array.ext'
        exact this
      subst ex
      exact .inl ⟨c, y, hx.str_of, hy.str_of, (Option.some.inj h).symm⟩
    · cases h
  · rename_i ys
    split at h
    · rename_i q
      refine .inr (.inl ⟨_, _, hx.dp s (D.ok_lay q.1), ?_, q.1, q.2, (Option.some.inj h).symm⟩)
      exact hy.dp s (D.ok_lay q.2)
    · cases h
  · rename_i x ys
    split at h
    · rename_i q
      obtain ⟨a, vs, rfl, e1, r1⟩ := hy.rep_tup
      obtain ⟨i1, i2⟩ := in_strs (x := x) r1 q
      obtain rfl := hx.str_of
      exact .inr (.inr ⟨a, vs, rfl, seqT_mono s e1, rfl, i1, by rw [i2]; exact (Option.some.inj h).symm⟩)
    · cases h
  · rename_i x ys
    split at h
    · rename_i q
      obtain ⟨a, vs, rfl, e1, r1⟩ := hy.rep_tup
      obtain ⟨i1, i2⟩ := in_ints (x := x) r1 q
      obtain rfl := hx.int_of
      exact .inr (.inr ⟨a, vs, rfl, seqT_mono s e1, rfl, i1, by rw [i2]; exact (Option.some.inj h).symm⟩)
    · cases h
  · cases h
theorem os_in (hc : true = true) : OpS S (compareOp .In) .sh inD := by
  refine ⟨_, fun X g => op_in_sign.or ((g.hK ▸ op_inD (g.units65) : OpR X (compareOp .In) (rInD S.K)).or (g.hK ▸ op_in_seq : OpR X (compareOp .In) (rIn S.K false))), fun x y dx dy σ B H Q s hx hy p => ?_⟩
  unfold inD at p
  cases q : inB dx dy with
  | none => rw [q] at p; exact p.elim
  | some b =>
    rw [q] at p
    have p' := p.okv (v := V.bl b) s (show Rep S.K B (.bl b) (.bl b) from .bl b)
    rcases inB_of q s hx hy with ⟨c, z, rfl, rfl, e⟩ | ⟨d, ds, h1, h2, h3, h4, e⟩ | ⟨a, xs, rfl, h1, h2, h3, e⟩
    · exact .inl ⟨c, z, rfl, rfl, by rw [← e]; exact p'⟩
    · exact .inr (.inl ⟨d, ds, h1, h2, h3, h4, by rw [← e]; exact p'⟩)
    · exact .inr (.inr ⟨a, xs, rfl, .inr h1, h2, h3, by rw [if_neg Bool.false_ne_true, ← e]; exact p'⟩)
theorem os_nin (hc : true = true) : OpS S (compareOp .NotIn) .sh ninD := by
  refine ⟨_, fun X g => op_notIn_sign.or ((g.hK ▸ op_notInD (g.units65) : OpR X (compareOp .NotIn) (rNotInD S.K)).or (g.hK ▸ op_notIn_seq : OpR X (compareOp .NotIn) (rIn S.K true))), fun x y dx dy σ B H Q s hx hy p => ?_⟩
  unfold ninD at p
  cases q : inB dx dy with
  | none => rw [q] at p; exact p.elim
  | some b =>
    rw [q] at p
    have p' := p.okv (v := V.bl (!b)) s (show Rep S.K B (.bl (!b)) (.bl (!b)) from .bl _)
    rcases inB_of q s hx hy with ⟨c, z, rfl, rfl, e⟩ | ⟨d, ds, h1, h2, h3, h4, e⟩ | ⟨a, xs, rfl, h1, h2, h3, e⟩
    · exact .inl ⟨c, z, rfl, rfl, by rw [← e]; exact p'⟩
    · exact .inr (.inl ⟨d, ds, h1, h2, h3, h4, by rw [← e]; exact p'⟩)
    · exact .inr (.inr ⟨a, xs, rfl, .inr h1, h2, h3, by rw [if_pos rfl, ← e]; exact p'⟩)
end
end T2
end
section
set_option maxRecDepth 100000
set_option maxHeartbeats 1000000
namespace T2
open PySem PySem.Spec L2

section
variable {S : Sg} {own : List Nat} {m : Md} {e a b c elt : Expr} {es : List Expr} {f fa fb fc : FE} {fs : FA} {pos p p2 : Pos}

/-! ### subscripts -/
def ixD : D → D → R D
  | .lst xs, .int i => match atI xs i with
    | some d => .ok d
    | none => .bad
  | .tup xs, .int i => match atI xs i with
    | some d => .ok d
    | none => .bad
  | .scr ns, .int i => match atI ns i with
    | some n => .ok (.int n)
    | none => .bad
  | .str z, .int i => if z.length ≤ sizeLine then (match atI z.cps.toList i with
    | some c => .ok (.str ⟨#[c]⟩)
    | none => .bad) else .bad
  | _, _ => .bad
theorem at_rep {K : PySem.W.Frag} {B : Hp} {vs : List V} {ds : List D} {i : Int} {d : D} (r : RepAll K B vs ds) (h : atI ds i = some d) : ∃ v, atI vs i = some v ∧ Rep K B v d := by
  unfold atI at h ⊢
  rw [r.length]
  cases q : ixN ds.length i with
  | none => rw [q] at h; cases h
  | some j => rw [q] at h; exact r.get h
theorem at_ints {ns : List Int} {i n : Int} (h : atI ns i = some n) : atI (ns.map V.int) i = some (.int n) := by
  unfold atI at h ⊢
  rw [List.length_map]
  cases q : ixN ns.length i with
  | none => rw [q] at h; cases h
  | some j =>
    rw [q] at h
    show (ns.map V.int)[j]? = _
    rw [List.getElem?_map, show ns[j]? = some n from h]
    rfl
theorem ve_ix (ha : VE S own .lk a fa) (hb : VE S own .lk b fb) (hs : PlainIx b) : VE S own .sh (.Subscript a b pos) (f2 ixD fa fb) := by
  obtain ⟨ta, a1, a2⟩ := ha
  obtain ⟨tb, b1, b2⟩ := hb
  refine ⟨tOp (rIx S.K) ta tb, fun X g => by rw [← g.hK]; exact pe_ix ix_seq (a1 X g) (b1 X g) hs, fun B0 H0 ρ σ B H Q I p => two a2 b2 (fun x y dx dy σ B H Q s hx hy p => ?_) I p⟩
  cases dx <;> cases dy <;> simp only [ixD] at p <;> try exact p.elim
  · split at p
    · rename_i z i hz
      split at p
      · rename_i c hc
        exact .inr (.inr ⟨_, _, c, hx.str_of, hy.int_of, hz, hc, p.okv s (.str _)⟩)
      · exact p.elim
    · exact p.elim
  · split at p
    · rename_i d hd
      obtain ⟨a, vs, rfl, e1, r1⟩ := hx
      obtain ⟨v, h1, h2⟩ := at_rep r1 hd
      exact .inl ⟨a, vs, _, v, rfl, hy.int_of, SqL.of e1, h1, p.okv s h2⟩
    · exact p.elim
  · split at p
    · rename_i d hd
      obtain ⟨a, vs, rfl, e1, r1⟩ := hx.rep_tup
      obtain ⟨v, h1, h2⟩ := at_rep r1 hd
      exact .inr (.inl ⟨a, vs, _, v, rfl, hy.int_of, seqT_mono s e1, h1, p.okv s h2⟩)
    · exact p.elim
  · split at p
    · rename_i d hd
      cases (show Rep S.K B x (.scr _) from hx) with
      | scr h1 => exact .inl ⟨_, _, _, _, rfl, hy.int_of, Same.seq s h1, at_ints hd, p.okv s (.int _)⟩
    · exact p.elim

/-! ### slices -/
def fPart (f : FE) : Rho → R (Option Int) := fun ρ => (f ρ).bind fun d => match d with
  | .int i => .ok (some i)
  | _ => .bad
def fNoPart : Rho → R (Option Int) := fun _ => .ok none
theorem vo_none : VO S own none fNoPart := ⟨_, fun X _ => po_none, fun _ _ _ _ _ _ _ I p => p _ _ _ (.refl I.sub) rfl⟩
theorem vo_some (h : VE S own .lk e f) : VO S own (some e) (fPart f) := by
  obtain ⟨t, h1, h2⟩ := h
  refine ⟨_, fun X g => po_some (h1 X g), fun B0 H0 ρ σ B H Q I p => ?_⟩
  refine h2 B0 H0 ρ σ B H _ I (Post.seq anti_relO p fun d v B1 H1 e1 s1 r1 p1 => ?_)
  cases d with
  | int i => exact ⟨i, Lk.int_of (H := H1) r1, p1 _ B1 H1 (.refl s1.sub) rfl⟩
  | _ => exact p1.elim
/-- the places of a cut -/
def cut {α : Type} (xs : List α) (lo hi : Option Int) : List α := (xs.drop (HT.sIx xs.length 0 lo)).take (HT.sIx xs.length xs.length hi - HT.sIx xs.length 0 lo)
def sliceD : D → Option Int → Option Int → R D
  | .lst xs, lo, hi => .ok (.lst (cut xs lo hi))
  | .scr ns, lo, hi => .ok (.lst ((cut ns lo hi).map D.int))
  | .tup xs, lo, hi => .ok (.tup (cut xs lo hi))
  | .str z, lo, hi => if z.length ≤ sizeLine then .ok (.str (cutS z lo hi)) else .bad
  | _, _, _ => .bad
def sliceL : D → Option Int → Option Int → R D
  | .lst xs, lo, hi => .ok (.lst (cut xs lo hi))
  | .scr ns, lo, hi => .ok (.lst ((cut ns lo hi).map D.int))
  | _, _, _ => .bad
theorem cut_rep {K : PySem.W.Frag} {B : Hp} {vs : List V} {ds : List D} (r : RepAll K B vs ds) (lo hi : Option Int) : RepAll K B (cutV vs lo hi) (cut ds lo hi) := by
  unfold cutV cut
  rw [r.length]
  exact (r.drop _).take _
theorem cut_ints (ns : List Int) (lo hi : Option Int) : cutV (ns.map V.int) lo hi = (cut ns lo hi).map V.int := by
  unfold cutV cut
  rw [List.length_map, List.map_take, List.map_drop]
def fSl (g : D → Option Int → Option Int → R D) (f : FE) (l h : Rho → R (Option Int)) : FE := fun ρ => (f ρ).bind fun d => (l ρ).bind fun lo => (h ρ).bind fun hi => g d lo hi
variable {lo hi : Option Expr} {gl gh : Rho → R (Option Int)}
theorem three {te : TE} {tl th : TO} {r : V → Option Int → Option Int → Hp → VK → Prop} {g : D → Option Int → Option Int → R D}
    (ha : ∀ B0 H0 ρ σ B H Q, TInv S.T S.K B0 H0 own ρ σ B H → Post S.T S.K S.W (Res .lk S.K) σ B H (f ρ) Q → te σ H Q) (hl : ∀ B0 H0 ρ σ B H Q, TInv S.T S.K B0 H0 own ρ σ B H → Post S.T S.K S.W relO σ B H (gl ρ) Q → tl σ H Q)
    (hh : ∀ B0 H0 ρ σ B H Q, TInv S.T S.K B0 H0 own ρ σ B H → Post S.T S.K S.W relO σ B H (gh ρ) Q → th σ H Q)
    (ho : ∀ x d l h σ B H Q, Same B H → Lk S.K B H x d → Post S.T S.K S.W (Res m S.K) σ B H (g d l h) Q → r x l h H Q) {B0 H0 ρ σ B H Q}
    (I : TInv S.T S.K B0 H0 own ρ σ B H) (p : Post S.T S.K S.W (Res m S.K) σ B H (fSl g f gl gh ρ) Q) : tSl r te tl th σ H Q := by
  refine ha B0 H0 ρ σ B H _ I (Post.seq anti_res p fun d v B1 H1 e1 s1 r1 p1 => ?_)
  refine hl B0 H0 ρ σ B1 H1 _ (I.step s1) (Post.seq anti_res p1 fun l v2 B2 H2 e2 s2 r2 p2 => ?_)
  refine hh B0 H0 ρ σ B2 H2 _ ((I.step s1).step s2) (Post.seq anti_res p2 fun h v3 B3 H3 e3 s3 r3 p3 => ?_)
  obtain rfl : v2 = l := r2
  obtain rfl : v3 = h := r3
  exact ho v d v2 v3 σ B3 H3 Q s3.sub ((Lk.step r1 s2).step s3) p3
theorem ve_slice (ha : VE S own .lk e f) (hl : VO S own lo gl) (hh : VO S own hi gh) : VE S own .sh (.Subscript e (.Slice lo hi none p2) pos) (fSl sliceD f gl gh) := by
  obtain ⟨te, a1, a2⟩ := ha
  obtain ⟨tl, b1, b2⟩ := hl
  obtain ⟨th, c1, c2⟩ := hh
  refine ⟨tSl (fun x lo hi H Q => rSlL S.K x lo hi H Q ∨ (rSlS x lo hi H Q ∨ rSlA S.K x lo hi H Q)) te tl th, fun X g => by rw [← g.hK]; exact pe_slice (sl_list.or (sl_str.or sl_tupA)) (a1 X g) (b1 X g) (c1 X g), fun B0 H0 ρ σ B H Q I p => three a2 b2 c2 (fun x d l h σ B H Q s hx p => ?_) I p⟩
  cases d with
  | lst xs =>
    obtain ⟨a, vs, rfl, e1, r1⟩ := hx
    exact .inl ⟨a, vs, rfl, SqL.of e1, fun q n => p _ _ _ (.put s n) (.lst upd_same ((cut_rep r1 l h).mono (same_upd (s.free n))))⟩
  | scr ns =>
    cases (show Rep S.K B x (.scr _) from hx) with
    | scr h1 => exact .inl ⟨_, _, rfl, Same.seq s h1, fun q n => p _ _ _ (.put s n) (.lst upd_same (by rw [cut_ints]; exact RepAll.ints))⟩
  | tup xs =>
    obtain ⟨a, vs, rfl, e1, r1⟩ := hx.rep_tup
    refine .inr (.inr ⟨a, vs, rfl, seqT_mono s e1, fun q => ?_, fun _ q n => p _ _ _ (.put s n) (.tup (SqT.of upd_same) ((cut_rep r1 l h).mono (same_upd (s.free n))))⟩)
    have e2 : cut xs l h = xs := by
      unfold cut
      rw [← r1.length, q.1, q.2]
      simp [r1.length]
    have p' : Post S.T S.K S.W (Res .sh S.K) σ B H (.ok (.tup (cut xs l h))) Q := p
    rw [e2] at p'
    exact p'.okv s (.tup e1 r1)
  | str z =>
    simp only [sliceD] at p
    split at p
    · rename_i hz
      exact .inr (.inl ⟨z, hx.str_of, hz, p.okv s (.str _)⟩)
    · exact p.elim
  | _ => exact p.elim
theorem ve_sliceL (ha : VE S own .lk e f) (hl : VO S own lo gl) (hh : VO S own hi gh) : VE S own .fr (.Subscript e (.Slice lo hi none p2) pos) (fSl sliceL f gl gh) := by
  obtain ⟨te, a1, a2⟩ := ha
  obtain ⟨tl, b1, b2⟩ := hl
  obtain ⟨th, c1, c2⟩ := hh
  refine ⟨tSl (rSlL S.K) te tl th, fun X g => by rw [← g.hK]; exact pe_slice sl_list (a1 X g) (b1 X g) (c1 X g), fun B0 H0 ρ σ B H Q I p => three a2 b2 c2 (fun x d l h σ B H Q s hx p => ?_) I p⟩
  cases d with
  | lst xs =>
    obtain ⟨a, vs, rfl, e1, r1⟩ := hx
    exact ⟨a, vs, rfl, SqL.of e1, fun q n => p _ B _ (.own s n) ⟨q, rfl, n, s.free n, _, upd_same, cut_rep r1 l h⟩⟩
  | scr ns =>
    cases (show Rep S.K B x (.scr _) from hx) with
    | scr h1 => exact ⟨_, _, rfl, Same.seq s h1, fun q n => p _ B _ (.own s n) ⟨q, rfl, n, s.free n, _, upd_same, by rw [cut_ints]; exact RepAll.ints⟩⟩
  | _ => exact p.elim
/-- xs[::-1] -/
def revD : D → R D
  | .lst xs => .ok (.lst xs.reverse)
  | _ => .bad
def f1 (g : D → R D) (f : FE) : FE := fun ρ => (f ρ).bind g
theorem ve_rev {k : Nat} {p1 p3 : Pos} (ha : VE S own .lk e f) : VE S own .fr (.Subscript e (.Slice none none (some (.UnaryOp .USub (.Constant (.int 1) k p1) p2)) p3) pos) (f1 revD f) := by
  obtain ⟨te, a1, a2⟩ := ha
  refine ⟨tRevL S.K te, fun X g => by rw [← g.hK]; exact pe_revL (a1 X g), fun B0 H0 ρ σ B H Q I p => ?_⟩
  refine a2 B0 H0 ρ σ B H _ I (Post.seq anti_res p fun d v B1 H1 e1 s1 r1 p1 => ?_)
  cases d with
  | lst xs =>
    obtain ⟨a, vs, rfl, e1, r1⟩ := r1
    exact ⟨a, vs, rfl, SqL.of e1, fun q n => p1 _ B1 _ (.own s1.sub n) ⟨q, rfl, n, s1.sub.free n, _, upd_same, r1.reverse⟩⟩
  | _ => exact p1.elim
def negD : D → R D
  | .int i => .ok (.int (-i))
  | _ => .bad
theorem ve_neg (ha : VE S own .lk a fa) : VE S own .sh (.UnaryOp .USub a pos) (f1 negD fa) := by
  obtain ⟨te, a1, a2⟩ := ha
  refine ⟨_, fun X g => pe_un un_neg (a1 X g), fun B0 H0 ρ σ B H Q I p => ?_⟩
  refine a2 B0 H0 ρ σ B H _ I (Post.seq anti_res p fun d v B1 H1 e1 s1 r1 p1 => ?_)
  cases d with
  | int i => exact ⟨i, Lk.int_of (H := H1) r1, p1 _ B1 H1 (.refl s1.sub) (.int _)⟩
  | _ => exact p1.elim

/-! ### displays -/
def fLst (f : FA) : FE := fun ρ => (f ρ).bind fun ds => if ds.length ≤ sizeLine then .ok (.lst ds) else .bad
def fTup (f : FA) : FE := fun ρ => (f ρ).bind fun ds => if ds.length ≤ sizeLine then .ok (.tup ds) else .bad
theorem ve_list (h : VA S own .sh es fs) : VE S own .fr (.List es pos) (fLst fs) := by
  obtain ⟨t, h1, h2⟩ := h
  refine ⟨_, fun X g => pe_lst (h1 X g), fun B0 H0 ρ σ B H Q I p => ?_⟩
  refine h2 B0 H0 ρ σ B H _ I (Post.seq anti_res p fun ds vs B1 H1 e1 s1 r1 p1 => ?_)
  split at p1
  · rename_i hz
    exact ⟨by rw [RepAll.length r1]; exact hz, fun q n => p1 _ B1 _ (.own s1.sub n) ⟨q, rfl, n, s1.sub.free n, _, upd_same, r1⟩⟩
  · exact p1.elim
theorem ve_tuple {k : Nat} (h : VA S own .sh es fs) : VE S own .sh (.Tuple es k pos) (fTup fs) := by
  obtain ⟨t, h1, h2⟩ := h
  refine ⟨_, fun X g => pe_tup (h1 X g), fun B0 H0 ρ σ B H Q I p => ?_⟩
  refine h2 B0 H0 ρ σ B H _ I (Post.seq anti_res p fun ds vs B1 H1 e1 s1 r1 p1 => ?_)
  split at p1
  · rename_i hz
    exact ⟨by rw [RepAll.length r1]; exact hz, fun q n => p1 _ _ _ (.put s1.sub n) (.tup (SqT.of upd_same) (RepAll.mono (same_upd (s1.sub.free n)) r1))⟩
  · exact p1.elim

/-! ### chains -/
theorem chain {ta tb tc : TE} {r r' : R2} {g g' : D → D → R D} (ha : ∀ B0 H0 ρ σ B H Q, TInv S.T S.K B0 H0 own ρ σ B H → Post S.T S.K S.W (Res .lk S.K) σ B H (fa ρ) Q → ta σ H Q)
    (hb : ∀ B0 H0 ρ σ B H Q, TInv S.T S.K B0 H0 own ρ σ B H → Post S.T S.K S.W (Res .lk S.K) σ B H (fb ρ) Q → tb σ H Q) (hc : ∀ B0 H0 ρ σ B H Q, TInv S.T S.K B0 H0 own ρ σ B H → Post S.T S.K S.W (Res .lk S.K) σ B H (fc ρ) Q → tc σ H Q)
    (o1 : ∀ x y dx dy σ B H Q, Same B H → Lk S.K B H x dx → Lk S.K B H y dy → Post S.T S.K S.W (Res .sh S.K) σ B H (g dx dy) Q → r x y H Q)
    (o2 : ∀ x y dx dy σ B H Q, Same B H → Lk S.K B H x dx → Lk S.K B H y dy → Post S.T S.K S.W (Res .sh S.K) σ B H (g' dx dy) Q → r' x y H Q) {B0 H0 ρ σ B H Q}
    (I : TInv S.T S.K B0 H0 own ρ σ B H) (p : Post S.T S.K S.W (Res .sh S.K) σ B H (fChain g g' fa fb fc ρ) Q) : ta σ H fun x H1 => tb σ H1 fun y H2 => r x y H2 fun z H3 => ∃ k, z = .bl k ∧ if k = true then tc σ H3 fun w H4 => r' y w H4 Q else Q (.bl false) H3 := by
  refine ha B0 H0 ρ σ B H _ I (Post.seq anti_res p fun d v B1 H1 e1 s1 r1 p1 => ?_)
  refine hb B0 H0 ρ σ B1 H1 _ (I.step s1) (Post.seq anti_res p1 fun d2 v2 B2 H2 e2 s2 r2 p2 => ?_)
  refine o1 v v2 d d2 σ B2 H2 _ s2.sub (Lk.step r1 s2) r2 (Post.seq anti_res p2 fun z vz B3 H3 e3 s3 r3 p3 => ?_)
  cases z with
  | bl k =>
    cases (show Rep S.K B3 vz (.bl k) from r3)
    refine ⟨k, rfl, ?_⟩
    cases k with
    | true =>
      refine iteT (hc B0 H0 ρ σ B3 H3 _ (((I.step s1).step s2).step s3) (Post.seq anti_res p3 fun d4 v4 B4 H4 e4 s4 r4 p4 => ?_))
      exact o2 v2 v4 d2 d4 σ B4 H4 Q s4.sub ((Lk.step r2 s3).step s4) r4 p4
    | false => exact iteF (p3 _ B3 H3 (.refl s3.sub) (.bl _))
  | _ => exact p3.elim
theorem ve_chain {op op' : CmpOp} {g g' : D → D → R D} (ho : OpS S (compareOp op) .sh g) (ho' : OpS S (compareOp op') .sh g') (ha : VE S own .lk a fa) (hb : VE S own .lk b fb) (hc : VE S own .lk c fc)
    (hm : lastMarks [op, op'] [b, c] = false := by rfl) : VE S own .sh (.Compare a [op, op'] [b, c] pos) (fChain g g' fa fb fc) := by
  obtain ⟨r, o1, o2⟩ := ho
  obtain ⟨r', o3, o4⟩ := ho'
  obtain ⟨ta, a1, a2⟩ := ha
  obtain ⟨tb, b1, b2⟩ := hb
  obtain ⟨tc, c1, c2⟩ := hc
  exact ⟨_, fun X g => pe_chain (o1 X g) (o3 X g) (a1 X g) (b1 X g) (c1 X g) hm, fun B0 H0 ρ σ B H Q I p => chain a2 b2 c2 o2 o4 I p⟩
theorem vt_chain {op op' : CmpOp} {g g' : D → D → R D} (ho : OpS S (compareOp op) .sh g) (ho' : OpS S (compareOp op') .sh g') (ha : VE S own .lk a fa) (hb : VE S own .lk b fb) (hc : VE S own .lk c fc)
    (hm : lastMarks [op, op'] [b, c] = false := by rfl) : VT S own (.Compare a [op, op'] [b, c] pos) (fTst (fChain g g' fa fb fc)) := by
  obtain ⟨r, o1, o2⟩ := ho
  obtain ⟨r', o3, o4⟩ := ho'
  obtain ⟨ta, a1, a2⟩ := ha
  obtain ⟨tb, b1, b2⟩ := hb
  obtain ⟨tc, c1, c2⟩ := hc
  exact ⟨_, fun X g => pt_chain (o1 X g) (o3 X g) (a1 X g) (b1 X g) (c1 X g) hm, fun B0 H0 ρ σ B H Q I p => tst (fun B0 H0 ρ σ B H Q I p => chain a2 b2 c2 o2 o4 I p) I p⟩
end

/-! ### built-in functions -/
section
variable {S : Sg}
theorem LkAll.one {K : PySem.W.Frag} {B H : Hp} {vs : List V} {d : D} (h : LkAll K B H vs [d]) : ∃ v, vs = [v] ∧ Lk K B H v d := by
  cases h with
  | cons h r => cases r; exact ⟨_, rfl, h⟩
def lenD : List D → R D
  | [.lst xs] => .ok (.int xs.length)
  | [.tup xs] => .ok (.int xs.length)
  | [.scr ns] => .ok (.int ns.length)
  | [.str z] => if z.length ≤ sizeLine then .ok (.int z.length) else .bad
  | _ => .bad
theorem cs_len : CallS S (.builtin "len") .sh lenD := by
  refine ⟨fun xs H Q => ∃ x n, xs = [x] ∧ LenV S.K x H n ∧ Q (.int n) H, fun X g => by rw [← g.hK]; exact call_len, fun vs ds σ B H Q s h p => ?_⟩
  unfold lenD at p
  split at p
  · obtain ⟨v, rfl, hv⟩ := h.one
    obtain ⟨a, ws, rfl, e1, r1⟩ := hv
    exact ⟨_, _, rfl, .inl ⟨ws, SqL.of e1, r1.length.symm⟩, p.okv s (.int _)⟩
  · obtain ⟨v, rfl, hv⟩ := h.one
    obtain ⟨a, ws, rfl, e1, r1⟩ := hv.rep_tup
    exact ⟨_, _, rfl, .inr ⟨ws, seqT_mono s e1, r1.length.symm⟩, p.okv s (.int _)⟩
  · obtain ⟨v, rfl, hv⟩ := h.one
    cases (show Rep S.K B v (.scr _) from hv) with
    | scr h1 => exact ⟨_, _, rfl, .inl ⟨_, Same.seq s h1, (List.length_map _).symm⟩, p.okv s (.int _)⟩
  · split at p
    · rename_i hz
      obtain ⟨v, rfl, hv⟩ := h.one
      obtain rfl := hv.str_of
      exact ⟨_, _, rfl, ⟨hz, rfl⟩, p.okv s (.int _)⟩
    · exact p.elim
  · exact p.elim
def absD : List D → R D
  | [.int i] => .ok (.int (if i < 0 then -i else i))
  | _ => .bad
theorem cs_abs : CallS S (.builtin "abs") .sh absD := by
  refine ⟨_, fun X g => call_abs, fun vs ds σ B H Q s h p => ?_⟩
  unfold absD at p
  split at p
  · obtain ⟨v, rfl, hv⟩ := h.one
    obtain rfl := hv.int_of
    exact ⟨_, rfl, p.okv s (.int _)⟩
  · exact p.elim
def intD : List D → R D
  | [.int i] => .ok (.int i)
  | [.bl b] => .ok (.int (if b then 1 else 0))
  | _ => .bad
theorem cs_int : CallS S (.type "int") .sh intD := by
  refine ⟨_, fun X g => call_int1, fun vs ds σ B H Q s h p => ?_⟩
  unfold intD at p
  split at p
  · obtain ⟨v, rfl, hv⟩ := h.one
    obtain rfl := hv.int_of
    exact .inl ⟨_, rfl, p.okv s (.int _)⟩
  · obtain ⟨v, rfl, hv⟩ := h.one
    obtain rfl := hv.bl_of
    exact .inr ⟨_, rfl, p.okv s (.int _)⟩
  · exact p.elim
def strD : List D → R D
  | [.int i] => if i.natAbs.log2 < 1920 then .ok (.str (toString i)) else .bad
  | _ => .bad
theorem cs_str : CallS S (.type "str") .sh strD := by
  refine ⟨_, fun X g => call_str_int, fun vs ds σ B H Q s h p => ?_⟩
  unfold strD at p
  split at p
  · split at p
    · rename_i hz
      obtain ⟨v, rfl, hv⟩ := h.one
      obtain rfl := hv.int_of
      exact ⟨_, rfl, hz, p.okv s (.str _)⟩
    · exact p.elim
  · exact p.elim
def intsOf : List D → Option (List Int)
  | [] => some []
  | .int i :: r => (intsOf r).map (i :: ·)
  | _ => none
theorem intsOf_some : ∀ {ds : List D} {ns : List Int}, intsOf ds = some ns → ds = ns.map D.int
  | [], ns, h => by cases h; rfl
  | d :: r, ns, h => by
    cases d with
    | int i =>
      simp only [intsOf] at h
      cases q : intsOf r with
      | none => rw [q] at h; cases h
      | some ms =>
        rw [q] at h
        cases h
        rw [intsOf_some q]
        rfl
    | _ => cases h
theorem intsOf_map (ns : List Int) : intsOf (ns.map D.int) = some ns := by
  induction ns with
  | nil => rfl
  | cons n ns ih => rw [List.map_cons]; simp only [intsOf]; rw [ih]; rfl
def sumD : List D → R D
  | [.lst xs] => match intsOf xs with
    | some ns => .ok (.int ns.sum)
    | none => .bad
  | _ => .bad
theorem cs_sum (hc : S.calm = true) : CallS S (.builtin "sum") .sh sumD := by
  refine ⟨rSum S.K, fun X g => by rw [← g.hK]; exact cr_sum (g.calm hc), fun vs ds σ B H Q s h p => ?_⟩
  unfold sumD at p
  split at p
  · split at p
    · rename_i xs ns q
      obtain ⟨v, rfl, hv⟩ := h.one
      obtain ⟨a, ws, rfl, e1, r1⟩ := hv
      obtain rfl := intsOf_some q
      obtain rfl := r1.ints_of
      exact ⟨a, ns, rfl, SqL.of e1, p.okv s (.int _)⟩
    · exact p.elim
  · exact p.elim
def listD : List D → R D
  | [.lst xs] => .ok (.lst xs)
  | [.tup xs] => .ok (.lst xs)
  | _ => .bad
theorem cs_list : CallS S (.type "list") .fr listD := by
  refine ⟨fun xs H Q => ∃ p ys, xs = [.ref p] ∧ (SqL S.K H p ys ∨ SqT S.K H p ys) ∧ ∀ l, H l = none → Q (.ref l) (upd H l (.lst ys)), fun X g => by rw [← g.hK]; exact call_list_of, fun vs ds σ B H Q s h p => ?_⟩
  unfold listD at p
  split at p
  · obtain ⟨v, rfl, hv⟩ := h.one
    obtain ⟨a, ws, rfl, e1, r1⟩ := hv
    exact ⟨a, ws, rfl, .inl (SqL.of e1), fun q n => p _ B _ (.own s n) ⟨q, rfl, n, s.free n, _, upd_same, r1⟩⟩
  · obtain ⟨v, rfl, hv⟩ := h.one
    obtain ⟨a, ws, rfl, e1, r1⟩ := hv.rep_tup
    exact ⟨a, ws, rfl, .inr (seqT_mono s e1), fun q n => p _ B _ (.own s n) ⟨q, rfl, n, s.free n, _, upd_same, r1⟩⟩
  · exact p.elim
def tupleD : List D → R D
  | [.lst xs] => .ok (.tup xs)
  | [.tup xs] => .ok (.tup xs)
  | _ => .bad
theorem cs_tuple : CallS S (.type "tuple") .sh tupleD := by
  refine ⟨fun xs H Q => ∃ p ys, xs = [.ref p] ∧ ((SqL S.K H p ys ∧ ∀ l, H l = none → Q (.ref l) (upd H l (.tup ys))) ∨ (SqT S.K H p ys ∧ Q (.ref p) H)), fun X g => by rw [← g.hK]; exact call_tuple_of, fun vs ds σ B H Q s h p => ?_⟩
  unfold tupleD at p
  split at p
  · obtain ⟨v, rfl, hv⟩ := h.one
    obtain ⟨a, ws, rfl, e1, r1⟩ := hv
    exact ⟨a, ws, rfl, .inl ⟨SqL.of e1, fun q n => p _ _ _ (.put s n) (.tup (SqT.of upd_same) (r1.mono (same_upd (s.free n))))⟩⟩
  · obtain ⟨v, rfl, hv⟩ := h.one
    obtain ⟨a, ws, rfl, e1, r1⟩ := hv.rep_tup
    exact ⟨a, ws, rfl, .inr ⟨seqT_mono s e1, p.okv s (.tup e1 r1)⟩⟩
  · exact p.elim

/-! isinstance -/
def tyName : D → String
  | .non => "NoneType"
  | .bl _ => "bool"
  | .int _ => "int"
  | .str _ => "str"
  | .lst _ => "list"
  | .tup _ => "tuple"
  | .dic _ => "dict"
  | .obj _ _ => "?"
  | .scr _ => "list"
  | .exn _ _ _ _ => "?"
/-- is a value of the type t one of these -/
def isTy (ns : List String) : D → R D
  | .obj _ _ => .bad
  | .exn _ _ _ _ => .bad
  | d => match PySem.W.kitAny [] (.type (tyName d)) (ns.map Value.type) with
    | some b => .ok (.bl b)
    | none => .bad
theorem kitAny_ty {K K' : PySem.W.Frag} {t : String} : ∀ {ns : List String}, PySem.W.kitAny K (.type t) (ns.map Value.type) = PySem.W.kitAny K' (.type t) (ns.map Value.type)
  | [] => rfl
  | n :: ns => by
    have ih := kitAny_ty (K := K) (K' := K') (t := t) (ns := ns)
    rw [List.map_cons]
    unfold PySem.W.kitAny
    rw [ih]
    rfl
theorem Lk.tyX {K : PySem.W.Frag} {B H : Hp} {v : V} {d : D} (s : Same B H) (h : Lk K B H v d) (ho : tyName d ≠ "?") : TyX K H v (.type (tyName d)) := by
  cases d with
  | lst ds => obtain ⟨a, vs, rfl, e, r⟩ := h; exact .base (.lst e)
  | dic ds => obtain ⟨a, vs, rfl, e, r⟩ := h; exact .base (.dK e)
  | tup ds =>
    obtain ⟨a, vs, rfl, e, r⟩ := h.rep_tup
    rcases seqT_mono s e with (h | ⟨o, h⟩) | ⟨o, its, n, hk, hc, _⟩
    · exact .base (.tup h)
    · exact .fTuple h
    · exact .kTuple hk hc
  | non => obtain rfl := h.non_of; exact .base .non
  | bl b => obtain rfl := h.bl_of; exact .base (.bl b)
  | int b => obtain rfl := h.int_of; exact .base (.int b)
  | str b => obtain rfl := h.str_of; exact .base (.str b)
  | obj c fs => exact absurd rfl ho
  | exn a dx c fs => exact absurd rfl ho
  | scr ns =>
    cases (show Rep K B v (.scr _) from h) with
    | scr h1 =>
      rcases Same.seq s h1 with (h | ⟨o, h⟩) | ⟨o, its, n, hk, hc, _⟩
      · exact .base (.lst h)
      · exact .base (.frz h)
      · exact .kList hk hc
variable {own : List Nat} {a : Expr} {fa : FE} {pos p p1 p2 p3 : Pos}
/-- a tuple of written built-in types -/
theorem pa_types {X : Cx} {W : WX} : ∀ (ns : List (String × Str × Pos)), (∀ n ∈ ns, Gl X n.2.1 ∧ X.mg n.2.1 = none ∧ bootBuiltins n.2.1 = some (.type n.1) ∧ n.2.1 ≠ "__name__" ∧ (n.2.1 == ("__debug__" : Str)) = false) →
    PA X (ns.map fun n => Expr.Name n.2.1 n.2.2) fun _ H Q => Q (ns.map fun n => V.ty n.1) H
  | [], _ => pa_nil
  | n :: ns, h => by
    obtain ⟨h1, h2, h3, h4, h5⟩ := h n List.mem_cons_self
    have ih := pa_types (X := X) (W := W) ns fun m hm => h m (List.mem_cons_of_mem _ hm)
    exact pa_cons (pe_bltn (v := .ty n.1) h1 h2 h3 rfl h4 h5) ih
theorem ve_isT {k : Nat} (ns : List (String × Str × Pos)) (hg : kdOf S.sc "isinstance" = some .globalImplicit) (hm : S.mg "isinstance" = none)
    (hn : ∀ n ∈ ns, kdOf S.sc n.2.1 = some .globalImplicit ∧ S.mg n.2.1 = none ∧ bootBuiltins n.2.1 = some (.type n.1) ∧ n.2.1 ≠ "__name__" ∧ (n.2.1 == ("__debug__" : Str)) = false) (hl : ns.length ≤ 8) (ha : VE S own .lk a fa)
    (he : ∀ X : Cx, starEach [a, .Tuple (ns.map fun n => Expr.Name n.2.1 n.2.2) k p2] X.env = (false, eval a X.env) :: starEach [.Tuple (ns.map fun n => Expr.Name n.2.1 n.2.2) k p2] X.env := by intro _; rfl) :
    VE S own .sh (.Call (.Name "isinstance" p) [a, .Tuple (ns.map fun n => Expr.Name n.2.1 n.2.2) k p2] [] pos) (f1 (isTy (ns.map (·.1))) fa) := by
  obtain ⟨ta, a1, a2⟩ := ha
  refine ⟨tCB (rIsiT S.K) (tCons ta (tCons (tTup fun _ H Q => Q (ns.map fun n => V.ty n.1) H) tNil)), fun X g => ?_, fun B0 H0 ρ σ B H Q I p => ?_⟩
  · have q := pa_types (X := X) (W := S.W) ns fun n h => by
      obtain ⟨h1, h2, h3⟩ := hn n h
      exact ⟨g.gl h1, g.mgx h2, h3⟩
    rw [← g.hK]
    exact pe_callB call_isiT (g.gl hg) (g.mgx hm) PyProof.Rows.boot_isinstance (pa_cons (a1 X g) (pa_cons (pe_tup q) pa_nil) (he X)) (by decide) (by decide) (he X) rfl
  · refine a2 B0 H0 ρ σ B H _ I (Post.seq anti_res p fun d v B1 H1 e1 s1 r1 p1 => ?_)
    refine ⟨by rw [List.length_map, sizeLine_eq]; omega, fun q n => ?_⟩
    have ho : tyName d ≠ "?" := by
      intro z
      cases d <;> first | exact p1 | (exfalso; revert z; simp [tyName]; done)
    have ty := Lk.tyX s1.sub r1 ho
    have s2 : Step S.T B1 H1 B1 (upd H1 q (.tup (ns.map fun n => V.ty n.1))) := .own s1.sub n
    have ty2 := Lk.tyX s2.sub (Lk.step r1 s2) ho
    have e : isTy (ns.map (·.1)) d = (match PySem.W.kitAny [] (.type (tyName d)) ((ns.map (·.1)).map Value.type) with
      | some b => .ok (.bl b)
      | none => .bad) := by cases d <;> first | rfl | exact absurd rfl ho
    have p2 : Post S.T S.K S.W (Res .sh S.K) σ B1 H1 (isTy (ns.map (·.1)) d) Q := p1
    rw [e] at p2
    cases kb : PySem.W.kitAny [] (.type (tyName d)) ((ns.map (·.1)).map Value.type) with
    | none => rw [kb] at p2; exact p2.elim
    | some b =>
      rw [kb] at p2
      have pc : ∀ l : List (String × Str × Pos), Paired ClsV (l.map fun n => V.ty n.1) ((l.map (·.1)).map Value.type) := fun l => by
        induction l with
        | nil => exact .nil
        | cons n l ih => exact .cons (.ty _) ih
      refine ⟨v, q, _, _, _, b, rfl, upd_same, pc ns, ty2, ?_, p2 _ B1 _ s2 (.bl b)⟩
      rw [← kb]
      exact kitAny_ty
theorem ve_is1 {n : String} {x : Str} (hg : kdOf S.sc "isinstance" = some .globalImplicit) (hm : S.mg "isinstance" = none)
    (hx : kdOf S.sc x = some .globalImplicit) (hmx : S.mg x = none) (hv : bootBuiltins x = some (.type n)) (hn : x ≠ "__name__") (hd : (x == ("__debug__" : Str)) = false) (ha : VE S own .lk a fa)
    (he : ∀ X : Cx, starEach [a, .Name x p2] X.env = (false, eval a X.env) :: starEach [.Name x p2] X.env := by intro _; rfl) :
    VE S own .sh (.Call (.Name "isinstance" p) [a, .Name x p2] [] pos) (f1 (isTy [n]) fa) := by
  obtain ⟨ta, a1, a2⟩ := ha
  refine ⟨tCB (rIsi S.K) (tCons ta (tCons (tC (.ty n)) tNil)), fun X g => ?_, fun B0 H0 ρ σ B H Q I p => ?_⟩
  · rw [← g.hK]
    exact pe_callB call_isi (g.gl hg) (g.mgx hm) PyProof.Rows.boot_isinstance (pa_cons (a1 X g) (pa_cons (pe_bltn (v := .ty n) (g.gl hx) (g.mgx hmx) hv rfl hn hd) pa_nil) (he X)) (by decide) (by decide) (he X) rfl
  · refine a2 B0 H0 ρ σ B H _ I (Post.seq anti_res p fun d v B1 H1 e1 s1 r1 p1 => ?_)
    have ho : tyName d ≠ "?" := by
      intro z
      cases d <;> first | exact p1 | (exfalso; revert z; simp [tyName]; done)
    have ty := Lk.tyX s1.sub r1 ho
    have e : isTy [n] d = (match PySem.W.kitAny [] (.type (tyName d)) ([n].map Value.type) with
      | some b => .ok (.bl b)
      | none => .bad) := by cases d <;> first | rfl | exact absurd rfl ho
    have p2 : Post S.T S.K S.W (Res .sh S.K) σ B1 H1 (isTy [n] d) Q := p1
    rw [e] at p2
    cases kb : PySem.W.kitAny [] (.type (tyName d)) ([n].map Value.type) with
    | none => rw [kb] at p2; exact p2.elim
    | some b =>
      rw [kb] at p2
      refine ⟨v, _, _, _, b, rfl, .ty n, ty, ?_, p2 _ B1 _ (.refl s1.sub) (.bl b)⟩
      have kb' : PySem.W.kitAny S.K (.type (tyName d)) [Value.type n] = some b := by
        rw [← kb]; exact kitAny_ty (ns := [n])
      unfold PySem.W.kitAny at kb'
      cases ko : PySem.W.kitOne S.K (.type (tyName d)) (.type n) with
      | none => rw [ko] at kb'; cases kb'
      | some b1 =>
        rw [ko] at kb'
        cases b1 with
        | true => exact kb'
        | false => exact kb'
end
end T2
end
section
set_option maxRecDepth 100000
set_option maxHeartbeats 1000000
namespace T2
open PySem PySem.Spec L2

/-! ### what is walked -/
def SrcOk (K : PySem.W.Frag) (B1 : Hp) (J : It) (ds : List D) : Prop :=
  ∃ (G : Hp → Prop) (Y : Nat → Hp → V → Hp → Prop), Walk J ds.length G Y ∧ (∀ H, Same B1 H → G H) ∧
    ∀ i H x H' B, i < ds.length → Same B1 B → Same B H → Y i H x H' → ∃ B' d, (∀ T : Tb, Step T B H B' H') ∧ ds[i]? = some d ∧ Rep K B' x d
def relI (K : PySem.W.Frag) : ERel (List D) It := fun B' _ _ J ds => SrcOk K B' J ds
theorem anti_relI {T : Tb} {K : PySem.W.Frag} : Anti T (relI K) := fun _ _ _ _ _ _ _ h => h
theorem src_list {K : PySem.W.Frag} {B : Hp} {a : Addr} {vs : List V} {ds : List D} (h : SqL K B a vs) (r : RepAll K B vs ds) : SrcOk K B (Itl K a) ds := by
  refine ⟨_, _, by rw [← r.length]; exact walk_list (xs := vs), fun H s => Same.seq s h, fun i H x H' B' hi s1 s2 y => ?_⟩
  obtain ⟨rfl, y⟩ := y
  obtain ⟨d, h1, h2⟩ := r.get' y
  exact ⟨B', d, fun _ => .refl s2, h1, h2.mono s1⟩
theorem src_tup {K : PySem.W.Frag} {B : Hp} {a : Addr} {vs : List V} {ds : List D} (h : SqT K B a vs) (r : RepAll K B vs ds) : SrcOk K B (Itt K a) ds := by
  refine ⟨_, _, by rw [← r.length]; exact walk_tup (xs := vs), fun H s => seqT_mono s h, fun i H x H' B' hi s1 s2 y => ?_⟩
  obtain ⟨rfl, y⟩ := y
  obtain ⟨d, h1, h2⟩ := r.get' y
  exact ⟨B', d, fun _ => .refl s2, h1, h2.mono s1⟩
def signs (z : Str) : List D := z.cps.toList.map fun c => .str ⟨#[c]⟩
theorem src_str {K : PySem.W.Frag} {B : Hp} {z : Str} : SrcOk K B (Its z) (signs z) := by
  refine ⟨_, _, by rw [show (signs z).length = z.cps.size by simp [signs]]; exact walk_str (z := z), fun H _ => trivial, fun i H x H' B' hi s1 s2 y => ?_⟩
  obtain ⟨rfl, c, h, rfl⟩ := y
  refine ⟨B', .str ⟨#[c]⟩, fun _ => .refl s2, ?_, .str _⟩
  unfold signs
  rw [List.getElem?_map, show z.cps.toList[i]? = some c by simpa using h]
  rfl
def nums (lo : Int) (n : Nat) : List D := (List.range n).map fun i => .int (lo + (i : Nat))
theorem src_range {K : PySem.W.Frag} {B : Hp} {lo : Int} {n : Nat} : SrcOk K B (Itr lo n) (nums lo n) := by
  refine ⟨_, _, by rw [show (nums lo n).length = n by simp [nums]]; exact walk_range (lo := lo) (n := n), fun H _ => trivial, fun i H x H' B' hi s1 s2 y => ?_⟩
  obtain ⟨rfl, rfl⟩ := y
  have hi' : i < n := by simpa [nums] using hi
  refine ⟨B', .int (lo + (i : Nat)), fun _ => .refl s2, ?_, .int _⟩
  unfold nums
  rw [List.getElem?_map, List.getElem?_range hi']
  rfl

def VI (S : Sg) (own : List Nat) (tg e : Expr) (f : FA) : Prop :=
  ∃ wi : TI, (∀ X, Good S X → PI X tg e wi) ∧ ∀ B0 H0 ρ σ B H Q, TInv S.T S.K B0 H0 own ρ σ B H → Post S.T S.K S.W (relI S.K) σ B H (f ρ) Q → wi σ H Q
section
variable {X : Cx} {tg e : Expr} {te : TE}
def iAny (K : PySem.W.Frag) (te : TE) : TI := fun σ H R => te σ H fun x H1 => (∃ a xs, x = .ref a ∧ SqL K H1 a xs ∧ R (Itl K a) H1) ∨ (∃ a xs, x = .ref a ∧ SqT K H1 a xs ∧ R (Itt K a) H1) ∨ ∃ z, x = .str z ∧ R (Its z) H1
theorem pi_any (he : PE X e te) : PI X tg e (iAny X.K te) := by
  refine ⟨fun pins s σ H R I h => thn (he.run pins s σ H _ I h) fun v s1 hh => ?_⟩
  obtain ⟨x, H1, I1, r1, q⟩ := hh
  rcases q with ⟨a, xs, rfl, hx, q⟩ | ⟨a, xs, rfl, hx, q⟩ | ⟨z, rfl, q⟩
  · cases r1
    obtain ⟨its, _, pl, _⟩ := I1.list hx
    exact wpAny_pyIter_list pl.isList (pi_one (tk := s1.toks) I1 _ (turn_list a _) ⟨_, Heap.get?_push_size _ rfl, rfl, rfl⟩ q)
  · cases r1
    obtain ⟨its, _, pl, _⟩ := I1.tuple hx
    exact wpAny_pyIter_tuple (show s1.heap.IsTuple a its.toArray from pl) (pi_one (tk := s1.toks) I1 _ (turn_tuple a _) ⟨_, Heap.get?_push_size _ rfl, rfl, rfl⟩ q)
  · obtain ⟨t, rfl⟩ := r1
    cases ha : z.cps.all (· < 128) with
    | false =>
      exact PySem.wpAny_pyIter_wide ha (pi_one (tk := s1.toks) I1 _ (turn_str _ z t "str_iterator" (.inr rfl)) ⟨_, Heap.get?_push_size _ rfl, rfl, rfl⟩ q)
    | true =>
      exact PySem.wpAny_pyIter_ascii ha (pi_one (tk := s1.toks) I1 _ (turn_str _ z t "str_ascii_iterator" (.inl rfl)) ⟨_, Heap.get?_push_size _ rfl, rfl, rfl⟩ q)
end
def seqOf : D → R (List D)
  | .lst xs => .ok xs
  | .tup xs => .ok xs
  | .scr ns => .ok (ns.map D.int)
  | .str z => .ok (signs z)
  | _ => .bad
def fSeq (f : FE) : FA := fun ρ => (f ρ).bind seqOf
section
variable {S : Sg} {own : List Nat} {tg e a b : Expr} {es : List Expr} {f fa fb : FE} {fs : FA} {p pos : Pos}
theorem vi_seq (h : VE S own .sh e f) : VI S own tg e (fSeq f) := by
  obtain ⟨te, h1, h2⟩ := h
  refine ⟨iAny S.K te, fun X g => by rw [← g.hK]; exact pi_any (h1 X g), fun B0 H0 ρ σ B H Q I p => ?_⟩
  refine h2 B0 H0 ρ σ B H _ I (Post.seq anti_relI p fun d v B1 H1 e1 s1 r1 p1 => ?_)
  have r1 : Rep S.K B1 v d := r1
  cases r1 with
  | lst h r => exact .inl ⟨_, _, rfl, SqL.of (s1.sub _ _ h), p1 _ B1 H1 (.refl s1.sub) (src_list (SqL.of h) r)⟩
  | tup h r => exact .inr (.inl ⟨_, _, rfl, seqT_mono s1.sub h, p1 _ B1 H1 (.refl s1.sub) (src_tup h r)⟩)
  | scr h => exact .inl ⟨_, _, rfl, Same.seq s1.sub h, p1 _ B1 H1 (.refl s1.sub) (src_list h RepAll.ints)⟩
  | str z => exact .inr (.inr ⟨_, rfl, p1 _ B1 H1 (.refl s1.sub) src_str⟩)
  | _ => exact p1.elim
def rangeD : List D → R (List D)
  | [.int j] => if -(2 ^ 62) ≤ j ∧ j < 2 ^ 62 then .ok (nums 0 j.toNat) else .bad
  | [.int i, .int j] => if -(2 ^ 62) ≤ i ∧ i < 2 ^ 62 ∧ -(2 ^ 62) ≤ j ∧ j < 2 ^ 62 then .ok (nums i (j - i).toNat) else .bad
  | _ => .bad
def fRng (f : FA) : FA := fun ρ => (f ρ).bind rangeD
theorem LkAll.two {K : PySem.W.Frag} {B H : Hp} {vs : List V} {d d2 : D} (h : LkAll K B H vs [d, d2]) : ∃ v w, vs = [v, w] ∧ Lk K B H v d ∧ Lk K B H w d2 := by
  cases h with
  | cons h r => cases r with
    | cons h2 r => cases r; exact ⟨_, _, rfl, h, h2⟩
theorem vi_range1 (hg : kdOf S.sc "range" = some .globalImplicit) (hm : S.mg "range" = none) (ha : VA S own .lk [a] fs) (hn : ∀ ρ ds, fs ρ = .ok ds → ds.length = 1) (hs : ∀ X : Cx, starEach [a] X.env = [(false, eval a X.env)] := by intro _; rfl) : VI S own tg (.Call (.Name "range" p) [a] [] pos) (fRng fs) := by
  obtain ⟨t, h1, h2⟩ := ha
  refine ⟨_, fun X g => pi_range1 (g.gl hg) (g.mgx hm) (h1 X g) (hs X), fun B0 H0 ρ σ B H Q I p => ?_⟩
  refine h2 B0 H0 ρ σ B H _ I (Post.seq anti_relI p fun ds vs B1 H1 e1 s1 r1 p1 => ?_)
  have hl := hn ρ ds e1
  unfold rangeD at p1
  split at p1
  · rename_i j
    split at p1
    · rename_i hz
      obtain ⟨v, rfl, hv⟩ := LkAll.one r1
      obtain rfl := hv.int_of
      exact ⟨j, rfl, hz.1, hz.2, p1 _ B1 H1 (.refl s1.sub) src_range⟩
    · exact p1.elim
  · simp at hl
  · exact p1.elim
theorem vi_range2 (hg : kdOf S.sc "range" = some .globalImplicit) (hm : S.mg "range" = none) (ha : VA S own .lk [a, b] fs) (hn : ∀ ρ ds, fs ρ = .ok ds → ds.length = 2) (hs : ∀ X : Cx, starEach [a, b] X.env = [(false, eval a X.env), (false, eval b X.env)] := by intro _; rfl)
    (hs2 : ∀ X : Cx, starEach [b] X.env = [(false, eval b X.env)] := by intro _; rfl) : VI S own tg (.Call (.Name "range" p) [a, b] [] pos) (fRng fs) := by
  obtain ⟨t, h1, h2⟩ := ha
  refine ⟨_, fun X g => pi_range2 (g.gl hg) (g.mgx hm) (h1 X g) (hs X) (hs2 X), fun B0 H0 ρ σ B H Q I p => ?_⟩
  refine h2 B0 H0 ρ σ B H _ I (Post.seq anti_relI p fun ds vs B1 H1 e1 s1 r1 p1 => ?_)
  have hl := hn ρ ds e1
  unfold rangeD at p1
  split at p1
  · simp at hl
  · rename_i i j
    split at p1
    · rename_i hz
      obtain ⟨v, w, rfl, hv, hw⟩ := LkAll.two r1
      obtain rfl := hv.int_of
      obtain rfl := hw.int_of
      exact ⟨i, j, rfl, hz, p1 _ B1 H1 (.refl s1.sub) src_range⟩
    · exact p1.elim
  · exact p1.elim
theorem len_nil : ∀ (ρ : Rho) ds, fNil ρ = .ok ds → ds.length = 0 := fun _ ds h => by cases h; rfl
theorem len_cons {n : Nat} (h : ∀ ρ ds, fs ρ = .ok ds → ds.length = n) : ∀ (ρ : Rho) ds, fCons f fs ρ = .ok ds → ds.length = n + 1 := fun ρ ds e => by
  unfold fCons at e
  cases q : f ρ with
  | ok d =>
    rw [q] at e
    cases q2 : fs ρ with
    | ok es =>
      rw [R.bind_ok, q2] at e
      cases e
      rw [List.length_cons, h ρ es q2]
    | exc c l => rw [R.bind_ok, q2] at e; cases e
    | bad => rw [R.bind_ok, q2] at e; cases e
  | exc c l => rw [q] at e; cases e
  | bad => rw [q] at e; cases e
end

/-! ### comprehensions -/
def Sg.blk (S : Sg) (scope : Scope) : Sg := { S with sc := relS scope S.sc, W := fun _ _ _ _ => False, top := false, sus := none, hasC := false, mine := fun x => scope.names.lookup x == some .cell }
theorem Good.blk {S : Sg} {X : Cx} (g : Good S X) (scope : Scope) (s : Shared) (H : Hp) (C : Addr) (cl : List (Str × Addr)) (fp : List Addr) : Good (S.blk scope) (X.blk s H scope (compEnvC scope cl C X.env) fp) where
  hP := g.hP
  hw := g.hw
  hK := g.hK
  hm := g.hm
  hb := g.hb
  hN := g.hN
  kd := by
    show relS scope X.env.scope = relS scope S.sc
    rw [g.kd]
  hc := g.hc
  rm := g.rm
  un := g.un
  su := fun q h => nomatch h
  tk := takes0
  nd := g.nd
  fn := fun _ h => h
  po := PassesOwn.never
  cq := fun h => nomatch h
  tp := fun h => nomatch h
/-- the tests of a clause -/
def VTs (S : Sg) (own : List Nat) (ifs : List Expr) (f : FT) : Prop :=
  ∃ t : TT, (∀ X, Good S X → PTs X ifs t) ∧ ∀ B0 H0 ρ σ B H Q, TInv S.T S.K B0 H0 own ρ σ B H → Post S.T S.K S.W relB σ B H (f ρ) Q → t σ H Q
def fYes : FT := fun _ => .ok true
theorem vts_nil {S : Sg} {own : List Nat} : VTs S own [] fYes := ⟨_, fun X _ => pts_nil, fun _ _ _ _ _ _ _ I p => p _ _ _ (.refl I.sub) rfl⟩
theorem vts_one {S : Sg} {own : List Nat} {c : Expr} {ft : FT} (h : VT S own c ft) : VTs S own [c] ft := by
  obtain ⟨t, h1, h2⟩ := h
  exact ⟨t, fun X g => pts_one (h1 X g), h2⟩
def R.safe {α : Type} : R α → R α
  | .ok a => .ok a
  | _ => .bad
def compL (i : Nat) (t : FT) (g : FE) (ρ : Rho) : List D → R (List D)
  | [] => .ok []
  | d :: ds => (t (ρ.set i (some d))).safe.bind fun b => if b then (g (ρ.set i (some d))).safe.bind fun y => (compL i t g ρ ds).bind fun ys => .ok (y :: ys) else compL i t g ρ ds
def fComp (i : Nat) (src : FA) (t : FT) (g : FE) : FE := fun ρ => (src ρ).bind fun ds => if ds.length ≤ sizeLine then (compL i t g ρ ds).bind fun ys => .ok (.lst ys) else .bad
theorem TInv.at1 {T : Tb} {K : PySem.W.Frag} {B0 H0 B H : Hp} {own : List Nat} {ρ : Rho} {σ : St} {i : Nat} {d : D} {v : V} (I : TInv T K B0 H0 own ρ σ B H) (hi : i ∉ own) (r : Rep K B v d) : TInv T K B0 H0 own (ρ.set i (some d)) (σ.set i (some v)) B H :=
  (I.put r).congr fun k => by
    simp only [List.mem_filter, decide_eq_true_eq]
    exact ⟨fun h => h.1, fun h => ⟨h, fun z => hi (z ▸ h)⟩⟩
theorem lc_sound {S : Sg} {own : List Nat} {i : Nat} {wi : TI} {tt : TT} {te : TE} {src : FA} {ft : FT} {g : FE} {scope : Scope} (hi : i ∉ own)
    (h1 : ∀ B0 H0 ρ σ B H Q, TInv S.T S.K B0 H0 own ρ σ B H → Post S.T S.K S.W (relI S.K) σ B H (src ρ) Q → wi σ H Q)
    (h2 : ∀ B0 H0 ρ σ B H Q, TInv S.T S.K B0 H0 own ρ σ B H → Post S.T S.K (S.blk scope).W relB σ B H (ft ρ) Q → tt σ H Q)
    (h3 : ∀ B0 H0 ρ σ B H Q, TInv S.T S.K B0 H0 own ρ σ B H → Post S.T S.K (S.blk scope).W (Res .sh S.K) σ B H (g ρ) Q → te σ H Q)
    {B0 H0 ρ σ B H Q} (I : TInv S.T S.K B0 H0 own ρ σ B H) (p : Post S.T S.K S.W (Res .fr S.K) σ B H (fComp i src ft g ρ) Q) : tLc wi (gName i) tt te [i] σ H Q := by
  refine h1 B0 H0 ρ σ B H _ I (Post.seq anti_res p fun ds J B1 H1 e1 s1 r1 p1 => ?_)
  intro L hL
  split at p1
  · rename_i hz
    obtain ⟨G, Y, wk, hG, hY⟩ := r1
    have I1 := I.step s1
    have hbL : B1 L = none := s1.sub.free hL
    refine lc_it wk (fun k H => ∃ B vs ys, Step S.T B1 H1 B H ∧ B L = none ∧ H L = some (.lst vs) ∧ RepAll S.K B vs ys ∧ vs.length ≤ k ∧ compL i ft g ρ ds = (compL i ft g ρ (ds.drop k)).bind fun zs => .ok (ys ++ zs))
      ⟨B1, [], [], .own s1.sub hL, hbL, upd_same, .nil, Nat.zero_le _, by
        rw [List.drop_zero]
        cases compL i ft g ρ ds with
        | ok zs => rfl
        | exc c fs => rfl
        | bad => rfl⟩ (fun k H hk ⟨B, vs, ys, s, _⟩ => hG H (s.bb.trans s.sub)) (fun k x H H' hk ⟨B, vs, ys, s, nL, eL, rv, lv, ec⟩ y => ?_) (fun H ⟨B, vs, ys, s, nL, eL, rv, lv, ec⟩ => ?_)
    · obtain ⟨B', d, s', hd, rd⟩ := hY k H x H' B hk s.bb s.sub y
      have s' := s' S.T
      have drop : ds.drop k = d :: ds.drop (k + 1) := by
        rw [List.drop_eq_getElem_cons hk]
        congr 1
        exact (List.getElem?_eq_some_iff.mp hd).2
      rw [drop] at ec
      have J1 : TInv S.T S.K B0 H0 own (ρ.set i (some d)) (σ.set i (some x)) B' H' := ((I1.step s).step s').at1 hi rd
      show wipe (((wipe σ [i]).set i (some x))) [i] = wipe σ [i] ∧ tt ((wipe σ [i]).set i (some x)) H' _
      have ew : (wipe σ [i]).set i (some x) = σ.set i (some x) := by
        show (σ.set i none).set i (some x) = _
        rw [List.set_set]
      rw [ew]
      refine ⟨by show (σ.set i (some x)).set i none = σ.set i none; rw [List.set_set], ?_⟩
      obtain ⟨nL', eL'⟩ := s'.none_of nL eL
      refine h2 B0 H0 _ _ B' H' _ J1 ?_
      simp only [compL] at ec
      cases q : ft (ρ.set i (some d)) with
      | exc c fs => rw [q] at ec; rw [ec] at p1; exact p1.elim
      | bad => rw [q] at ec; rw [ec] at p1; exact p1.elim
      | ok b =>
        rw [q] at ec
        intro b' B2 H2 s2 eb
        obtain rfl : b' = b := eb
        obtain ⟨nL2, eL2⟩ := s2.none_of nL' eL'
        cases b' with
        | false =>
          refine iteF ⟨B2, vs, ys, (s.trans s').trans s2, nL2, eL2, (rv.mono s'.bb).mono s2.bb, Nat.le_succ_of_le lv, ec⟩
        | true =>
          refine iteT (h3 B0 H0 _ _ B2 H2 _ (J1.step s2) ?_)
          simp only [R.safe, R.bind_ok, if_true] at ec
          cases q3 : g (ρ.set i (some d)) with
          | exc c fs => rw [q3] at ec; rw [ec] at p1; exact p1.elim
          | bad => rw [q3] at ec; rw [ec] at p1; exact p1.elim
          | ok yd =>
            rw [q3] at ec
            intro yv B3 H3 s3 ry
            obtain ⟨nL3, eL3⟩ := s3.none_of nL2 eL2
            have st := ((s.trans s').trans s2).trans s3
            refine ⟨vs, eL3, Nat.lt_of_lt_of_le (Nat.lt_of_le_of_lt lv hk) hz, B3, vs ++ [yv], ys ++ [yd], ⟨st.bb, fun b o e => ?_, st.hh.upd hL eL3 (.inl ⟨_, rfl⟩), st.no⟩, nL3, upd_same, (((rv.mono s'.bb).mono s2.bb).mono s3.bb).append (.cons ry .nil), by simp; exact lv, ?_⟩
            · rw [upd_ne (fun z => by rw [z, nL3] at e; cases e)]
              exact st.sub b o e
            · rw [ec]
              simp only [R.bind_ok]
              cases compL i ft g ρ (ds.drop (k + 1)) with
              | ok zs => simp only [R.bind_ok, List.append_assoc, List.singleton_append]
              | exc c fs => rfl
              | bad => rfl
    · rw [List.drop_length] at ec
      simp only [compL, R.bind_ok, List.append_nil] at ec
      rw [ec] at p1
      exact p1 _ B H s ⟨L, rfl, hL, nL, vs, eL, rv⟩
  · exact p1.elim
section
variable {S : Sg} {own : List Nat} {i : Nat} {elt iter : Expr} {x : Str} {tp pos : Pos} {ifs : List Expr} {scope : Scope} {src : FA} {ft : FT} {g : FE}
/-- how the clause's own name is stored -/
def ownB (scope : Scope) (sc : Scope) (x : Str) : Bool := match (relS scope sc).names.lookup x with
  | some .local => true
  | some .cell => scope.names.lookup x == some .cell
  | _ => false
theorem blk_target {X : Cx} (g : Good S X) (hN : S.N[i]? = some x) (ho : ownB scope S.sc x = true) (s : Shared) (H : Hp) (C : Addr) (cl : List (Str × Addr)) (fp : List Addr) : PG (X.blk s H scope (compEnvC scope cl C X.env) fp) (.Name x tp) (gName i) := by
  have g' := g.blk scope s H C cl fp
  have k : (X.blk s H scope (compEnvC scope cl C X.env) fp).env.scope = relS scope S.sc := g'.kd
  unfold ownB at ho
  cases q : (relS scope S.sc).names.lookup x with
  | none => rw [q] at ho; cases ho
  | some kk =>
    rw [q] at ho
    have q2 : (X.blk s H scope (compEnvC scope cl C X.env) fp).env.scope.names.lookup x = some kk := by rw [k]; exact q
    cases kk with
    | «local» => exact pg_name (by show X.N.Nodup; rw [g.hN]; exact g.nd) (g.nx hN) (.inl q2) (.inr q2)
    | cell => exact pg_name (by show X.N.Nodup; rw [g.hN]; exact g.nd) (g.nx hN) (.inr q2) (.inl ho)
    | _ => cases ho
theorem ve_comp (hc : S.calm = true) (hi : i ∉ own) (hN : S.N[i]? = some x) (ho : ownB scope S.sc x = true) (hb : blkC S.N S.sc scope [(x, i)] = true) (hs : VI S own (.Name x tp) iter src)
    (ht : VTs (S.blk scope) own ifs ft) (he : VE (S.blk scope) own .sh elt g) (hf : ∀ (X : Cx) y, foldedSetIterable iter X.env y = pure y := by intro _ _; rfl) :
    VE S own .fr (.ListComp elt [⟨.Name x tp, iter, ifs, 0⟩] scope pos) (fComp i src ft g) := by
  obtain ⟨wi, a1, a2⟩ := hs
  obtain ⟨tt, b1, b2⟩ := ht
  obtain ⟨te, c1, c2⟩ := he
  refine ⟨tLc wi (gName i) tt te [i], fun X gd => ?_, fun B0 H0 ρ σ B H Q I p => lc_sound (scope := scope) hi a2 b2 c2 I p⟩
  have ok : BlkOk X.N X.env.scope scope [(x, i)] := by rw [gd.hN, gd.kd]; exact blkOk_by hb
  exact pe_lc (own := [(x, i)]) (gd.calm hc) (by rw [gd.hN]; exact gd.nd) (a1 X gd) ok (fun s H C cl fp => blk_target gd hN ho s H C cl fp) (fun s H C cl fp => b1 _ (gd.blk scope s H C cl fp)) (fun s H C cl fp => c1 _ (gd.blk scope s H C cl fp)) (hf X)
end
end T2
end
section
set_option maxRecDepth 100000
set_option maxHeartbeats 1000000
namespace T2
open PySem PySem.Spec L2

/-- how a statement ends -/
inductive Fl where
  | nx (ρ : Rho) | ct (ρ : Rho) | bk (ρ : Rho) | ret (d : D) | exc (c : Str) (fs : List (Str × D)) (ρ : Rho) | bad
abbrev FS := Rho → Fl
def PostS (T : Tb) (K : PySem.W.Frag) (W : WX) (mR : Md) (own' ownL : List Nat) (B0 H0 : Hp) (D : Ends) (r : Fl) : Prop := match r with
  | .nx ρ => ∀ σ B H, TInv T K B0 H0 own' ρ σ B H → D.nx σ H
  | .ct ρ => ∀ σ B H, TInv T K B0 H0 ownL ρ σ B H → D.ct σ H
  | .bk ρ => ∀ σ B H, TInv T K B0 H0 ownL ρ σ B H → D.bk σ H
  | .ret d => ∀ v B H, Step T B0 H0 B H → Res mR K B H0 H v d → D.rt v H
  | .exc c fs ρ => ∀ cls dx σ B H, TInv T K B0 H0 [] ρ σ B H → ExcOk K B H cls dx c fs → W cls dx σ H
  | .bad => False
def VS (S : Sg) (mR : Md) (ownL own own' : List Nat) (sts : List Stmt) (F : FS) : Prop :=
  ∃ t : TS, (∀ X, Good S X → PSs X sts t) ∧ ∀ B0 H0 ρ σ B H D, TInv S.T S.K B0 H0 own ρ σ B H → PostS S.T S.K S.W mR own' ownL B0 H0 D (F ρ) → t D σ H
def V1 (S : Sg) (mR : Md) (ownL own own' : List Nat) (st : Stmt) (F : FS) : Prop :=
  ∃ t : TS, (∀ X, Good S X → PS X st t) ∧ ∀ B0 H0 ρ σ B H D, TInv S.T S.K B0 H0 own ρ σ B H → PostS S.T S.K S.W mR own' ownL B0 H0 D (F ρ) → t D σ H

section
variable {S : Sg} {mR : Md} {ownL own own1 own' : List Nat} {st : Stmt} {rest sts a b body : List Stmt} {F G : FS} {e c o ie : Expr} {f fk : FE} {ft : FT} {i : Nat} {x : Str} {pos p p2 pos' : Pos}

def sSkip : FS := fun ρ => .nx ρ
def sSeq (F G : FS) : FS := fun ρ => match F ρ with
  | .nx ρ' => G ρ'
  | r => r
theorem vs_nil' : VS S mR ownL own own [] sSkip := ⟨_, fun X _ => pss_nil, fun _ _ _ _ _ _ _ I p => p _ _ _ I⟩
theorem vs_seq (h1 : V1 S mR ownL own own1 st F) (h2 : VS S mR ownL own1 own' rest G) : VS S mR ownL own own' (st :: rest) (sSeq F G) := by
  obtain ⟨t, a1, a2⟩ := h1
  obtain ⟨u, b1, b2⟩ := h2
  refine ⟨_, fun X g => pss_cons (a1 X g) (b1 X g), fun B0 H0 ρ σ B H D I p => a2 B0 H0 ρ σ B H _ I ?_⟩
  unfold sSeq at p
  cases q : F ρ with
  | nx ρ' => rw [q] at p; exact fun σ' B' H' I' => b2 B0 H0 ρ' σ' B' H' D I' p
  | ct ρ' => rw [q] at p; exact p
  | bk ρ' => rw [q] at p; exact p
  | ret d => rw [q] at p; exact p
  | exc c fs ρ' => rw [q] at p; exact p
  | bad => rw [q] at p; exact p
theorem vs_one' (h1 : V1 S mR ownL own own' st F) : VS S mR ownL own own' [st] F := by
  obtain ⟨t, a1, a2⟩ := h1
  exact ⟨t, fun X g => pss_one (a1 X g), a2⟩
/-- fewer slots are one's own from here on -/
theorem vs_give (h : ∀ i ∈ own1, i ∈ own) (hv : VS S mR ownL own1 own' sts F) : VS S mR ownL own own' sts F := by
  obtain ⟨t, a1, a2⟩ := hv
  refine ⟨t, a1, fun B0 H0 ρ σ B H D I p => ?_⟩
  obtain ⟨B2, _, I2⟩ := I.give h
  exact a2 B0 H0 ρ σ B2 H D I2 p
theorem v1_give (h : ∀ i ∈ own1, i ∈ own) (hv : V1 S mR ownL own1 own' st F) : V1 S mR ownL own own' st F := by
  obtain ⟨t, a1, a2⟩ := hv
  refine ⟨t, a1, fun B0 H0 ρ σ B H D I p => ?_⟩
  obtain ⟨B2, _, I2⟩ := I.give h
  exact a2 B0 H0 ρ σ B2 H D I2 p
theorem PostS.less {T : Tb} {K : PySem.W.Frag} {W : WX} {B0 H0 : Hp} {D : Ends} {r : Fl} (h : ∀ i ∈ own', i ∈ own1) (p : PostS T K W mR own' ownL B0 H0 D r) : PostS T K W mR own1 ownL B0 H0 D r := by
  cases r with
  | nx ρ =>
    intro σ B H I
    obtain ⟨B2, _, I2⟩ := I.give h
    exact p σ B2 H I2
  | _ => exact p
/-- .. at its end -/
theorem vs_less (h : ∀ i ∈ own', i ∈ own1) (hv : VS S mR ownL own own1 sts F) : VS S mR ownL own own' sts F := by
  obtain ⟨t, a1, a2⟩ := hv
  exact ⟨t, a1, fun B0 H0 ρ σ B H D I p => a2 B0 H0 ρ σ B H D I (p.less h)⟩
theorem v1_less (h : ∀ i ∈ own', i ∈ own1) (hv : V1 S mR ownL own own1 st F) : V1 S mR ownL own own' st F := by
  obtain ⟨t, a1, a2⟩ := hv
  exact ⟨t, a1, fun B0 H0 ρ σ B H D I p => a2 B0 H0 ρ σ B H D I (p.less h)⟩

/-- an expression's error leaves the statement -/
theorem exc_out {T : Tb} {K : PySem.W.Frag} {W : WX} {B0 H0 B H : Hp} {D : Ends} {ρ : Rho} {σ : St} {cn : Str} {fs : List (Str × T2.D)} (I : TInv T K B0 H0 own ρ σ B H) (p : PostS T K W mR own' ownL B0 H0 D (.exc cn fs ρ)) :
    ∀ cls dx B' H', Step T B H B' H' → ExcOk K B' H' cls dx cn fs → W cls dx σ H' := fun cls dx B' H' s q => by
  obtain ⟨B2, s2, I2⟩ := (I.step s).give (own' := []) (fun i h => by cases h)
  refine p cls dx σ B2 H' I2 ⟨q.1, ?_⟩
  rcases q.2 with h | ⟨d, vs, h1, h2, h3⟩
  · exact .inl h
  · exact .inr ⟨d, vs, h1, s2 _ _ h2, h3.mono s2⟩
/-- an expression, then something -/
def sDo (f : FE) (k : D → Rho → Fl) : FS := fun ρ => match f ρ with
  | .ok d => k d ρ
  | .exc c fs => .exc c fs ρ
  | .bad => .bad
theorem sDo_post {m : Md} {k : D → Rho → Fl} {B0 H0 B H : Hp} {D : Ends} {ρ : Rho} {σ : St} {Q : VK} (I : TInv S.T S.K B0 H0 own ρ σ B H) (p : PostS S.T S.K S.W mR own' ownL B0 H0 D (sDo f k ρ))
    (h : ∀ d v B1 H1, f ρ = .ok d → Step S.T B H B1 H1 → Res m S.K B1 H H1 v d → PostS S.T S.K S.W mR own' ownL B0 H0 D (k d ρ) → Q v H1) : Post S.T S.K S.W (Res m S.K) σ B H (f ρ) Q := by
  unfold sDo at p
  cases q : f ρ with
  | ok d => rw [q] at p; exact fun v B' H' s r => h d v B' H' q s r p
  | exc c fs => rw [q] at p; exact exc_out I p
  | bad => rw [q] at p; exact p
def sAsg (i : Nat) (f : FE) : FS := sDo f fun d ρ => .nx (ρ.set i (some d))
/-- the place of a name that this def stores -/
def locB (mine : Str → Bool) (sc : Scope) (x : Str) : Bool := match kdOf sc x with
  | some .local => true
  | some .cell => mine x
  | _ => false
theorem target {X : Cx} (g : Good S X) (hN : S.N[i]? = some x) (hl : locB S.mine S.sc x = true) : PG X (.Name x p) (gName i) := by
  unfold locB kdOf at hl
  cases q : S.sc.names.lookup x with
  | none => rw [q] at hl; cases hl
  | some kk =>
    rw [q] at hl
    have q2 : X.env.scope.names.lookup x = some kk := by rw [g.kd]; exact q
    cases kk with
    | «local» => exact pg_name (by rw [g.hN]; exact g.nd) (g.nx hN) (.inl q2) (.inr q2)
    | cell => exact pg_name (by rw [g.hN]; exact g.nd) (g.nx hN) (.inr q2) (.inl (g.fn x hl))
    | _ => cases hl
theorem s_asg (hN : S.N[i]? = some x) (hl : locB S.mine S.sc x = true) (he : VE S own .sh e f) (ho : own' = own.filter (· ≠ i)) (hs : ∀ X : Cx, swapsWithSole [.Name x p] e pos.line X.env = pure false := by intro _; rfl)
    (hw : ∀ X : Cx, swappedStores [.Name x p] e X.env = pure none := by intro _; rfl) (h1 : ∀ X : Cx, (assignEach [.Name x p] X.env).map (·.2) = [assign (.Name x p) X.env] := by intro _; rfl) : V1 S mR ownL own own' (.Assign [.Name x p] e pos) (sAsg i f) := by
  obtain ⟨t, a1, a2⟩ := he
  refine ⟨_, fun X g => ps_asg (a1 X g) (target g hN hl) (hs X) (hw X) (h1 X), fun B0 H0 ρ σ B H D I p => a2 B0 H0 ρ σ B H _ I (sDo_post I p fun d v B1 H1 _ s r p1 => ?_)⟩
  subst ho
  exact p1 _ _ _ ((I.step s).put r)
theorem s_asgOwn (hN : S.N[i]? = some x) (hl : locB S.mine S.sc x = true) (he : VE S own .fr e f) (ho : own' = i :: own.filter (· ≠ i)) (hs : ∀ X : Cx, swapsWithSole [.Name x p] e pos.line X.env = pure false := by intro _; rfl)
    (hw : ∀ X : Cx, swappedStores [.Name x p] e X.env = pure none := by intro _; rfl) (h1 : ∀ X : Cx, (assignEach [.Name x p] X.env).map (·.2) = [assign (.Name x p) X.env] := by intro _; rfl) : V1 S mR ownL own own' (.Assign [.Name x p] e pos) (sAsg i f) := by
  obtain ⟨t, a1, a2⟩ := he
  refine ⟨_, fun X g => ps_asg (a1 X g) (target g hN hl) (hs X) (hw X) (h1 X), fun B0 H0 ρ σ B H D I p => a2 B0 H0 ρ σ B H _ I (sDo_post I p fun d v B1 H1 _ s r p1 => ?_)⟩
  subst ho
  obtain ⟨a, rfl, n, o⟩ := r
  exact p1 _ _ _ (I.putOwn s n o)
/-- name = [..]: the name is stored within the comprehension -/
theorem s_setLc {k : Nat} {y : Str} {elt iter : Expr} {tp : Pos} {ifs : List Expr} {scope : Scope} {src : FA} {ft : FT} {g : FE} (hN : S.N[i]? = some x) (hl : kdOf S.sc x = some .local) (hK : S.sc.kind = .function) (hline : (p.line == p2.line) = true)
    (hsw : (scope.names.any fun (n, k) => n == x && (k == .local || k == .cell)) = false)
    (hc : S.calm = true) (hi : k ∉ own) (hNk : S.N[k]? = some y) (hok : ownB scope S.sc y = true) (hb : blkC S.N S.sc scope [(y, k)] = true) (hs : VI S own (.Name y tp) iter src)
    (ht : VTs (S.blk scope) own ifs ft) (he : VE (S.blk scope) own .sh elt g) (ho : own' = i :: own.filter (· ≠ i)) (hf : ∀ (X : Cx) y, foldedSetIterable iter X.env y = pure y := by intro _ _; rfl) :
    V1 S mR ownL own own' (.Assign [.Name x p] (.ListComp elt [⟨.Name y tp, iter, ifs, 0⟩] scope p2) pos) (sAsg i (fComp k src ft g)) := by
  obtain ⟨wi, a1, a2⟩ := hs
  obtain ⟨tt, b1, b2⟩ := ht
  obtain ⟨te, c1, c2⟩ := he
  refine ⟨tAsg (tLc wi (gName k) tt te [k]) (gName i), fun X gd => ?_, fun B0 H0 ρ σ B H D I p => lc_sound (scope := scope) hi a2 b2 c2 I (sDo_post I p fun d v B1 H1 _ s r p1 => ?_)⟩
  · have ok : BlkOk X.N X.env.scope scope [(y, k)] := by rw [gd.hN, gd.kd]; exact blkOk_by hb
    have hy : X.env.scope.names.lookup x = some .local := by rw [gd.kd]; exact hl
    exact ps_setLc (own := [(y, k)]) (gd.calm hc) (by rw [gd.hN]; exact gd.nd) (gd.nx hN) hy (sw_true (by rw [gd.kd]; exact hK) hy hline hsw) (a1 X gd) ok (fun s H C cl fp => blk_target gd hNk hok s H C cl fp) (fun s H C cl fp => b1 _ (gd.blk scope s H C cl fp)) (fun s H C cl fp => c1 _ (gd.blk scope s H C cl fp)) (hf X)
  · subst ho
    obtain ⟨a, rfl, n, o⟩ := r
    exact p1 _ _ _ (I.putOwn s n o)
def sRet (f : FE) : FS := sDo f fun d _ => .ret d
theorem s_ret (he : VE S own mR e f) : V1 S mR ownL own own' (.Return (some e) pos) (sRet f) := by
  obtain ⟨t, a1, a2⟩ := he
  refine ⟨_, fun X g => ps_ret (a1 X g), fun B0 H0 ρ σ B H D I p => a2 B0 H0 ρ σ B H _ I (sDo_post I p fun d v B1 H1 _ s r p1 => ?_)⟩
  exact p1 v B1 H1 (I.st.trans s) (anti_res _ _ _ _ _ _ I.st.hh r)
theorem s_retOwn (hN : S.N[i]? = some x) (hv : visB S.sc x = true) (hi : i ∈ own) (hd : (x == ("__debug__" : Str)) = false) (hcd : (x == ("__classdict__" : Str)) = false) : V1 S .fr ownL own own' (.Return (some (.Name x p)) pos) (sRet (fVar i)) := by
  refine ⟨tRet (tVar i), fun X g => ps_ret (pe_var (g.nx hN) (g.vis hv) hd hcd), fun B0 H0 ρ σ B H D I p => ?_⟩
  unfold sRet sDo fVar at p
  split at p
  · rename_i d e
    split at e
    · rename_i d' e'
      cases e
      obtain ⟨ad, h1, h2⟩ := I.ow
      obtain ⟨a, b, c⟩ := h1 i d hi e'
      exact ⟨_, a, p _ B H I.st ⟨ad i, rfl, b, c⟩⟩
    · cases e
  · rename_i e
    split at e <;> cases e
  · exact p.elim
def sRetN : FS := fun _ => .ret .non
theorem s_retN (h : mR ≠ .fr) : V1 S mR ownL own own' (.Return none pos) sRetN := by
  refine ⟨_, fun X g => ps_retN, fun B0 H0 ρ σ B H D I p => p .non B H I.st ?_⟩
  cases mR with
  | fr => exact absurd rfl h
  | sh => exact .non
  | lk => exact Rep.non
def sExp (f : FE) : FS := sDo f fun _ ρ => .nx ρ
theorem s_exp (he : VE S own .lk e f) (hs : ∀ X : Cx, swapsWith e none pos.line X.env = pure false := by intro _; rfl) : V1 S mR ownL own own (.Expr e pos) (sExp f) := by
  obtain ⟨t, a1, a2⟩ := he
  exact ⟨_, fun X g => ps_expr (a1 X g) (hs X), fun B0 H0 ρ σ B H D I p => a2 B0 H0 ρ σ B H _ I (sDo_post I p fun d v B1 H1 _ s r p1 => p1 _ _ _ (I.step s))⟩
theorem s_pass : V1 S mR ownL own own (.Pass pos) sSkip := ⟨_, fun X g => ps_pass, fun B0 H0 ρ σ B H D I p => p _ _ _ I⟩
def sBrk : FS := fun ρ => .bk ρ
def sCnt : FS := fun ρ => .ct ρ
theorem s_break (h : ∀ i ∈ ownL, i ∈ own) : V1 S mR ownL own own' (.Break pos) sBrk := ⟨_, fun X g => ps_break, fun B0 H0 ρ σ B H D I p => by
  obtain ⟨B2, _, I2⟩ := I.give h
  exact p _ _ _ I2⟩
theorem s_continue (h : ∀ i ∈ ownL, i ∈ own) : V1 S mR ownL own own' (.Continue pos) sCnt := ⟨_, fun X g => ps_continue, fun B0 H0 ρ σ B H D I p => by
  obtain ⟨B2, _, I2⟩ := I.give h
  exact p _ _ _ I2⟩

/-! ### one's own list changes -/
def sApp (i : Nat) (f : FE) : FS := fun ρ => match ρ[i]? with
  | some (some (.lst ds)) => sDo f (fun d ρ => if ds.length < sizeLine then .nx (ρ.set i (some (.lst (ds ++ [d])))) else .bad) ρ
  | _ => .bad
theorem s_append {ap cp : Pos} (hN : S.N[i]? = some x) (hv : visB S.sc x = true) (hi : i ∈ own) (hd : (x == ("__debug__" : Str)) = false) (hcd : (x == ("__classdict__" : Str)) = false) (he : VE S own .sh e f)
    (hfew : ∀ X : Cx, ((backTo cp (starEach (e :: []) X.env)).all (fun x => !x.1) && (backToKw cp (keywordEach [] X.env)).all (fun x => x.1.isSome)
      && decide ((e :: []).length + ([] : List Keyword).length + (if ([] : List Keyword).isEmpty then 0 else 1) < 30)) = true := by intro _; rfl)
    (hline : (ap.endLine == cp.line) = true := by rfl) (hs : ∀ X : Cx, starEach (e :: []) X.env = (false, eval e X.env) :: starEach [] X.env := by intro _; rfl) :
    V1 S mR ownL own own (.Expr (.Call (.Attribute (.Name x p) "append" ap) [e] [] cp) pos) (sApp i f) := by
  obtain ⟨t, a1, a2⟩ := he
  refine ⟨tDrop (tBM S.K "list" rAppend (tVar i) (tCons t tNil)), fun X g => ?_, fun B0 H0 ρ σ B H D I p => ?_⟩
  · rw [← g.hK]
    exact ps_expr (pe_bm PySem.F.plainAttrs_list PySem.F.slot_list_append PySem.F.type_list_append mt_append (pe_var (g.nx hN) (g.vis hv) hd hcd) (pa_cons (a1 X g) pa_nil (hs X)) rfl (hfew X) hline (hs X) rfl)
  · obtain ⟨ad, h1, h2⟩ := id I.ow
    unfold sApp at p
    split at p
    · rename_i ds e
      obtain ⟨sa, na, oa⟩ := h1 i _ hi e
      refine ⟨_, sa, ?_⟩
      obtain ⟨vs, ea, ra⟩ := oa.2
      refine ⟨.inl ⟨rfl, vs, SqL.of ea⟩, a2 B0 H0 ρ σ B H _ I (sDo_post I p fun d v B1 H1 _ s r p1 => ?_)⟩
      split at p1
      · rename_i hz
        have I1 := I.step s
        have o1 := oa.step s
        obtain ⟨nb, vs1, e1, r1⟩ := o1
        have ev := s.hh.lst ea
        rw [ev] at e1; cases e1
        refine ⟨ad i, vs, v, rfl, rfl, ev, by rw [RepAll.length r1]; exact hz, p1 _ _ _ (I1.change hi e sa ⟨nb, _, upd_same, r1.append (.cons r .nil)⟩)⟩
      · exact p1.elim
    · exact p.elim
/-- xs[k] = e -/
def sSet (i : Nat) (fk fe : FE) : FS := fun ρ => match ρ[i]? with
  | some (some (.lst ds)) => sDo fe (fun d => sDo fk fun k ρ => match k with
    | .int k => (match ixN ds.length k with
      | some j => .nx (ρ.set i (some (.lst (ds.set j d))))
      | none => .bad)
    | _ => .bad) ρ
  | _ => .bad
theorem s_setIx {fe : FE} (hN : S.N[i]? = some x) (hv : visB S.sc x = true) (hi : i ∈ own) (hd : (x == ("__debug__" : Str)) = false) (hcd : (x == ("__classdict__" : Str)) = false) (he : VE S own .sh e fe) (hk : VE S own .lk ie fk)
    (hs : ∀ X : Cx, swapsWithSole [.Subscript (.Name x p) ie p2] e pos.line X.env = pure false := by intro _; rfl)
    (hw : ∀ X : Cx, swappedStores [.Subscript (.Name x p) ie p2] e X.env = pure none := by intro _; rfl) (h1 : ∀ X : Cx, (assignEach [.Subscript (.Name x p) ie p2] X.env).map (·.2) = [assign (.Subscript (.Name x p) ie p2) X.env] := by intro _; rfl)
    (ha : ∀ (X : Cx) v, assign (.Subscript (.Name x p) ie p2) X.env v = (do
      let ov ← holding [v] (eval (.Name x p) X.env)
      let iv ← holding [v, ov] (eval ie X.env)
      standAt p2
      holding [v, ov, iv] (setItem ov iv v)
      release [v, ov, iv] []) := by intro _ _; rfl) : V1 S mR ownL own own (.Assign [.Subscript (.Name x p) ie p2] e pos) (sSet i fk fe) := by
  obtain ⟨t, a1, a2⟩ := he
  obtain ⟨u, b1, b2⟩ := hk
  refine ⟨_, fun X g => ps_asg (a1 X g) (pg_sub (pe_var (g.nx hN) (g.vis hv) hd hcd) (b1 X g) set_list (ha X)) (hs X) (hw X) (h1 X), fun B0 H0 ρ σ B H D I p => ?_⟩
  obtain ⟨ad, h1, h2⟩ := id I.ow
  unfold sSet at p
  split at p
  · rename_i ds e
    obtain ⟨sa, na, oa⟩ := h1 i _ hi e
    refine a2 B0 H0 ρ σ B H _ I (sDo_post I p fun d v B1 H1 _ s r p1 => ?_)
    refine ⟨_, sa, b2 B0 H0 ρ σ B1 H1 _ (I.step s) (sDo_post (I.step s) p1 fun k kv B2 H2 _ s2 rk p2 => ?_)⟩
    cases k with
    | int k =>
      have p3 : PostS S.T S.K S.W mR own ownL B0 H0 D (match ixN ds.length k with
        | some j => .nx (ρ.set i (some (.lst (ds.set j d))))
        | none => .bad) := p2
      split at p3
      · rename_i j hj
        have I2 := (I.step s).step s2
        obtain ⟨nb, vs, e2, r2⟩ := (oa.step s).step s2
        exact ⟨ad i, vs, k, j, rfl, Lk.int_of (H := H2) rk, e2, by rw [RepAll.length r2]; exact hj, p3 _ _ _ (I2.change hi e sa ⟨nb, _, upd_same, r2.set (Rep.mono s2.bb r) j⟩)⟩
      · exact p3.elim
    | _ => exact p2.elim
  · exact p.elim

/-! ### if, for -/
def sIf (ft : FT) (F G : FS) : FS := fun ρ => match ft ρ with
  | .ok b => if b then F ρ else G ρ
  | .exc c fs => .exc c fs ρ
  | .bad => .bad
theorem s_if (hc : VT S own c ft) (ha : VS S mR ownL own own' a F) (hb : VS S mR ownL own own' b G) : V1 S mR ownL own own' (.If c a b pos) (sIf ft F G) := by
  obtain ⟨t, c1, c2⟩ := hc
  obtain ⟨ta, a1, a2⟩ := ha
  obtain ⟨tb, b1, b2⟩ := hb
  refine ⟨_, fun X g => ps_if (c1 X g) (a1 X g) (b1 X g), fun B0 H0 ρ σ B H D I p => c2 B0 H0 ρ σ B H _ I ?_⟩
  unfold sIf at p
  cases q : ft ρ with
  | ok k =>
    rw [q] at p
    intro k' B1 H1 s e
    obtain rfl : k' = k := e
    cases k' with
    | true => exact iteT (a2 B0 H0 ρ σ B1 H1 D (I.step s) p)
    | false => exact iteF (b2 B0 H0 ρ σ B1 H1 D (I.step s) p)
  | exc c fs => rw [q] at p; exact exc_out I p
  | bad => rw [q] at p; exact p
def loopF (F : FS) (i : Nat) : List D → Rho → Fl
  | [], ρ => .nx ρ
  | d :: ds, ρ => match F (ρ.set i (some d)) with
    | .nx ρ' => loopF F i ds ρ'
    | .ct ρ' => loopF F i ds ρ'
    | .bk ρ' => .nx ρ'
    | .ret r => .ret r
    | .exc c fs ρ' => .exc c fs ρ'
    | .bad => .bad
def sFor (i : Nat) (src : FA) (F : FS) : FS := fun ρ => match src ρ with
  | .ok ds => loopF F i ds ρ
  | .exc c fs => .exc c fs ρ
  | .bad => .bad
theorem s_for {iter : Expr} {src : FA} (hc : S.calm = true) (hi : i ∉ own) (hN : S.N[i]? = some x) (hl : locB S.mine S.sc x = true) (hs : VI S own (.Name x p) iter src) (hb : VS S mR own own own body F) (hf : ∀ (X : Cx) y, foldedSetIterable iter X.env y = pure y := by intro _ _; rfl) :
    V1 S mR ownL own own (.For (.Name x p) iter body [] pos) (sFor i src F) := by
  obtain ⟨wi, a1, a2⟩ := hs
  obtain ⟨tb, b1, b2⟩ := hb
  refine ⟨tFor wi (gName i) tb, fun X g => ps_for g.po (g.calm hc) (a1 X g) (target g hN hl) (b1 X g) (hf X), fun B0 H0 ρ σ B H D I p => a2 B0 H0 ρ σ B H _ I ?_⟩
  unfold sFor at p
  cases q : src ρ with
  | exc c fs => rw [q] at p; exact exc_out I p
  | bad => rw [q] at p; exact p
  | ok ds =>
    rw [q] at p
    have p : PostS S.T S.K S.W mR own ownL B0 H0 D (loopF F i ds ρ) := p
    intro J B1 H1 s1 r1
    have I1 := I.step s1
    obtain ⟨G, Y, wk, hG, hY⟩ := r1
    refine for_it wk (fun k σ H => ∃ ρk B, TInv S.T S.K B1 H0 own ρk σ B H ∧ loopF F i ds ρ = loopF F i (ds.drop k) ρk) ⟨ρ, B1, I1.ground, by rw [List.drop_zero]⟩ (fun k σ H hk ⟨ρk, B, Ik, _⟩ => hG H (Ik.st.bb.trans Ik.st.sub)) (fun k y σk H H' hk ⟨ρk, B, Ik, ek⟩ hy => ?_) (fun σk H ⟨ρk, B, Ik, ek⟩ => ?_)
    · obtain ⟨B', d, s', hd, rd⟩ := hY k H y H' B hk Ik.st.bb Ik.st.sub hy
      have s' := s' S.T
      have drop : ds.drop k = d :: ds.drop (k + 1) := by
        rw [List.drop_eq_getElem_cons hk]
        congr 1
        exact (List.getElem?_eq_some_iff.mp hd).2
      rw [drop] at ek
      simp only [loopF] at ek
      rw [ek] at p
      refine b2 B1 H0 (ρk.set i (some d)) _ B' H' _ ((Ik.step s').at1 hi rd) ?_
      cases e : F (ρk.set i (some d)) with
      | nx ρ' => rw [e] at ek p; exact fun σ' B2 H2 I2 => ⟨ρ', B2, I2, ek⟩
      | ct ρ' => rw [e] at ek p; exact fun σ' B2 H2 I2 => ⟨ρ', B2, I2, ek⟩
      | bk ρ' => rw [e] at p; exact fun σ' B2 H2 I2 => p σ' B2 H2 (I2.under I1.st)
      | ret r => rw [e] at p; exact fun v B2 H2 s2 r2 => p v B2 H2 (I1.st.over s2) r2
      | exc c fs ρ' => rw [e] at p; exact fun cls dx σ' B2 H2 I2 x2 => p cls dx σ' B2 H2 (I2.under I1.st) x2
      | bad => rw [e] at p; exact p
    · rw [List.drop_length] at ek
      simp only [loopF] at ek
      rw [ek] at p
      exact p σk B H (Ik.under I1.st)
end

/-! ### a def -/
def runF (mR : Md) (n : Nat) (G : FS) : List D → R D := fun ds => match G (ds.map some ++ List.replicate (n - ds.length) none) with
  | .ret d => .ok d
  | .nx _ => if mR = .fr then .bad else .ok .non
  | .exc c fs _ => .exc c fs
  | _ => .bad
def sgOf (P : Program) (w : World) (T : Tb) (K : PySem.W.Frag) (mg : Str → Option Value) (base : Heap) (N : List Str) (sc : Scope) (k : Nat) (cd : Value) (ql : Str) (E : XK) : Sg :=
  { P := P, w := w, K := K, T := T, mg := mg, base := base, N := N, sc := sc, lv := k, W := fun cls d _ H => E cls d H, calm := true, top := true, mine := fun _ => true, code := cd, ql := ql, hasC := true }
theorem fn_ok {P : Program} {w : World} {T : Tb} {K : PySem.W.Frag} {mg : Str → Option Value} {base : Heap} {x qual : Str} {params : Arguments} {body : List Stmt} {scope : Scope} {f : Addr} {fd : FuncData} {N ps : List Str} {k : Nat} {mR : Md} {own' : List Nat} {G : FS}
    (F : FunD K x qual params body scope [] [] f fd) (FS : FnScope N ps scope) (h : ∀ E, VS (sgOf P w T K mg base N scope k fd.code (qual ++ ".<locals>.") E) mR [] [] own' body G) : FnOk P w K mg base (L2.CX P w) (k + 1) f fd ps (spF T K mR ps.length (runF mR N.length G)) := by
  obtain ⟨oc, od, dV, kV, doc, pm, an, cdv, ct, osl, rfl, lk, hcd, _, _⟩ := F.ex
  refine fn_of lk hcd FS (fun vs H Q E ⟨B, ds, hl, _⟩ => hl) (fun A outer s H vs Q E hr ⟨B, ds, hl, sub, tb, rv, p⟩ => ?_)
  obtain ⟨t, h1, h2⟩ := h E
  refine ⟨t, h1 _ ⟨rfl, rfl, rfl, rfl, rfl, rfl, rfl, rfl, fun _ => hr, Nat.lt_of_le_of_lt (Nat.add_le_add_right (Nat.le_add_right _ _) _) hr.un, (fun q h => nomatch h), takes_of rfl rfl rfl rfl, FS.nd, fun _ _ => rfl, passes_of rfl, fun _ => ⟨rfl, rfl⟩, fun _ => ⟨rfl, rfl⟩⟩, ?_⟩
  have hlen := rv.length
  have hN : vs.length ≤ N.length := by
    have := congrArg List.length FS.pre
    rw [List.length_take] at this
    omega
  have I : TInv T K B H [] (ds.map some ++ List.replicate (N.length - ds.length) none) (L2.start N vs) B H := by
    refine ⟨?_, .refl sub, tb, fun i d _ e => ?_, fun _ => 0, ⟨fun i d h => absurd h (by simp), fun i j d e h => absurd h (by simp)⟩⟩
    · unfold L2.start
      simp [hlen]
    · have hi : i < ds.length := by
        by_cases hi : i < ds.length
        · exact hi
        · rw [List.getElem?_append_right (by simpa using Nat.le_of_not_lt hi), List.getElem?_replicate] at e
          split at e <;> cases e
      rw [List.getElem?_append_left (by simpa using hi), List.getElem?_map] at e
      cases q : ds[i]? with
      | none => rw [q] at e; cases e
      | some d' =>
        rw [q] at e
        cases e
        obtain ⟨v, hv, r⟩ := rv.get q
        refine ⟨v, ?_, r⟩
        unfold L2.start
        rw [List.getElem?_append_left (by rw [List.length_map, hlen]; exact hi), List.getElem?_map, hv]
        rfl
  refine h2 B H _ _ B H _ I ?_
  unfold runF at p
  cases q : G (ds.map some ++ List.replicate (N.length - ds.length) none) with
  | ret d => rw [q] at p; exact fun v B' H' s r => p v B' H' s r
  | nx ρ =>
    rw [q] at p
    intro σ' B' H' I'
    cases mR with
    | fr => exact p.elim
    | sh => exact p .non B' H' I'.st .non
    | lk => exact p .non B' H' I'.st Rep.non
  | exc c fs ρ => rw [q] at p; exact fun cls dx σ' B' H' I' x => p cls dx B' H' I'.st x
  | ct ρ => rw [q] at p; exact p.elim
  | bk ρ => rw [q] at p; exact p.elim
  | bad => rw [q] at p; exact p
end T2
namespace T2
open PySem PySem.Spec L2
/-- a def of the module keeps its promise -/
def OkF (P : Program) (w : World) (T : Tb) (K : PySem.W.Frag) (mg : Str → Option Value) (base : Heap) (k : Nat) (x : Str) (ps : List Str) (m : Md) (n : Nat) (g : List D → R D) : Prop :=
  ∃ fd, FnOk P w K mg base (L2.CX P w) k (He.ga K x) fd ps (spF T K m n g) ∧ mg x = some (.ref (He.ga K x)) ∧ PySem.W.keepIn K (.ref (He.ga K x)) = true ∧ Binds K fd ps [] ∧
    (∃ oc od osl, K.lookup (He.ga K x) = some ⟨oc, od, .func fd, osl⟩) ∧ ∀ (s : Shared) (us : List Value), us.length = ps.length → BindsTo s fd ⟨us, []⟩ (ps.zip us)
theorem ve_callF {S : Sg} {own : List Nat} {m : Md} {a : Expr} {es : List Expr} {fs : FA} {pos p : Pos} {x : Str} {ps : List Str} {k n : Nat} {g : List D → R D} (F : OkF S.P S.w S.T S.K S.mg S.base k x ps m n g) (hlv : k ≤ S.lv) (hc : S.calm = true) (hg : kdOf S.sc x = some .globalImplicit)
    (ha : VA S own .sh (a :: es) fs) (hn : ∀ ρ ds, fs ρ = .ok ds → ds.length = n) (hdb : (x == ("__debug__" : Str)) = false)
    (he : ∀ X : Cx, starEach (a :: es) X.env = (false, eval a X.env) :: starEach es X.env := by intro _; rfl) (hpl : ∀ X : Cx, (backTo pos (starEach es X.env)).any (·.1) = false := by intro _; rfl) :
    VE S own m (.Call (.Name x p) (a :: es) [] pos) (fCall g fs) := by
  obtain ⟨fd, F, hm, hk, hb, _⟩ := F
  exact ve_call F hlv hc hg hm hk hb ha hn hdb he hpl
end T2
namespace T2
open PySem PySem.Spec L2
theorem okF_of {P : Program} {w : World} {T : Tb} {K : PySem.W.Frag} {mg : Str → Option Value} {base : Heap} {x : Str} {params : Arguments} {body : List Stmt} {scope : Scope} {fd : FuncData} {N ps : List Str} {k n nN : Nat} {mR : Md} {own' : List Nat} {G : FS} {g : List D → R D}
    (hm : mg x = some (.ref (He.ga K x))) (F : FunD K x x params body scope [] [] (He.ga K x) fd) (FS : FnScope N ps scope) (hn : ps.length = n) (hN : N.length = nN) (hg : g = runF mR nN G)
    (hb : ∀ (kV doc pm : Value) (an : Option Addr) (cdv ct : Value) (us : List Value), us.length = ps.length → bindArgs (PySem.W.fnOf x x params body scope .none kV doc pm an cdv ct) ⟨us, []⟩ = pure (ps.zip us))
    (h : ∀ E, VS (sgOf P w T K mg base N scope k fd.code (x ++ ".<locals>.") E) mR [] [] own' body G) : OkF P w T K mg base (k + 1) x ps mR n g := by
  subst hn hN hg
  refine ⟨fd, fn_ok F FS h, hm, F.kp, F.bindsN hb, ?_, FunD.bindsA F hb⟩
  obtain ⟨oc, od, dV, kV, doc, pm, an, cdv, ct, osl, rfl, lk, _⟩ := F.ex
  exact ⟨oc, od, osl, lk⟩
end T2
end
section
set_option maxRecDepth 100000
set_option maxHeartbeats 1000000
namespace T2
open PySem PySem.Spec L2

/-! ### sorted(xs) -/
section
variable {prog : Program} {w : World} {A : Around} {E : Value → Shared → Prop} {s : Shared}
/-- a list or a tuple of these items -/
def SeqAtH (h : Heap) (l : Addr) (vs : List Value) : Prop := ∃ o T n, h.get? l = some o ∧ o.cls = .type T ∧ (T = "list" ∨ T = "tuple") ∧ o.data = .seq vs.toArray n
theorem collect_seq {l : Addr} {vs : List Value} {Q : List Value → Shared → Prop} (hl : SeqAtH s.heap l vs) (hsz : vs.length ≤ sizeLine)
    (h : Q vs { s with heap := (s.heap.push (PyProof.Rows.seqObj "list" #[] 0)).update s.heap.objs.size (Obj.mapSeq (· ++ vs.toArray)) }) :
    wpAny (model prog w) A (collect (.ref l)) Q E s := by
  obtain ⟨o, T, n, ho, hc, hT, hd⟩ := id hl
  unfold collect
  refine wpAny_bind (wpAny_runValue (codeAny_builtin PyProof.Rows.entry_proto_collect' ?_))
  show wpAny _ _ (do again (.builtin "list.__iadd__" ⟨[← newList [], .ref l], []⟩)) _ _ s
  refine wpAny_bind (wpAny_newList (wpAny_pure ⟨Code.quiet_builtin _ (by decide +kernel), codeAny_builtin PyProof.Rows.entry_list_iadd' ?_⟩))
  show wpAny _ _ (Builtin.List.listExtendWith (.ref s.heap.objs.size) (.ref l) (.ref s.heap.objs.size)) _ _ { s with heap := s.heap.push (PyProof.Rows.seqObj "list" #[] 0) }
  unfold Builtin.List.listExtendWith
  have ho' : (s.heap.push (PyProof.Rows.seqObj "list" #[] 0)).get? l = some o := Heap.get?_push_of_some _ ho
  refine wpAny_bind (wpAny_typeOf (T := T) ⟨o, ho', hc⟩ ?_)
  have t1 : (Value.type "list" == Value.type "list") = true := by rfl
  have t2 : (Value.type "tuple" == Value.type "tuple") = true := by rfl
  rw [if_pos (by rcases hT with rfl | rfl
                 · rw [t1]; simp
                 · rw [t2]; simp)]
  refine wpAny_bind (PyProof.Rows.listItems_at ho' hd ?_)
  refine wpAny_bind (PyProof.Rows.listItems_at (xs := #[]) (n := 0) (Heap.get?_push_size _ rfl) rfl ?_)
  rw [if_neg (by simp)]
  refine wpAny_bind (PyProof.Rows.listUpdate_at (xs := #[]) (n := 0) (Heap.get?_push_size _ rfl) rfl ?_ (Nat.zero_le _) (by show (#[] ++ vs.toArray).size ≤ sizeLine + 1; simp only [Array.size_append, List.size_toArray, List.length_nil]; omega))
  refine wpAny_pure ?_
  show wpAny (model prog w) A (do
      let o ← load s.heap.objs.size
      match o.data with
      | .seq xs _ => pure xs.toList
      | _ => unsupported "internal:collect") Q E { s with heap := (s.heap.push (PyProof.Rows.seqObj "list" #[] 0)).update s.heap.objs.size (Obj.mapSeq (· ++ vs.toArray)) }
  refine wpAny_bind (wpAny_load (PyProof.Rows.get?_update_seq (Heap.get?_push_size _ rfl) _) ?_)
  show wpAny _ _ (pure ((#[] : Array Value) ++ vs.toArray).toList) Q E _
  rw [show ((#[] : Array Value) ++ vs.toArray).toList = vs by simp]
  exact wpAny_pure h
/-- sorted(xs, ..), xs a list or a tuple -/
theorem sorted_of_sort2 {l : Addr} {vs : List Value} {kw : List (Str × Value)} {Q : Value → Shared → Prop} (hl : SeqAtH s.heap l vs) (hL : vs.length ≤ sizeLine) (ha1 : argsOk "sorted" ⟨[.ref l], kw⟩) (ha2 : ∀ x, argsOk "list.sort" ⟨[.ref x], kw⟩)
    (body : ∀ E' : Value → Shared → Prop, wpAny (model prog w) A.in1.in1 (Builtin.«list.sort» ⟨[.ref (s.heap.objs.size + 1)], kw⟩) (fun f s' => f = .done (.ret .none) ∧ Q (.ref (s.heap.objs.size + 1)) s') E' { s with heap := PySem.W.copyHeap s.heap vs }) :
    wpAny (model prog w) A (call (.builtin "sorted") [.ref l] kw) Q E s := by
  refine PyProof.Rows.call_function_entry_kw PyProof.Rows.kind_sorted PyProof.Rows.plain_sorted PyProof.Rows.entry_sorted ha1 ?_
  unfold Builtin.«sorted»
  refine wpAny_bind (m := checkCount "sorted" 1 1 _) (wpAny_pure ?_)
  refine wpAny_bind (collect_seq hl hL ?_)
  refine wpAny_bind (wpAny_newList ?_ hL)
  have hsz : ((s.heap.push (PyProof.Rows.seqObj "list" #[] 0)).update s.heap.objs.size (Obj.mapSeq (· ++ vs.toArray))).objs.size = s.heap.objs.size + 1 := by
    rw [Heap.size_update, PyProof.Rows.size_push']
  show wpAny _ _ _ _ _ { s with heap := PySem.W.copyHeap s.heap vs }
  rw [hsz]
  refine wpAny_bind (wpAny_holding (PyProof.Rows.wpAny_call_entry_kw PyProof.Rows.slot_list_sort ⟨_, PySem.W.copyHeap_at s.heap vs, rfl⟩ PyProof.Rows.entry_list_sort ?body (ha2 _)))
  case body =>
    show wpAny (model prog w) A.in1.in1 (Builtin.«list.sort» ⟨[.ref (s.heap.objs.size + 1)], kw⟩) _ _ _
    refine wpAny_mono (body _) (fun f s' hf => ?_) fun _ _ e => e
    obtain ⟨rfl, hq⟩ := hf
    exact ⟨_, rfl, wpAny_pure ⟨_, rfl, hq⟩⟩
theorem sorted_data2 {β : Type} {vs : List Value} {bs : List β} {enc : β → PyData} {R : Value → β → Prop} {l : Addr} {Q : Value → Shared → Prop} (hl : SeqAtH s.heap l vs) (e : PySem.W.EachIs R vs bs) (er : PySem.W.EachIs (fun v b => ∃ as, Reads s.heap v (enc b) as) vs bs)
    (hal : PySem.W.AllAlike (bs.map enc)) (hk : PySem.W.Sortable (bs.map enc)) (hL : bs.length ≤ sizeLine) (hu : ∀ b, b ∈ bs → A.units + 2 + (enc b).depth < cLine)
    (h : ∀ out, out.length = bs.length → PySem.W.EachIs R out (bs.mergeSort (PySem.W.dataLe false enc)) → Q (.ref (s.heap.objs.size + 1)) { s with heap := PyProof.Rows.sortedAll s.heap vs (List.toArray out) }) :
    wpAny (model prog w) A (call (.builtin "sorted") [.ref l]) Q E s := by
  have er' : PySem.W.EachIs (fun v b => ∃ as, Reads (PySem.W.sortingHeap (PySem.W.copyHeap s.heap vs) (s.heap.objs.size + 1) vs) v (enc b) as) vs bs := er.mono fun _ _ ⟨as, r⟩ => ⟨as, PyProof.Rows.Reads.keeps (fun _ _ => PySem.W.sorting_copy_old) r⟩
  exact sorted_of_sort2 hl (by rw [e.length]; exact hL) (PyProof.Rows.args_sorted1 _) (fun _ => PyProof.Rows.args_list_sort _) fun _ =>
    PySem.W.list_sort_vals (s := { s with heap := PySem.W.copyHeap s.heap vs }) (PySem.W.copyHeap_at s.heap vs)
      (PySem.W.SortsAt.data (s := { s with heap := PySem.W.sortingHeap (PySem.W.copyHeap s.heap vs) (s.heap.objs.size + 1) vs }) (PySem.W.each_map (R := fun v d => ∃ as, Reads (PySem.W.sortingHeap (PySem.W.copyHeap s.heap vs) (s.heap.objs.size + 1) vs) v d as) enc er') hal hk (PySem.W.bound_map hu)) (by rw [e.length]; exact hL)
      ⟨rfl, h _ (by rw [PySem.W.sortVals_length false rfl]; exact e.length) (PySem.W.sortVals_data false e er' hal)⟩
end
theorem pys_map : ∀ ds : List D, D.pys ds = ds.map D.py
  | [] => rfl
  | d :: ds => by rw [D.pys, pys_map ds, List.map_cons]
/-- these can be sorted -/
def srtB (ks : List PyData) : Bool :=
  (ks.all fun a => ks.all fun b => PySem.W.alike a b) && ((ks.all fun a => match a with | .tuple (_ :: _) => true | _ => false) || (ks.all fun a => match a with | .none => false | .tuple _ => false | _ => true)) &&
    (ks.all fun a => decide (a.depth ≤ 58)) && PyData.canLayAll0 ks
theorem srtB_of {ks : List PyData} (h : srtB ks = true) : PySem.W.AllAlike ks ∧ PySem.W.Sortable ks ∧ (∀ k ∈ ks, k.depth ≤ 58) ∧ PyData.canLayAll0 ks = true := by
  unfold srtB at h
  rw [Bool.and_eq_true, Bool.and_eq_true, Bool.and_eq_true] at h
  obtain ⟨⟨⟨h1, h2⟩, h3⟩, h4⟩ := h
  refine ⟨fun d hd d' hd' => List.all_eq_true.mp (List.all_eq_true.mp h1 d hd) d' hd', ?_, fun k hk => of_decide_eq_true (List.all_eq_true.mp h3 k hk), h4⟩
  rcases (Bool.or_eq_true _ _).mp h2 with h | h
  · refine .inl fun d hd => ?_
    have q := List.all_eq_true.mp h d hd
    split at q
    · exact ⟨_, _, rfl⟩
    · cases q
  · refine .inr fun d hd => ?_
    have q := List.all_eq_true.mp h d hd
    constructor
    · rintro rfl; cases q
    · rintro xs rfl; cases q
def sortD (ds : List D) : R D := if srtB (D.pys ds) = true then .ok (.lst (ds.mergeSort (PySem.W.dataLe false D.py))) else .bad
def sortedD : List D → R D
  | [.lst xs] => sortD xs
  | [.tup xs] => sortD xs
  | _ => .bad
/-- a value that stands for y, y for d -/
def Std (K : PySem.W.Frag) (B : Hp) (v : Value) (d : D) : Prop := ∃ y : V, RelV y v ∧ Rep K B y d
theorem std_each {K : PySem.W.Frag} {B : Hp} : ∀ {ys : List V} {vs : List Value} {ds : List D}, Vals ys vs → RepAll K B ys ds → PySem.W.EachIs (Std K B) vs ds
  | _, _, _, .nil, .nil => .nil
  | _, _, _, .cons h r, .cons q t => .cons ⟨_, h, q⟩ (std_each r t)
theorem each_std {K : PySem.W.Frag} {B : Hp} : ∀ {vs : List Value} {ds : List D}, PySem.W.EachIs (Std K B) vs ds → ∃ ys, Vals ys vs ∧ RepAll K B ys ds
  | _, _, .nil => ⟨[], .nil, .nil⟩
  | _, _, .cons ⟨y, h, q⟩ t => by
    obtain ⟨ys, h2, q2⟩ := each_std t
    exact ⟨y :: ys, .cons h h2, .cons q q2⟩
theorem reads_each {X : Cx} {pins : List (Addr × Obj)} {σ : St} {B H : Hp} {s : Shared} (I : Inv X pins σ H s) (sub : Same B H) : ∀ {ys : List V} {vs : List Value} {ds : List D}, Vals ys vs → RepAll X.K B ys ds → PyData.canLayAll0 (D.pys ds) = true →
    PySem.W.EachIs (fun v b => ∃ as, Reads s.heap v (D.py b) as) vs ds
  | _, _, _, .nil, .nil, _ => .nil
  | _, _, _, .cons h r, .cons (d := d) (ds := ds) q t, c => by
    have c' : PyData.canLay0 d.py = true ∧ PyData.canLayAll0 (D.pys ds) = true := by simpa [D.pys, PyData.canLayAll0] using c
    exact .cons (Dp.reads I _ _ _ (Rep.dp sub q c'.1) h) (reads_each I sub r t c'.2)
section
variable {S : Sg}
theorem cs_sorted (hc : true = true) : CallS S (.builtin "sorted") .fr sortedD := by
  refine ⟨fun xs H Q => ∃ (B : Hp) (p : Addr) (ys : List V) (ds : List D), xs = [.ref p] ∧ (SqL S.K H p ys ∨ SqT S.K H p ys) ∧ Same B H ∧ RepAll S.K B ys ds ∧ srtB (D.pys ds) = true ∧
      ∀ q zs, H q = none → RepAll S.K B zs (ds.mergeSort (PySem.W.dataLe false D.py)) → Q (.ref q) (upd H q (.lst zs)), fun X g => ?_, fun vs ds σ B H Q s h p => ?_⟩
  · intro pins s σ H vs us Q I r h
    obtain ⟨B, p, ys, ds, rfl, hs, sub, rr, ck, q⟩ := h
    rw [← g.hK] at hs rr q
    rw [Vals.ref1 r]
    obtain ⟨h1, h2, h3, h4⟩ := srtB_of ck
    have main : ∀ its : List Value, Vals ys its → SeqAtH s.heap p its → ys.length ≤ sizeLine → wpAny (model X.prog X.w) X.A (call (.builtin "sorted") [.ref p]) (EP X pins σ Q) X.xe s := fun its rv hl hz => by
      have hlen : ds.length ≤ sizeLine := by rw [← rr.length]; exact hz
      refine sorted_data2 (enc := D.py) (bs := ds) hl (std_each rv rr) (reads_each I sub rv rr h4) (by rw [← pys_map]; exact h1) (by rw [← pys_map]; exact h2) hlen (fun b hb => ?_) fun out e1 e2 => ?_
      · have := h3 b.py (by rw [pys_map]; exact List.mem_map_of_mem hb)
        have := g.units
        omega
      · obtain ⟨zs, v1, r1⟩ := each_std e2
        obtain ⟨ep, he'⟩ := PyProof.Rows.sortedAll_at s.heap its out.toArray
        have hlen2 : zs.length ≤ sizeLine := by rw [v1.length, e1]; exact hlen
        exact ⟨.ref _, upd H (s.heap.objs.size + 1) (.lst zs), I.laid (t' := s.toks) (fun _ _ => PyProof.Rows.sortedAll_old) (Nat.le_succ _) ⟨hlen2, out, ep, v1, he'⟩, rfl, q _ _ (I.hok.fresh (Nat.le_succ _)) r1⟩
    rcases hs with hs | hs
    · obtain ⟨its, rv, ⟨o, n, e1, e2, _, e3⟩, hz⟩ := I.list hs
      exact main its rv ⟨o, "list", n, e1, e2, .inl rfl, e3⟩ hz
    · obtain ⟨its, rv, ⟨o, e1, e2, n, e3⟩, hz⟩ := I.tuple hs
      exact main its rv ⟨o, "tuple", n, e1, e2, .inr rfl, e3⟩ hz
  · have main : ∀ a ws xs, vs = [.ref a] → (SqL S.K H a ws ∨ SqT S.K H a ws) → RepAll S.K B ws xs → Post S.T S.K S.W (Res .fr S.K) σ B H (sortD xs) Q → ∃ (B : Hp) (p : Addr) (ys : List V) (ds : List D), vs = [.ref p] ∧ (SqL S.K H p ys ∨ SqT S.K H p ys) ∧ Same B H ∧ RepAll S.K B ys ds ∧ srtB (D.pys ds) = true ∧
        ∀ q zs, H q = none → RepAll S.K B zs (ds.mergeSort (PySem.W.dataLe false D.py)) → Q (.ref q) (upd H q (.lst zs)) := fun a ws xs e hs r p => by
      unfold sortD at p
      split at p
      · rename_i ck
        exact ⟨B, a, ws, xs, e, hs, s, r, ck, fun q zs n rz => p _ B _ (.own s n) ⟨q, rfl, n, s.free n, _, upd_same, rz⟩⟩
      · exact p.elim
    unfold sortedD at p
    split at p
    · obtain ⟨v, rfl, hv⟩ := h.one
      obtain ⟨a, ws, rfl, e1, r1⟩ := hv
      exact main a ws _ rfl (.inl (SqL.of e1)) r1 p
    · obtain ⟨v, rfl, hv⟩ := h.one
      obtain ⟨a, ws, rfl, e1, r1⟩ := hv.rep_tup
      exact main a ws _ rfl (.inr (seqT_mono s e1)) r1 p
    · exact p.elim
end
end T2
end
section
set_option maxRecDepth 100000
set_option maxHeartbeats 2000000
namespace T2
open PySem PySem.Spec L2

/-! ### an own exception class: __init__(self, x): super().__init__(text); self.f = x -/
/-- what K holds of the class at C; fI its __init__, cc the cell of __class__, cda the code object -/
structure XCls (P : Program) (K : PySem.W.Frag) (mg : Str → Option Value) (C fI cc cda : Addr) (qual sf nm f msg : Str) (params : Arguments) (body : List Stmt) (scope : Scope) : Prop where
  cls : OexC K C
  ini : PySem.W.findIn K (.ref C) "__init__" = some (some (.ref fI))
  tyI : PySem.W.typeIn K (.ref fI) = some (.type "function")
  lkI : ∃ (oc : Value) (od : Option Addr) (kV doc pm ct : Value) (an : Option Addr) (osl : Array (Option Value)), K.lookup fI = some ⟨oc, od, .func (PySem.W.fnX "__init__" qual params body scope [("__class__", cc)] .none kV doc pm an (.ref cda) ct), osl⟩
  code : PySem.W.codeIn K (.ref cda) qual = true
  file : ∃ (oc : Value) (od : Option Addr) (vs : Array Value) (osl : Array (Option Value)) (fl : Str) (t : Tok), K.lookup cda = some ⟨oc, od, .fields vs, osl⟩ ∧ vs[2]? = some (.str fl t) ∧ ((P.main.file : Str) == fl) = true
  cell : ∃ (oc : Value) (od : Option Addr) (osl : Array (Option Value)), K.lookup cc = some ⟨oc, od, .cell (some (.ref C)), osl⟩
  mro : PySem.W.mroIn K C (.ref C) = some true
  sup : PySem.W.ks_superIn K C C "__init__" = some (some (.builtin "ValueError.__init__"))
  isV : PySem.W.subIn K (.ref C) (.type "ValueError") = some true
  tp : PySem.W.nsIn K cStatics "thirdparty.any" = some none
  nos : mg "super" = none
  top : (P.main.scope.names.lookup ("super" : Str)).isSome = false
  nof : PySem.W.findIn K (.ref C) f = some none
  par : ∃ ar : Arg, (params.posonlyargs ++ params.args).head? = some ar ∧ ar.arg = sf
  bind : ∀ (kV doc pm cdv ct : Value) (an : Option Addr) (u v : Value), bindArgs (PySem.W.fnX "__init__" qual params body scope [("__class__", cc)] .none kV doc pm an cdv ct) ⟨[u, v], []⟩ = pure [(sf, u), (nm, v)]
  kind : scope.kind = .function
  co : scope.isCoroutine = false
  gen : scope.isGenerator = false
  ncell : ∀ x ∈ scope.names, x.2 ≠ .cell
  locS : scope.names.lookup sf = some .local
  locN : scope.names.lookup nm = some .local
  ne : (sf == nm) = false
  ksup : scope.names.lookup ("super" : Str) = some .globalImplicit
  kcls : scope.names.lookup ("__class__" : Str) = some .free
  dS : (sf == ("__debug__" : Str)) = false
  dN : (nm == ("__debug__" : Str)) = false
  bod : ∃ (p0 p1 ap mp cp ep sp fp np as : Pos) (k : Nat), body = [.Expr (.Call (.Attribute (.Call (.Name "super" p0) [] [] p1) "__init__" ap) [.Constant (.str msg) k mp] [] cp) ep, .Assign [.Attribute (.Name sf sp) f fp] (.Name nm np) as] ∧
    ∀ env : Env, ∃ pl : Sem Bool, eval (.Call (.Attribute (.Call (.Name "super" p0) [] [] p1) "__init__" ap) [.Constant (.str msg) k mp] [] cp) env = (do
      let ov ← attributeBase (.Call (.Name "super" p0) [] [] p1) "__init__" env (eval (.Call (.Name "super" p0) [] [] p1) env)
      standAt ap.atName
      let (f, first) ← holding [ov] (getMethod ov "__init__" pl)
      callWith cp f first (backTo cp (starEach [.Constant (.str msg) k mp] env)) [])

section
open PySem.W PySem.Calls
variable {P : Program} {w : World} {K : PySem.W.Frag} {mg : Str → Option Value} {C fI cc cda : Addr} {qual sf nm f msg : Str} {params : Arguments} {body : List Stmt} {scope : Scope}
theorem interactive_fn {env : Env} (h : env.scope.kind = .function) : interactive env = false := by
  unfold interactive
  rw [h]
  rfl
theorem mw_call {A : Around} {E : Value → Shared → Prop} {h : Heap} {g : Array GenState} {d : Drawn} {t : Nat} {os : OsState} {u e t0 : Addr} {rest : List Value} {Q : Value → Shared → Prop} (T : OexC K C) (X : K.In h) (he : h.get? e = some (PySem.HandSPX.excO C t0)) (hu : h.get? u = some (PySem.W.kxs_mw "ValueError.__init__" e)) (hz : rest.length ≤ sizeLine)
    (hq : ∀ h' t1, (∀ b o, b ≠ e → h.get? b = some o → h'.get? b = some o) → h'.get? e = some (PySem.HandSPX.excO C t1) → Q .none ⟨h', g, d, t, os⟩) :
    wpAny (model P w) A (call (.ref u) rest) Q E ⟨h, g, d, t, os⟩ := by
  obtain ⟨nm, q, N, bs, bm, sn, sub, ab, col, dd, k0, k1, k2, k3, k5, hC, hbm⟩ := T.cls
  have FB := PySem.F.excBase_ValueError
  refine wpAny_call (codeAny_of_tree ?_)
  show wpAny _ A.in1 (callAny (.ref u) ⟨rest, []⟩) _ _ _
  simp only [callAny]
  refine wpAny_bind (wpAny_load hu ?_)
  simp only [kxs_mw, show (Value.type "method-wrapper" == Value.type "method" || Value.type "method-wrapper" == Value.type "builtin_function_or_method" || Value.type "method-wrapper" == Value.type "method-wrapper") = true by decide, if_true]
  refine KFB.if_so (by decide) ?_
  refine wpAny_bind (check_bound_init FB.toExcCallFacts (X _ _ hC) he rfl ?_)
  refine wpAny_bind (wpAny_pure (wpAny_pure ?_))
  refine ⟨plainId_quiet FB.init.plain _, codeAny_builtin FB.initEntry ?_⟩
  exact exc_init_tree (cls := .ref C) (t0 := t0) (dv := none) (c2 := .none) (c3 := .none) (b4 := .bool false) he hz fun h' k e' _ => hq h' _ k e'
theorem init_run {A : Around} {R : Result → Shared → Prop} {s : Shared} {e t0 : Addr} {u : Value} {mb : Str → Option Value} (T : XCls P K mg C fI cc cda qual sf nm f msg params body scope) (X : K.In s.heap) (hg : s.heap.Ns mainGlobals mg) (hb : s.heap.Ns builtinsNs mb) (hmb : mb "super" = bootBuiltins "super") (lim : s.heap.NoLimit)
    (room : A.depth < recursionLimit) (he : s.heap.get? e = some (PySem.HandSPX.excO C t0)) (hne : K.lookup e = none)
    (hq : ∀ h' tk' dx t1, (∀ b o, b ≠ e → s.heap.get? b = some o → h'.get? b = some o) → s.heap.objs.size ≤ dx → dx ≠ e → h'.get? e = some { cls := .ref C, dict := some dx, data := .fields #[.ref t1, .none, .none, .none, .bool false, .none] } → h'.Ns1 dx (fun y => if y = f then some u else none) →
      R (.ok (.ret .none)) ⟨h', s.gens, s.drawn, tk', s.os⟩) :
    codeAny (model P w) A (.call (.ref fI) ⟨[.ref e, u], []⟩) R s := by
  obtain ⟨oc, od, kV, doc, pm, ct, an, osl, lkI⟩ := T.lkI
  obtain ⟨fc, fd, vs, fsl, fl, ft, lkF, hvs, hfile⟩ := T.file
  obtain ⟨ccl, cld, csl, lkC⟩ := T.cell
  obtain ⟨ar, hp, har⟩ := T.par
  obtain ⟨p0, p1, ap, mp, cp, ep, sp, fp, np, as, k, hbod, hcall⟩ := T.bod
  obtain ⟨cnm, cq, N, bs, bm, sn, sub, ab, col, dd, k0, k1, k2, k3, k5, hC, hbm⟩ := T.cls.cls
  have hcl : PySem.W.clsIn K C = some { name := cnm, bases := bs, mro := .ref C :: bm, ns := N, qualname := cq, hasDict := true, slotNames := sn, subclasses := sub, abstract := ab, collection := col, hasDel := false } := by unfold PySem.W.clsIn; rw [hC] <;> rfl
  subst hbod
  have neK : ∀ b o, K.lookup b = some o → b ≠ e := fun b o h z => by rw [z, hne] at h; cases h
  refine ks_codeAny_call_defAt (binds := [(sf, .ref e), (nm, u)]) room (X _ _ lkI) rfl lim (PySem.W.codeRec_of X T.code) rfl ?_ T.ncell (fun x hx => ?_) (fun h₀ hns kp => ?_) T.co T.gen T.kind
  · refine BindsTo.of_looks fun M => ?_
    rw [T.bind]
    exact .now
  · rcases List.mem_cons.mp hx with rfl | hx
    · exact T.locS
    · rcases List.mem_cons.mp hx with rfl | hx
      · exact T.locN
      · cases hx
  · have X0 : K.In h₀ := X.keeps kp
    have fe : e < s.heap.objs.size := Heap.lt_size he
    have nLe : s.heap.objs.size ≠ e := Nat.ne_of_gt fe
    obtain ⟨pl, hc⟩ := hcall (callEnv (PySem.W.fnX "__init__" qual params _ scope [("__class__", cc)] .none kV doc pm an (.ref cda) ct) s.heap.objs.size fI)
    refine ks_wpAt_execs_cons (ks_wpAt_Expr_any (ks_wpAt_MethodCall ?_ hc) (interactive_fn T.kind))
    refine ks_wpAt_super_base T.ksup T.kcls (by decide) rfl (X0 _ _ lkI) rfl hp rfl (X0 _ _ lkF) rfl hvs hfile T.top ?_
    refine ks_loadName_global T.kind T.ksup (loadGlobal_builtin (hg.keeps kp) T.nos (hb.keeps kp) (hmb.trans (by first | rfl | decide +kernel)) ⟨rfl, ?_⟩)
    refine wpAny_loadName_free (v := .ref C) T.kind T.kcls rfl ⟨_, X0 _ _ lkC, rfl⟩ ?_
    rw [har]
    refine wpAny_loadName_local (v := .ref e) T.kind T.locS hns (by simp [List.lookup, T.ne]) ?_
    refine ks_wpAny_isType_cls (X0 _ _ hC) rfl ⟨rfl, ?_⟩
    refine ks_wpAny_call_super (X0 _ _ hC) rfl (kp _ _ he) rfl (fun c z => by cases z) (looks_mroIn X0 T.mro) (fun h1 e1 k1 => ?_)
    have X1 : K.In h1 := X0.keeps k1
    have he1 := k1 _ _ (kp _ _ he)
    have I1 : InstAt h1 e (PySem.HandSPX.excO C t0) C none := ⟨he1, rfl, rfl, trivial⟩
    have hs : PySem.W.alongIn K "__init__" (((Value.ref C :: bm).dropWhile (· != .ref C)).drop 1) = some (some (.builtin "ValueError.__init__")) := by
      have := T.sup
      unfold PySem.W.ks_superIn at this
      rw [hcl] at this
      exact this
    refine kxs_getMethod kxs_ValueError e1 (looks_opaque X1 T.tp) (l₀ := .ref C :: bm) (fun A Q E s k q => wpAny_bind ((looks_clsIn X1 hcl) A _ E s k (wpAny_pure q))) rfl X1 hs (I1.type.andThen (looks_subIn X1 T.isV)) (fun z => neK _ _ hC z.symm) (by decide) ?_
    have kx : ∀ b o, h1.get? b = some o → (h1.push (kxs_mw "ValueError.__init__" e)).get? b = some o := fun b o z => Heap.get?_push_of_some _ z
    refine kxs_callWith (i := "ValueError.__init__") (x := e) (by rfl) ?_
    refine evalArgs_plain (spliced_cons (wpAny_Constant_str (x := msg) (k := k) (pos := mp) (spliced_nil ?_)))
    refine ⟨Heap.get?_push_size _ rfl, mw_call T.cls (X1.keeps kx) (kx _ _ he1) (Heap.get?_push_size _ rfl) (by simp [sizeLine_eq]) fun h2 t1 k2 he2 => ?_⟩
    have kk : ∀ b o, b ≠ e → h₀.get? b = some o → h2.get? b = some o := fun b o n z => k2 b o n (kx _ _ (k1 _ _ z))
    have X2 : K.In h2 := fun b o z => kk b o (neK b o z) (X0 b o z)
    have hns2 : h2.Ns s.heap.objs.size fun x => List.lookup x [(sf, Value.ref e), (nm, u)].reverse := hns.at fun o z => kk _ _ nLe z
    refine ks_wpAt_execs_cons (ks_wpAt_Assign_Attr ?_)
    refine wpAt_of_wpAny (ESX.ldL hns2 (v := u) (by simp [List.lookup]) ?_ T.kind T.locN T.dN)
    refine ESX.ldL hns2 (v := .ref e) (by simp [List.lookup, T.ne]) ?_ T.kind T.locS T.dS
    refine PySem.W.set_plain X2 (ox := PySem.HandSPX.excO C t1) (od := none) ⟨he2, rfl, rfl, trivial⟩ T.cls.sa ?_
    refine PySem.HandSPX.exc_osa X2 he2 hcl (show PySem.HandSPX.refsVE (.ref C :: bm) = true from hbm) rfl T.nof (fun h' tk' dx k3 dn dne hx hn => ?_)
    refine wpAt_of_wpAny (wpAny_execs_nil ?_)
    refine hq _ _ dx t1 (fun b o n z => k3 b o n (kk b o n (kp b o z))) (Nat.le_trans (Nat.le_of_lt hns2.lt) dn) dne hx hn
end
section
variable {X : Cx} {C fI cc cda : Addr} {qual sf nm f msg x : Str} {params : Arguments} {body : List Stmt} {scope : Scope} {a : Expr} {ta : TA} {p pos : Pos}
theorem pmk_x (T : XCls X.prog X.K X.mg C fI cc cda qual sf nm f msg params body scope) (hr : Room 1 X.A) (hg : Gl X x) (hm : X.mg x = some (.ref C)) (ha : PA X [a] ta) (hdb : (x == ("__debug__" : Str)) = false)
    (he : starEach [a] X.env = (false, eval a X.env) :: starEach [] X.env := by rfl) (hpl : (backTo pos (starEach [] X.env)).any (·.1) = false := by rfl) :
    PMk X (.Call (.Name x p) [a] [] pos) (fun σ H Q => ta σ H fun vs H1 => ∃ y, vs = [y] ∧ ∀ d, H1 d = none → Q (.ref C) (some d) (upd H1 d (.xd [(f, y)]))) := by
  intro pins s σ H Q I h
  obtain ⟨cnm, cq, N, bs, bm, sn, sub, ab, col, dd, k0, k1, k2, k3, k5, hC, hbm⟩ := T.cls.cls
  refine wpAny_Call_Name_kw (ld_glob I hg hm ?_ hdb)
  refine PySem.W.callWith_K (h₀ := X.base) I.ok.mod.kin T.cls.kC (thn (ha.run pos pins s σ H _ I h) fun us s1 ⟨vs, H1, I1, r1, y, ey, q1⟩ => ⟨I1.kIn, ?_⟩) he hpl
  show wpAny _ _ (call (.ref C) us) _ _ _
  subst ey
  cases r1 with
  | @cons _ u _ us ry rr =>
    cases rr
    obtain ⟨hp, g, dr, tk, os⟩ := s1
    have hsz : hp.objs.size ≤ hp.objs.size + 1 := Nat.le_succ _
    have kk : ∀ b o, hp.get? b = some o → ((hp.push (PySem.W.kdv_tup [u])).push (PySem.HandSPX.excO C hp.objs.size)).get? b = some o := fun b o e => Heap.get?_push_of_some _ (Heap.get?_push_of_some _ e)
    have hget : ((hp.push (PySem.W.kdv_tup [u])).push (PySem.HandSPX.excO C hp.objs.size)).get? (hp.objs.size + 1) = some (PySem.HandSPX.excO C hp.objs.size) := by heap_get
    have nhp : ∀ b o, hp.get? b = some o → b ≠ hp.objs.size + 1 := fun b o z => Nat.ne_of_lt (Nat.lt_succ_of_lt (Heap.lt_size z))
    obtain ⟨mb, h1, h2⟩ := I1.mod.blt
    refine wpAny_call (PySem.HandSPX.call_own PySem.F.excBase_ValueError (fun Y => PySem.HandSPX.refsVE_contains Y bm hbm) (I1.kIn _ _ hC) (PySem.W.looks_findIn I1.kIn T.ini) (fun self => PySem.W.bind_fn I1.kIn self T.tyI) (by simp [sizeLine_eq]) ?_)
    refine init_run T (I1.kIn.keeps kk) ((I1.mod.glob.keeps I1.bk).keeps kk) ((h1.keeps I1.bk).keeps kk) (h2 _ (by decide)) (I1.nolimit.keeps kk) (hr.make C [u] []).depth hget ?_ (fun h' tk' dx t1 k dn dne hx hn => ?_)
    · cases z : X.K.lookup (hp.objs.size + 1) with
      | none => rfl
      | some o => exact absurd rfl (nhp _ _ (I1.kIn _ _ z))
    · have dn' : hp.objs.size ≤ dx := by
        have : (hp.push (PySem.W.kdv_tup [u])).objs.size = hp.objs.size + 1 := PyProof.Rows.size_push' _ _
        have h2 : ((hp.push (PySem.W.kdv_tup [u])).push (PySem.HandSPX.excO C hp.objs.size)).objs.size = hp.objs.size + 1 + 1 := by rw [PyProof.Rows.size_push', this]
        have dn : ((hp.push (PySem.W.kdv_tup [u])).push (PySem.HandSPX.excO C hp.objs.size)).objs.size ≤ dx := dn
        omega
      obtain ⟨G, g1, g2⟩ := restrict h' fun b => decide (b ≠ hp.objs.size + 1)
      have gk : ∀ b, b ≠ hp.objs.size + 1 → G.get? b = h'.get? b := fun b hb => g1 b (decide_eq_true hb)
      have ge : G.get? (hp.objs.size + 1) = none := g2 _ (by simp)
      have nd : H1 dx = none := I1.hok.fresh dn'
      have J : Inv X pins σ (upd H1 dx (.xd [(f, y)])) ⟨G, g, dr, tk', os⟩ := I1.laid (t' := tk') (fun b o z => by
          rw [gk b (nhp b o z)]
          exact k b o (nhp b o z) (kk b o z)) dn' ⟨_, hn.at fun o z => (gk dx dne).trans z, relO_put (fs := []) ry fun g => True.intro⟩
      refine ⟨rfl, hp.objs.size + 1, _, _, ⟨G, g, dr, tk', os⟩, _, .ref C, some dx, rfl, J, fun b o z => ?_, ge, hx, ⟨rfl, rfl⟩, rfl, rfl, ?_, rfl, I1.bare, raises_own T.cls.exC T.cls.tyC, q1 dx nd⟩
      · by_cases hb : b = hp.objs.size + 1
        · rw [hb, ge] at z; cases z
        · exact (gk b hb).symm.trans z
      · rw [upd_ne (Ne.symm dne)]
        exact I1.hok.fresh hsz
end
end T2
end
section
set_option maxRecDepth 100000
set_option maxHeartbeats 2000000
namespace T2
open PySem PySem.Spec L2

/-! ### raise X(e) -/
/-- the class x of the program: __init__(self, v) keeps v as f -/
def XOk (P : Program) (K : PySem.W.Frag) (mg : Str → Option Value) (x f : Str) : Prop :=
  ∃ (fI cc cda : Addr) (qual sf nm msg : Str) (params : Arguments) (body : List Stmt) (scope : Scope), XCls P K mg (He.ga K x) fI cc cda qual sf nm f msg params body scope ∧ mg x = some (.ref (He.ga K x))
def sRaise (x f : Str) (fe : FE) : FS := sDo fe fun d ρ => .exc x [(f, d)] ρ
section
variable {S : Sg} {mR : Md} {ownL own own1 own' : List Nat} {body : List Stmt} {F : FS} {e : Expr} {fe : FE} {i : Nat} {n x f : Str} {pos p pos' np : Pos}
theorem s_raise (T : XOk S.P S.K S.mg x f) (hlv : 1 ≤ S.lv) (hc : S.calm = true) (hg : kdOf S.sc x = some .globalImplicit) (he : VE S own .sh e fe) (hdb : (x == ("__debug__" : Str)) = false)
    (hs : ∀ X : Cx, starEach [e] X.env = (false, eval e X.env) :: starEach [] X.env := by intro _; rfl) (hpl : ∀ X : Cx, (backTo pos (starEach [] X.env)).any (·.1) = false := by intro _; rfl) :
    V1 S mR ownL own own' (.Raise (some (.Call (.Name x p) [e] [] pos)) none pos') (sRaise x f fe) := by
  obtain ⟨t, a1, a2⟩ := he
  obtain ⟨fI, cc, cda, qual, sf, nm, msg, params, bd, scope, T, hm⟩ := T
  refine ⟨fun _ σ H => (tCons t tNil) σ H fun vs H1 => ∃ y, vs = [y] ∧ ∀ d, H1 d = none → S.W (.ref (He.ga S.K x)) (some d) σ (upd H1 d (.xd [(f, y)])), fun X g => ?_, fun B0 H0 ρ σ B H D I p => ?_⟩
  · have T' : XCls X.prog X.K X.mg (He.ga S.K x) fI cc cda qual sf nm f msg params bd scope := by rw [g.hP, g.hK, g.hm]; exact T
    exact ps_raise (g.calm hc) g.tk (pmk_x T' ((g.room hc).mono hlv) (g.gl hg) (g.mgx hm) (pa_cons (a1 X g) pa_nil (hs X)) hdb (hs X) (hpl X))
  · refine a2 B0 H0 ρ σ B H _ I (sDo_post I p fun d v B1 H1 _ s r p1 => ?_)
    refine ⟨v, rfl, fun dd hn => exc_out (I.step s) p1 _ _ _ _ (.put s.sub hn) ⟨rfl, .inr ⟨dd, [(f, v)], rfl, upd_same, .cons (Rep.mono (same_upd (s.sub.free hn)) r) .nil⟩⟩⟩

/-! ### try: .. except x as n: .. -/
def aft (i : Nat) : Fl → Fl
  | .nx ρ => .nx (ρ.set i none)
  | .ct ρ => .ct (ρ.set i none)
  | .bk ρ => .bk (ρ.set i none)
  | .ret d => .ret d
  | .exc _ _ _ => .bad
  | .bad => .bad
open Classical in
/-- the one answer, wherever the exception lies -/
noncomputable def pick (g : Addr → Option Addr → Fl) : Fl := if ∀ a dx, g a dx = g 0 none then g 0 none else .bad
theorem pick_eq {g : Addr → Option Addr → Fl} {r : Fl} (h : ∀ a dx, g a dx = r) : pick g = r := by
  unfold pick
  rw [if_pos fun a dx => (h a dx).trans (h 0 none).symm]
  exact h 0 none
noncomputable def sTry (i : Nat) (ct : Str → Option Bool) (F : FS) (G : Addr → Option Addr → Str → FS) : FS := fun ρ => match F ρ with
  | .exc c fs ρ' => (match ct c with
    | some true => pick fun a dx => aft i (G a dx c (ρ'.set i (some (.exn a dx c fs))))
    | some false => .exc c fs ρ'
    | none => .bad)
  | r => r
def Sg.susp (S : Sg) (q : Sus) : Sg := { S with W := fun _ _ _ _ => False, calm := false, sus := some q }
theorem Good.try_ {X : Cx} (g : Good S X) (hs : S.sus = none) {W : WX} {pn : List (Addr × Obj)} {xe : Value → Shared → Prop} (tk : Takes (X.tr pn xe) W) (po : PassesOwn (model X.prog X.w) X.A X.env xe) : Good { S with W := W } (X.tr pn xe) where
  hP := g.hP
  hw := g.hw
  hK := g.hK
  hm := g.hm
  hb := g.hb
  hN := g.hN
  kd := g.kd
  hc := g.hc
  rm := g.rm
  un := g.un
  su := fun q h => by
    have h : S.sus = some q := h
    rw [hs] at h
    cases h
  tk := tk
  nd := g.nd
  fn := g.fn
  po := po
  cq := g.cq
  tp := g.tp
theorem Good.susp_ {X : Cx} (g : Good S X) {a : Addr} {dx : Option Addr} {c : Str} {oe : Obj} {pn : List (Addr × Obj)} (hz : Zc (.ref (He.ga S.K c)) dx oe) (hf : ∃ vs, oe.data = .fields vs) : Good (S.susp ⟨a, dx, c⟩) (X.suite a ((a, oe) :: pn)) where
  hP := g.hP
  hw := g.hw
  hK := g.hK
  hm := g.hm
  hb := g.hb
  hN := g.hN
  kd := g.kd
  hc := rfl
  rm := fun h => nomatch h
  un := g.un
  su := fun q h => by
    cases h
    exact ⟨X, oe, pn, rfl, hz, hf⟩
  tk := takes0
  nd := g.nd
  fn := g.fn
  po := PassesOwn.never
  cq := g.cq
  tp := g.tp
theorem s_try {ct : Str → Option Bool} {b0 : Stmt} {suite : List Stmt} {G : Addr → Option Addr → Str → FS} (hs : S.sus = none) (htp : S.top = true) (hi : S.N[i]? = some n) (hln : kdOf S.sc n = some .local) (hx : kdOf S.sc x = some .globalImplicit) (hmx : S.mg x = some (.ref (He.ga S.K x)))
    (hdb : (x == ("__debug__" : Str)) = false) (hct : ∀ c b, ct c = some b → PySem.W.exmOne S.K (.ref (He.ga S.K c)) (.ref (He.ga S.K x)) = some b)
    (hb : ∀ W, VS { S with W := W } mR ownL own own1 body F) (hsu : ∀ q : Sus, VS (S.susp q) mR ownL [] own1 (b0 :: suite) (G q.a q.dx q.c)) :
    V1 S mR ownL own own1 (.Try body [.ExceptHandler (some (.Name x np)) (some n) (b0 :: suite) pos'] [] [] pos) (sTry i ct F G) := by
  obtain ⟨tb, htb⟩ := Classical.axiomOfChoice hb
  obtain ⟨tq, htq⟩ := Classical.axiomOfChoice hsu
  refine ⟨fun D σ H => tb (wAs S.K (.ref (He.ga S.K x)) i (fun a cls d D σ H => ∃ c, cls = .ref (He.ga S.K c) ∧ tq ⟨a, d, c⟩ D σ H) S.W D) D σ H, fun X g => ?_, fun B0 H0 ρ σ B H D I p => ?_⟩
  · obtain ⟨h1, h2⟩ := g.tp htp
    have hln' : X.env.kindOf n = some .local := by
      show X.env.scope.names.lookup n = _
      rw [g.kd]; exact hln
    rw [← g.hK] at hmx ⊢
    refine ps_try_as h1 h2 (by rw [g.hN]; exact g.nd) (g.nx hi) hln' ⟨g.gl hx, hdb, .inl (g.mgx hmx)⟩ g.tk (fun W pn xe tk po => (htb W).1 _ (g.try_ hs tk po)) (fun a oe cls d pn hz hf => ⟨fun pins s σ H D I h => ?_⟩)
    obtain ⟨c, rfl, h⟩ := h
    rw [g.hK] at hz
    exact ((htq ⟨a, d, c⟩).1 _ (g.susp_ hz hf)).run pins s σ H D I h
  · refine (htb _).2 B0 H0 ρ σ B H D I ?_
    unfold sTry at p
    cases q : F ρ with
    | nx ρ' => rw [q] at p; exact p
    | ct ρ' => rw [q] at p; exact p
    | bk ρ' => rw [q] at p; exact p
    | ret d => rw [q] at p; exact p
    | bad => rw [q] at p; exact p
    | exc c fs ρ' =>
      rw [q] at p
      intro cls dx σ' B' H' I' x'
      have e1 := x'.1
      subst e1
      cases qc : ct c with
      | none => simp only [qc] at p; exact p.elim
      | some b =>
        refine ⟨b, hct c b qc, fun hb a ha => ?_, fun hb => ?_⟩
        · subst hb
          simp only [qc] at p
          refine ⟨c, rfl, (htq ⟨a, dx, c⟩).2 B0 H0 (ρ'.set i (some (.exn a dx c fs))) _ B' H' _ ?_ ?_⟩
          · refine I'.put ?_
            rcases x'.2 with ⟨rfl, rfl⟩ | ⟨dd, vs, rfl, h1, h2⟩
            · exact .exn0 a c
            · exact .exn h1 h2
          · unfold pick at p
            split at p
            · rename_i hall
              rw [← hall a dx] at p
              have fg : ∀ {own : List Nat} {ρ : Rho} {σ : St} {B H : Hp}, TInv S.T S.K B0 H0 own ρ σ B H → TInv S.T S.K B0 H0 own (ρ.set i none) (σ.set i none) B H := fun {own ρ σ B H} J => J.forget (by simpa using J.len) fun j d e => by
                by_cases z : j = i
                · subst z
                  have hlt : j < ρ.length := by have := (List.getElem?_eq_some_iff.mp e).1; simpa using this
                  rw [List.getElem?_set_self hlt] at e
                  cases e
                · rw [List.getElem?_set_ne (Ne.symm z)] at e
                  exact ⟨e, by rw [List.getElem?_set_ne (Ne.symm z)]⟩
              show PostS S.T S.K (fun _ _ _ _ => False) mR own1 ownL B0 H0 _ (G a dx c (ρ'.set i (some (.exn a dx c fs))))
              have p : PostS S.T S.K S.W mR own1 ownL B0 H0 D (aft i (G a dx c (ρ'.set i (some (.exn a dx c fs))))) := p
              cases qg : G a dx c (ρ'.set i (some (.exn a dx c fs))) with
              | nx ρ2 => rw [qg] at p; exact fun σ2 B2 H2 J => p _ _ _ (fg J)
              | ct ρ2 => rw [qg] at p; exact fun σ2 B2 H2 J => p _ _ _ (fg J)
              | bk ρ2 => rw [qg] at p; exact fun σ2 B2 H2 J => p _ _ _ (fg J)
              | ret d => rw [qg] at p; exact p
              | exc c2 fs2 ρ2 => rw [qg] at p; exact p.elim
              | bad => rw [qg] at p; exact p.elim
            · exact p.elim
        · subst hb
          simp only [qc] at p
          exact p _ _ _ _ _ I' x'
end
end T2
end
section
set_option maxRecDepth 100000
set_option maxHeartbeats 2000000
namespace T2
open PySem PySem.Spec L2

/-! ### an exception's class is asked, its dict stands or stands not -/
section
open PySem.W PySem.Calls PyProof.Rows
variable {prog : Program} {w : World} {A : Around} {E : Value → Shared → Prop} {K : Frag} {x D : Addr} {ox : Obj} {od : Option Obj}
/-- what the class says (as ExcC) -/
theorem exc_find (C : ExcC K D) : findObj K D od "__class__" = some (.bind (.builtin "getset_descriptor.__get__") (.builtin "object.__class__")) := by
  obtain ⟨cd, hcd, _⟩ := any_some C.hd
  unfold findObj
  rw [hcd, Option.bind_some, C.ha, Option.bind_some]
  simp only [C.hn, C.ht, Option.bind_some]
theorem exc_cls {hp : Heap} {g : Array GenState} {d : Drawn} {t : Nat} {os : OsState} {Q : Option Value → Shared → Prop} (C : ExcC K D) (X : K.In hp) (I : InstAt hp x ox D od) (h : Q (some (.ref D)) ⟨hp, g, d, t + 1, os⟩) :
    wpAny (model prog w) A (getAttr? (.ref x) "__class__") Q E ⟨hp, g, d, t, os⟩ := by
  have ty := I.type (M := model prog w)
  have isB : Looks (model prog w) hp (isInstance (.ref x) (.type "BaseException")) true := ty.andThen (looks_subIn X C.hs)
  have e1 : (Value.builtin "BaseException.__getattribute__" == Value.builtin "object.__getattribute__") = false := by decide +kernel
  have e2 : (onTheHeap (Value.ref D) && Value.builtin "BaseException.__getattribute__" == Value.builtin "object.__getattribute__") = false := by rw [e1]; rfl
  have e3 : (false && onTheHeap (Value.builtin "BaseException.__getattribute__")) = false := rfl
  unfold getAttr? getAttrBy? getAttrBy
  refine wpAny_bind (wpAny_mkText (wpAny_bind (wpAny_attempt (wpAny_holding (wpAny_bind (ty.at (wpAny_bind ((looks_findIn X C.hg).at ?_))))))))
  show wpAny _ _ (if (onTheHeap (Value.ref D) && Value.builtin "BaseException.__getattribute__" == Value.builtin "object.__getattribute__") = true
    then _ else _) _ _ _
  rw [e2, if_neg Bool.false_ne_true]
  unfold getAttrByItsOwn hookBefore
  refine wpAny_bind ?_
  rw [if_pos (show onTheHeap (Value.ref D) = true by rfl)]
  refine (looks_findIn X C.hk).at (wpAny_bind (wpAny_attempt (wpAny_holding ?_)))
  unfold callGetattribute
  rw [e3, if_neg Bool.false_ne_true]
  unfold boundAndCalled
  rw [PySem.F.excAttr_ValueError.ga.bind (.ref x)]
  refine wpAny_bind (wpAny_pure ?_)
  show wpAny _ _ (call (.builtin "BaseException.__getattribute__") [.ref x, .str "__class__" t]) _ _ _
  have entry := PySem.F.entry_bexc_ga
  refine wpAny_call (codeAny_call_builtin PySem.F.excAttr_ValueError.ga.plain entry ?_)
  refine @check_slot (model prog w) _ _ ⟨hp, g, d, t + 1, os⟩ "BaseException.__getattribute__" "BaseException" "__getattribute__" (.ref x)
    [.str "__class__" t] [] _ (by decide +kernel) (by decide +kernel) isB (PySem.F.args_bexc_ga (.ref x) (.str "__class__" t)) ?_
  unfold Builtin.«object.__getattribute__»
  refine wpAny_bind (wpAny_of_eq (a := ((Value.ref x : Value), [Value.str "__class__" t])) (by first | rfl | (simp only [slotArgs] <;> rfl)) ?_)
  refine wpAny_bind (wpAny_pure (wpAny_bind (ty.at (wpAny_bind ((looks_find X I (exc_find C)).at ?_)))))
  show wpAny _ _ (holding [Value.builtin "object.__class__"] (call (.builtin "getset_descriptor.__get__") [.builtin "object.__class__", .ref x, .ref D])
    >>= ret) _ _ _
  refine wpAny_bind (wpAny_holding (wpAny_call (class_get (s := ⟨hp, g, d, t + 1, os⟩) (ox := ox) (od := od) X I C.hm (wpAny_pure ?_))))
  show wpAny _ _ (handedOut (.ref D)) _ _ _
  rw [handedOut_of (v := .ref D) rfl]
  first
    | exact wpAny_pure h
    | exact wpAny_pure (wpAny_pure h)
    | exact wpAny_pure (wpAny_bind (wpAny_pure (wpAny_pure h)))
theorem exc_kit (C : ExcC K D) : KitX K (.ref x) (.ref D) (fun h => ∃ ox od, InstAt h x ox D od) where
  ty := fun _ _ _ ⟨_, _, I⟩ => I.type
  it := fun M h X _ => by
    obtain ⟨cd, hcd, _⟩ := any_some C.hd
    unfold clsIn at hcd
    split at hcd
    · rename_i c' d' cd' sl' ho
      intro A' Q' E' s' k q
      unfold isType loadHead
      exact wpAny_bind (wpAny_loadPart (k _ _ (X _ _ ho)) (wpAny_pure q))
    · cases hcd
  ne := fun h tp dd its n sl X htp => by
    obtain ⟨cd, hcd, _⟩ := any_some C.hd
    refine Bool.eq_false_iff.mpr fun q => ?_
    obtain rfl : D = tp := Value.ref.inj (beq_iff_eq.mp q)
    unfold clsIn at hcd
    split at hcd
    · rename_i c' d' cd' sl' ho
      have z := (X _ _ ho).symm.trans htp
      cases z
    · cases hcd
  ca := fun {prog w A E Q s} X ⟨ox, od, I⟩ k => by
    obtain ⟨hp, g, d, t, os⟩ := s
    exact exc_cls C X I k
end
theorem RepF.look {K : PySem.W.Frag} {B : Hp} {f : Str} {d : D} : ∀ {vs : List (Str × V)} {ds : List (Str × D)}, RepF K B vs ds → ds.lookup f = some d → ∃ v, vs.lookup f = some v ∧ Rep K B v d
  | _, _, .nil, h => by cases h
  | _, _, .cons (k := k) r t, h => by
    rw [List.lookup_cons] at h
    split at h
    · rename_i e
      cases h
      exact ⟨_, by rw [List.lookup_cons, e], r⟩
    · rename_i e
      obtain ⟨v, h1, h2⟩ := t.look h
      exact ⟨v, by rw [List.lookup_cons, e]; exact h1, h2⟩
/-- error.f: fok tells the classes whose fields can be read -/
def xfD (fok : Str → Bool) (a : Addr) (dx : Option Addr) (c f : Str) : D → R D
  | .exn a' dx' c' fs => if a' = a ∧ dx' = dx ∧ c' = c ∧ fok c = true then (match fs.lookup f with
    | some d => .ok d
    | none => .bad) else .bad
  | _ => .bad
/-- isinstance(error, X): it tells the answer, class by class -/
def isED (it : Str → Option Bool) (a : Addr) (dx : Option Addr) (c : Str) : D → R D
  | .exn a' dx' c' _ => if a' = a ∧ dx' = dx ∧ c' = c then (match it c with
    | some b => .ok (.bl b)
    | none => .bad) else .bad
  | _ => .bad
section
variable {S : Sg} {own : List Nat} {e : Expr} {fe : FE} {a : Addr} {dx : Option Addr} {c f x : Str} {p pos p2 : Pos}
theorem ve_errF {fok : Str → Bool} (hs : S.sus = some ⟨a, dx, c⟩) (hk : ∀ c, fok c = true → XfC S.K (He.ga S.K c) ∧ PySem.W.findIn S.K (.ref (He.ga S.K c)) f = some none) (he : VE S own .lk e fe)
    (hb : ∀ X : Cx, attributeBase e f X.env (eval e X.env) = eval e X.env := by intro _; rfl) : VE S own .sh (.Attribute e f pos) (f1 (xfD fok a dx c f) fe) := by
  obtain ⟨t, a1, a2⟩ := he
  cases q : fok c with
  | false =>
    refine ⟨fun σ H Q => t σ H fun _ _ => False, fun X g => ⟨fun pins s σ H Q I h => attr_of (hb X) (thn ((a1 X g).run pins s σ H _ I h) fun u s1 ⟨_, _, _, _, z⟩ => z.elim)⟩, fun B0 H0 ρ σ B H Q I p => ?_⟩
    refine a2 B0 H0 ρ σ B H _ I (Post.seq anti_res p fun d v B1 H1 e1 s1 r1 p1 => ?_)
    cases d with
    | exn a' dx' c' fs =>
      have p1 : Post S.T S.K S.W (Res .sh S.K) σ B1 H1 (xfD fok a dx c f (.exn a' dx' c' fs)) Q := p1
      simp only [xfD, q] at p1
      rw [if_neg (fun z => by simp at z)] at p1
      exact p1
    | _ => exact p1
  | true =>
    obtain ⟨T, hno⟩ := hk c q
    refine ⟨tXf a (.ref (He.ga S.K c)) dx (He.ga S.K c) f t, fun X g => ?_, fun B0 H0 ρ σ B H Q I p => ?_⟩
    · obtain ⟨X0, oe, pn, rfl, hz, hf⟩ := g.su _ hs
      have hK : X0.K = S.K := g.hK
      exact pe_xf (by rw [hK]; exact T) (by rw [hK]; exact hno) hz hf (a1 _ g) (hb _)
    · refine a2 B0 H0 ρ σ B H _ I (Post.seq anti_res p fun d v B1 H1 e1 s1 r1 p1 => ?_)
      cases d with
      | exn a' dx' c' fs =>
        simp only [xfD] at p1
        split at p1
        · rename_i hh
          obtain ⟨rfl, rfl, rfl, _⟩ := hh
          split at p1
          · rename_i d hd
            cases (show Rep S.K B1 v (.exn a' dx' c' fs) from r1) with
            | exn0 => cases hd
            | exn hB rf =>
              obtain ⟨y, h1, h2⟩ := rf.look hd
              exact ⟨rfl, rfl, _, _, y, rfl, s1.sub _ _ hB, h1, p1.okv s1.sub h2⟩
          · exact p1.elim
        · exact p1.elim
      | _ => exact p1.elim
theorem ve_errIs {it : Str → Option Bool} (hs : S.sus = some ⟨a, dx, c⟩) (hg : kdOf S.sc "isinstance" = some .globalImplicit) (hm : S.mg "isinstance" = none) (hx : kdOf S.sc x = some .globalImplicit) (hmx : S.mg x = some (.ref (He.ga S.K x))) (hdb : (x == ("__debug__" : Str)) = false)
    (hk : ∀ c b, it c = some b → ExcC S.K (He.ga S.K c) ∧ PySem.W.kitOne S.K (.ref (He.ga S.K c)) (.ref (He.ga S.K x)) = some b) (he : VE S own .lk e fe)
    (hst : ∀ X : Cx, starEach [e, .Name x p2] X.env = (false, eval e X.env) :: starEach [.Name x p2] X.env := by intro _; rfl) : VE S own .sh (.Call (.Name "isinstance" p) [e, .Name x p2] [] pos) (f1 (isED it a dx c) fe) := by
  obtain ⟨t, a1, a2⟩ := he
  refine ⟨tCB (fun xs H Q => xs = [.ref a, .ref (He.ga S.K x)] ∧ (dx = none ∨ ∃ d vs, dx = some d ∧ H d = some (.xd vs)) ∧ ∃ b, it c = some b ∧ Q (.bl b) H) (tCons t (tCons (tC (.ref (He.ga S.K x))) tNil)), fun X g => ?_, fun B0 H0 ρ σ B H Q I p => ?_⟩
  · refine pe_callB ?_ (g.gl hg) (g.mgx hm) PyProof.Rows.boot_isinstance (pa_cons (a1 X g) (pa_cons (pe_glob (v := .ref (He.ga S.K x)) (g.gl hx) (g.mgx hmx) rfl hdb) pa_nil) (hst X)) (by decide) (by decide) (hst X) rfl
    obtain ⟨X0, oe, pn, rfl, hz, vs, hv⟩ := g.su _ hs
    intro pins s σ H xs us Q I r h
    obtain ⟨rfl, hd, b, hb, q⟩ := h
    obtain ⟨C, kb⟩ := hk c b hb
    have hK : X0.K = S.K := g.hK
    cases r with
    | cons rx rr =>
      cases rr with
      | cons rt rr =>
        cases rr
        cases rx
        cases rt
        obtain ⟨hget, _⟩ := I.pin (a, oe) (List.mem_append.mpr (.inl List.mem_cons_self))
        have J : ∃ ox od, PySem.W.InstAt s.heap a ox (He.ga S.K c) od := by
          have nc : PySem.W.notCls oe = true := by unfold PySem.W.notCls; rw [hv]
          rcases hd with rfl | ⟨dd, fs, rfl, hd⟩
          · exact ⟨oe, none, hget, hz.1, nc, by rw [hz.2]; trivial⟩
          · have hx : ObjOk X0.prog X0.w H s.heap dd (.xd fs) := I.hok dd _ hd
            obtain ⟨mA, ⟨od, es, ep, ho, _⟩, _⟩ := hx
            exact ⟨oe, some od, hget, hz.1, nc, by rw [hz.2]; exact ho⟩
        have C' : ExcC X0.K (He.ga S.K c) := by rw [hK]; exact C
        exact PySem.W.kia_one (exc_kit C') I.kIn J (by rw [hK]; exact kb) (fun z => nomatch z) fun tk => ⟨.bl b, H, I.kept (t' := tk) fun _ _ z => z, rfl, q⟩
  · refine a2 B0 H0 ρ σ B H _ I (Post.seq anti_res p fun d v B1 H1 e1 s1 r1 p1 => ?_)
    cases d with
    | exn a' dx' c' fs =>
      simp only [isED] at p1
      split at p1
      · rename_i hh
        obtain ⟨rfl, rfl, rfl⟩ := hh
        split at p1
        · rename_i b hb
          cases (show Rep S.K B1 v (.exn a' dx' c' fs) from r1) with
          | exn0 => exact ⟨rfl, .inl rfl, b, hb, p1.okv s1.sub (.bl b)⟩
          | exn hB rf => exact ⟨rfl, .inr ⟨_, _, rfl, s1.sub _ _ hB⟩, b, hb, p1.okv s1.sub (.bl b)⟩
        · exact p1.elim
      · exact p1.elim
    | _ => exact p1.elim
end
end T2
end
section
set_option maxRecDepth 100000
set_option maxHeartbeats 2000000
namespace T2
open PySem PySem.Spec L2

/-! ### dicts: keys are ints and texts -/
def keyD : D → Option Key
  | .int i => some (.inl i)
  | .str s => some (.inr s)
  | _ => none
def lookK (kvs : List (Key × D)) (k : Key) : Option D := (kvs.find? fun kv => decide (kv.1 = k)).map (·.2)
def storeK (kvs : List (Key × D)) (k : Key) (d : D) : List (Key × D) :=
  if (kvs.any fun kv => decide (kv.1 = k)) = true then kvs.map (fun kv => if kv.1 = k then (kv.1, d) else kv) else kvs ++ [(k, d)]
section
variable {K : PySem.W.Frag} {B : Hp}
theorem RepKV.length : ∀ {vs : List (Key × V)} {ds : List (Key × D)}, RepKV K B vs ds → vs.length = ds.length
  | _, _, .nil => rfl
  | _, _, .cons _ r => by rw [List.length_cons, List.length_cons, r.length]
theorem RepKV.look (k : Key) : ∀ {vs : List (Key × V)} {ds : List (Key × D)}, RepKV K B vs ds → (valV vs k).isSome = (lookK ds k).isSome ∧ ∀ d, lookK ds k = some d → ∃ v, valV vs k = some v ∧ Rep K B v d
  | _, _, .nil => ⟨rfl, fun d h => by cases h⟩
  | _, _, .cons (k := k') (v := v) (vs := vs) (d := d) (ds := ds) r t => by
    obtain ⟨h1, h2⟩ := RepKV.look k t
    by_cases e : k' = k
    · have a : valV ((k', v) :: vs) k = some v := valV_pos e
      have b : lookK ((k', d) :: ds) k = some d := by simp [lookK, e]
      rw [a, b]
      exact ⟨rfl, fun d' h => by cases h; exact ⟨v, rfl, r⟩⟩
    · have a : valV ((k', v) :: vs) k = valV vs k := valV_neg e
      have b : lookK ((k', d) :: ds) k = lookK ds k := by simp [lookK, e]
      rw [a, b]
      exact ⟨h1, h2⟩
theorem RepKV.any (k : Key) : ∀ {vs : List (Key × V)} {ds : List (Key × D)}, RepKV K B vs ds → (vs.any fun kv => decide (kv.1 = k)) = ds.any fun kv => decide (kv.1 = k)
  | _, _, .nil => rfl
  | _, _, .cons r t => by rw [List.any_cons, List.any_cons, RepKV.any k t]
theorem RepKV.repl {k : Key} {v : V} {d : D} (h : Rep K B v d) : ∀ {vs : List (Key × V)} {ds : List (Key × D)}, RepKV K B vs ds → RepKV K B (vs.map fun kv => if kv.1 = k then (kv.1, v) else kv) (ds.map fun kv => if kv.1 = k then (kv.1, d) else kv)
  | _, _, .nil => .nil
  | _, _, .cons (k := k') r t => by
    rw [List.map_cons, List.map_cons]
    by_cases e : k' = k
    · rw [if_pos e, if_pos e]; exact .cons h (RepKV.repl h t)
    · rw [if_neg e, if_neg e]; exact .cons r (RepKV.repl h t)
theorem RepKV.snoc {k : Key} {v : V} {d : D} (h : Rep K B v d) : ∀ {vs : List (Key × V)} {ds : List (Key × D)}, RepKV K B vs ds → RepKV K B (vs ++ [(k, v)]) (ds ++ [(k, d)])
  | _, _, .nil => .cons h .nil
  | _, _, .cons r t => .cons r (RepKV.snoc h t)
theorem RepKV.put {k : Key} {v : V} {d : D} (h : Rep K B v d) {vs : List (Key × V)} {ds : List (Key × D)} (r : RepKV K B vs ds) : RepKV K B (putK vs k v) (storeK ds k d) := by
  unfold putK storeK
  rw [r.any k]
  split
  · exact r.repl h
  · exact r.snoc h
theorem Lk.key_of {H : Hp} {v : V} {d : D} {k : Key} (h : Lk K B H v d) (e : keyD d = some k) : v = kV k := by
  cases d with
  | int i => obtain rfl := h.int_of; cases e; rfl
  | str i => obtain rfl := h.str_of; cases e; rfl
  | _ => cases e
end
section
variable {S : Sg} {mR : Md} {ownL own own' : List Nat} {e ie : Expr} {fe fk : FE} {i : Nat} {x : Str} {pos p p2 : Pos}
/-- in, a dict too -/
def inE (x y : D) : R D := match y with
  | .dic kvs => (match keyD x with
    | some k => .ok (.bl (lookK kvs k).isSome)
    | none => .bad)
  | y => inD x y
def ninE (x y : D) : R D := match y with
  | .dic kvs => (match keyD x with
    | some k => .ok (.bl (!(lookK kvs k).isSome))
    | none => .bad)
  | y => ninD x y
theorem op_dIn {X : Cx} (hu : X.A.units + 1 < cLine) : OpR X (compareOp .In) (fun y x H Q => ∃ a o, x = .ref a ∧ DGet H a y o ∧ Q (.bl o.isSome) H) := by
  intro pins s σ H y x iv u Q I ry rx ⟨a, ov, ex, g, q⟩
  subst ex
  obtain rfl : u = Value.ref a := rx
  exact d_in hu I g ry fun s3 I3 => ⟨.bl ov.isSome, H, I3, rfl, q⟩
theorem op_dNin {X : Cx} (hu : X.A.units + 1 < cLine) : OpR X (compareOp .NotIn) (fun y x H Q => ∃ a o, x = .ref a ∧ DGet H a y o ∧ Q (.bl (!o.isSome)) H) := by
  intro pins s σ H y x iv u Q I ry rx ⟨a, ov, ex, g, q⟩
  subst ex
  obtain rfl : u = Value.ref a := rx
  exact d_notIn hu I g ry fun s3 I3 => ⟨.bl (!ov.isSome), H, I3, rfl, q⟩
theorem os_inE (hc : true = true) : OpS S (compareOp .In) .sh inE := by
  obtain ⟨r, h1, h2⟩ := os_in (S := S) hc
  refine ⟨_, fun X g => (h1 X g).or (op_dIn (by have := g.un; omega)), fun x y dx dy σ B H Q s hx hy p => ?_⟩
  cases dy with
  | dic kvs =>
    simp only [inE] at p
    split at p
    · rename_i k hk
      obtain ⟨a, vs, rfl, e1, r1⟩ := hy
      refine .inr ⟨a, _, rfl, by rw [hx.key_of hk]; exact DGet.k e1, ?_⟩
      rw [(r1.look k).1]
      exact p.okv s (.bl _)
    · exact p.elim
  | _ => exact .inl (h2 _ _ _ _ _ _ _ _ s hx hy p)
theorem os_ninE (hc : true = true) : OpS S (compareOp .NotIn) .sh ninE := by
  obtain ⟨r, h1, h2⟩ := os_nin (S := S) hc
  refine ⟨_, fun X g => (h1 X g).or (op_dNin (by have := g.un; omega)), fun x y dx dy σ B H Q s hx hy p => ?_⟩
  cases dy with
  | dic kvs =>
    simp only [ninE] at p
    split at p
    · rename_i k hk
      obtain ⟨a, vs, rfl, e1, r1⟩ := hy
      refine .inr ⟨a, _, rfl, by rw [hx.key_of hk]; exact DGet.k e1, ?_⟩
      rw [(r1.look k).1]
      exact p.okv s (.bl _)
    · exact p.elim
  | _ => exact .inl (h2 _ _ _ _ _ _ _ _ s hx hy p)
/-- {} -/
def fDic0 : FE := fun _ => .ok (.dic [])
theorem ve_dic0 : VE S own .fr (.Dict [] [] pos) fDic0 := ⟨_, fun X g => pe_dnewK, fun B0 H0 ρ σ B H Q I p => fun q n => p _ B _ (.own I.sub n) ⟨q, rfl, n, I.sub.free n, _, upd_same, .nil⟩⟩
/-- xs[k] = e, d[k] = e -/
def sSetE (i : Nat) (fk fe : FE) : FS := fun ρ => match ρ[i]? with
  | some (some (.dic ds)) => sDo fe (fun d => sDo fk fun k ρ => match keyD k with
    | some k => if ds.length < sizeLine then .nx (ρ.set i (some (.dic (storeK ds k d)))) else .bad
    | none => .bad) ρ
  | _ => sSet i fk fe ρ
theorem set_E {X : Cx} (hu : X.A.units + 1 < cLine) : PSet X (fun o i v H Q => rSetL o i v H Q ∨ rSetD o i v H Q) := by
  intro pins s σ H o i v ov iv u Q I ro ri rv h
  rcases h with h | h
  · exact set_list pins s σ H o i v ov iv u Q I ro ri rv h
  · exact set_dict hu pins s σ H o i v ov iv u Q I ro ri rv h
theorem s_setE (hN : S.N[i]? = some x) (hv : visB S.sc x = true) (hi : i ∈ own) (hd : (x == ("__debug__" : Str)) = false) (hcd : (x == ("__classdict__" : Str)) = false) (he : VE S own .sh e fe) (hk : VE S own .lk ie fk)
    (hs : ∀ X : Cx, swapsWithSole [.Subscript (.Name x p) ie p2] e pos.line X.env = pure false := by intro _; rfl)
    (hw : ∀ X : Cx, swappedStores [.Subscript (.Name x p) ie p2] e X.env = pure none := by intro _; rfl) (h1 : ∀ X : Cx, (assignEach [.Subscript (.Name x p) ie p2] X.env).map (·.2) = [assign (.Subscript (.Name x p) ie p2) X.env] := by intro _; rfl)
    (ha : ∀ (X : Cx) v, assign (.Subscript (.Name x p) ie p2) X.env v = (do
      let ov ← holding [v] (eval (.Name x p) X.env)
      let iv ← holding [v, ov] (eval ie X.env)
      standAt p2
      holding [v, ov, iv] (setItem ov iv v)
      release [v, ov, iv] []) := by intro _ _; rfl) : V1 S mR ownL own own (.Assign [.Subscript (.Name x p) ie p2] e pos) (sSetE i fk fe) := by
  obtain ⟨t, a1, a2⟩ := he
  obtain ⟨u, b1, b2⟩ := hk
  refine ⟨_, fun X g => ps_asg (a1 X g) (pg_sub (pe_var (g.nx hN) (g.vis hv) hd hcd) (b1 X g) (set_E (by have := g.un; omega)) (ha X)) (hs X) (hw X) (h1 X), fun B0 H0 ρ σ B H D I p => ?_⟩
  obtain ⟨ad, h1, h2⟩ := id I.ow
  unfold sSetE sSet at p
  split at p
  · rename_i ds e
    obtain ⟨sa, na, oa⟩ := h1 i _ hi e
    refine a2 B0 H0 ρ σ B H _ I (sDo_post I p fun d v B1 H1 _ s r p1 => ?_)
    refine ⟨_, sa, b2 B0 H0 ρ σ B1 H1 _ (I.step s) (sDo_post (I.step s) p1 fun k kv B2 H2 _ s2 rk p2 => ?_)⟩
    have p3 : PostS S.T S.K S.W mR own ownL B0 H0 D (match keyD k with
      | some k => if ds.length < sizeLine then .nx (ρ.set i (some (.dic (storeK ds k d)))) else .bad
      | none => .bad) := p2
    split at p3
    · rename_i key hkey
      split at p3
      · rename_i hz
        have I2 := (I.step s).step s2
        obtain ⟨nb, vs, e2, r2⟩ := (oa.step s).step s2
        exact .inr ⟨ad i, _, rfl, by rw [Lk.key_of rk hkey]; exact DPut.k e2 (by rw [r2.length]; exact hz), p3 _ _ _ (I2.change hi e sa ⟨nb, _, upd_same, r2.put (Rep.mono s2.bb r)⟩)⟩
      · exact p3.elim
    · exact p3.elim
  · split at p
    · rename_i ds e
      obtain ⟨sa, na, oa⟩ := h1 i _ hi e
      refine a2 B0 H0 ρ σ B H _ I (sDo_post I p fun d v B1 H1 _ s r p1 => ?_)
      refine ⟨_, sa, b2 B0 H0 ρ σ B1 H1 _ (I.step s) (sDo_post (I.step s) p1 fun k kv B2 H2 _ s2 rk p2 => ?_)⟩
      cases k with
      | int k =>
        have p3 : PostS S.T S.K S.W mR own ownL B0 H0 D (match ixN ds.length k with
          | some j => .nx (ρ.set i (some (.lst (ds.set j d))))
          | none => .bad) := p2
        split at p3
        · rename_i j hj
          have I2 := (I.step s).step s2
          obtain ⟨nb, vs, e2, r2⟩ := (oa.step s).step s2
          exact .inl ⟨ad i, vs, k, j, rfl, Lk.int_of (H := H2) rk, e2, by rw [RepAll.length r2]; exact hj, p3 _ _ _ (I2.change hi e sa ⟨nb, _, upd_same, r2.set (Rep.mono s2.bb r) j⟩)⟩
        · exact p3.elim
      | _ => exact p2.elim
    · exact p.elim
end
end T2
end
section
set_option maxRecDepth 100000
set_option maxHeartbeats 2000000
namespace T2
open PySem PySem.Spec L2

/-! ### sorted(xs, key=lambda x: (len(x), x)) -/
/-- a lambda of one parameter n -/
structure LamP (n : Str) (scope : Scope) : Prop where
  kind : scope.kind = .function
  co : scope.isCoroutine = false
  gen : scope.isGenerator = false
  ncell : ∀ y ∈ scope.names, y.2 ≠ .cell
  nfree : ∀ y ∈ scope.names, y.2 ≠ .free
  locN : scope.names.lookup n = some .local
  klen : scope.names.lookup ("len" : Str) = some .globalImplicit
  dN : (n == ("__debug__" : Str)) = false
def lamPB (n : Str) (scope : Scope) : Bool :=
  decide (scope.kind = .function) && !scope.isCoroutine && !scope.isGenerator && (scope.names.all fun y => !decide (y.2 = .cell) && !decide (y.2 = .free)) && decide (scope.names.lookup n = some .local) && decide (scope.names.lookup ("len" : Str) = some .globalImplicit) && !(n == ("__debug__" : Str))
theorem lamP_of {n : Str} {scope : Scope} (h : lamPB n scope = true) : LamP n scope := by
  unfold lamPB at h
  simp only [Bool.and_eq_true, Bool.not_eq_true', decide_eq_true_eq, decide_eq_false_iff_not, List.all_eq_true] at h
  obtain ⟨⟨⟨⟨⟨⟨h1, h2⟩, h3⟩, h4⟩, h5⟩, h6⟩, h7⟩ := h
  exact ⟨h1, h2, h3, fun y hy => (h4 y hy).1, fun y hy => (h4 y hy).2, h5, h6, h7⟩
section
open PySem.W PySem.Calls PyProof.Rows
variable {P : Program} {w : World} {A : Around}
theorem lam_turn {hp : Heap} {g : Array GenState} {d : Drawn} {t : Nat} {os : OsState} {f q c' : Addr} {qual n : Str} {params : Arguments} {scope : Scope} {pm ctv : Value} {p1 p2 p3 p4 p5 : Pos} {k : Nat} {its : List Value} {ds : List PyData} {mg mb : Str → Option Value} (L : LamP n scope)
    (hf : hp.get? f = some (kla_obj "<lambda>" qual params (.Tuple [.Call (.Name "len" p1) [.Name n p2] [] p3, .Name n p4] k p5) scope [] pm c' ctv)) (hcd : hp.CodeRec (.ref c') qual) (lim : hp.NoLimit) (hg : hp.Ns mainGlobals mg) (hl : mg "len" = none) (hb : hp.Ns builtinsNs mb)
    (hmb : mb "len" = bootBuiltins "len") (ht : IsTup hp q its.toArray) (hz : its.length ≤ sizeLine) (rd : ReadsAll hp its ds []) (hds : ds.length = its.length) (room : A.depth < recursionLimit)
    (hbind : ∀ v, bindArgs (kla_fn "<lambda>" qual params (.Tuple [.Call (.Name "len" p1) [.Name n p2] [] p3, .Name n p4] k p5) scope [] pm (.ref c') ctv) ⟨[v], []⟩ = pure [(n, v)]) :
    wpAny (model P w) A (call (.ref f) [.ref q]) (KeyPure (.tuple [.int ds.length, .tuple ds]) ⟨hp, g, d, t, os⟩) (fun _ _ => False) ⟨hp, g, d, t, os⟩ := by
  refine wpAny_call (kla_callFunE room hf rfl L.co L.gen rfl hcd ?_)
  rw [hbind]
  refine wpAny_pure (wpAny_newFunctionEnv L.ncell (fun y hy => ?_) (fun h₁ hns hsb => ⟨lim.fresh _ hsb, ?_⟩) L.kind)
  · rcases List.mem_cons.mp hy with rfl | hy
    · exact L.locN
    · cases hy
  · have kp : ∀ b o, hp.get? b = some o → h₁.get? b = some o := fun b o e => hsb.extBut b o (Nat.ne_of_lt (Heap.lt_size e)) (Heap.get?_push_of_some _ e)
    refine kla_codeExpr (wpAny_Tuple_spliced ?_)
    refine spliced_cons ?_
    refine wpAny_Call_Name_kw (Calls.Name_function_global L.kind L.klen (loadGlobal_builtin (hg.keeps kp) hl (hb.keeps kp) (hmb.trans (by first | rfl | decide +kernel)) ?_) (by decide))
    refine PyProof.Rows.callWith_builtin1 ?_
    refine spliced_cons ?_
    refine wpAny_Name ?_ L.dN
    refine wpAny_loadName_local (v := .ref q) L.kind L.locN hns (by simp [List.lookup]) (spliced_nil ?_)
    have ht1 : IsTup h₁ q its.toArray := by
      obtain ⟨o, e1, e2, e3⟩ := ht
      exact ⟨o, kp _ _ e1, e2, e3⟩
    have l63 := line63
    refine len_tuple ht1 (by simp only [List.size_toArray]; omega) ?_
    refine spliced_cons ?_
    rw [if_neg Bool.false_ne_true]
    refine wpAny_Name ?_ L.dN
    refine wpAny_loadName_local (v := .ref q) L.kind L.locN hns (by simp [List.lookup]) (spliced_nil ⟨by simp [sizeLine_eq], ?_⟩)
    refine ⟨_, _, rfl, fun b o e => Heap.get?_push_of_some _ (kp _ _ e), ?_⟩
    have ko : ∀ b o, hp.get? b = some o → (h₁.push { cls := .type "tuple", data := .seq #[.int its.toArray.size (t + [(n, Value.ref q)].length + 1), .ref q] }).get? b = some o := fun b o e => Heap.get?_push_of_some _ (kp _ _ e)
    obtain ⟨o, e1, e2, m, e3⟩ := ht
    have r2 := Reads.tuple (ko _ _ e1) e2 e3 (show ReadsAll _ its.toArray.toList ds [] from by
      have := PyProof.Rows.ReadsAll.keeps ko rd
      exact this)
    have r1 : Reads (h₁.push { cls := .type "tuple", data := .seq #[.int its.toArray.size (t + [(n, Value.ref q)].length + 1), .ref q] }) (.int its.toArray.size (t + [(n, Value.ref q)].length + 1)) (.int ds.length) [] := by
      have : ((its.toArray.size : Nat) : Int) = (ds.length : Int) := by rw [hds]; simp
      rw [this]
      exact .int _ _
    exact Reads.tuple (Heap.get?_push_size _ rfl) rfl rfl (.cons r1 (.cons r2 .nil))
end
/-- the heap behind the making of a lambda: its code object is new in the table, or stood there -/
def LamH (Pt : Addr) (q : Str) (H H1 : Hp) : Prop :=
  H1 = H ∨ ∃ (ps more : Array Value) (c' : Addr), H Pt = some (.tbl ps) ∧ H c' = none ∧ H1 = upd (upd H Pt (.tbl (ps ++ more))) c' (LamX.CodeO c' q) ∧ LamX.TabS H1 Pt q
theorem cloFrom_no {cells : List (Str × Addr)} : ∀ {names : List (Str × NameKind)} {acc : List (Str × Addr)}, (∀ y ∈ names, y.2 ≠ .free) → cloFrom cells names acc = acc
  | [], _, _ => rfl
  | (n, k) :: r, acc, h => by
    have e : (k == NameKind.free) = false := by
      have := h (n, k) List.mem_cons_self
      cases k <;> first | rfl | exact absurd rfl this
    show (if (k == NameKind.free) = true then _ else _) = acc
    rw [e, if_neg Bool.false_ne_true]
    exact cloFrom_no fun y hy => h y (List.mem_cons_of_mem _ hy)
section
variable {X : Cx} {pins : List (Addr × Obj)} {σ : St} {H : Hp} {s : Shared}
theorem lam_mk {c Pt : Addr} {params : Arguments} {body : Expr} {scope : Scope} {pos : Pos} {E : Value → Shared → Prop} {Q : Value → Shared → Prop} (I : Inv X pins σ H s) (TB : LamX.TabB X.base X.mg c Pt) (hcode : X.env.code = .ref c)
    (hT : LamX.TabS H Pt (X.env.qual ++ "<lambda>")) (hdef : defaultsOf params X.env = ([], [])) (hn : ∀ y ∈ scope.names, y.2 ≠ .free)
    (h : ∀ (f c' : Addr) (pm ctv : Value) (H1 : Hp) (s' : Shared), Inv X pins σ H1 s' → LamH Pt (X.env.qual ++ "<lambda>") H H1 → s'.heap.get? f = some (PySem.W.kla_obj "<lambda>" (X.env.qual ++ "<lambda>") params body scope [] pm c' ctv) →
      s'.heap.CodeRec (.ref c') (X.env.qual ++ "<lambda>") → Q (.ref f) s') : wpAny (model X.prog X.w) X.A (eval (.Lambda params body scope pos) X.env) Q E s := by
  obtain ⟨ps, hP, ht, ha⟩ := hT
  have clo : closureFor scope X.env = pure [] := by
    rw [closure_ok fun y hy z => absurd z (hn y hy), cloFrom_no hn]
  have objP : s.heap.get? Pt = some { cls := .none, data := .fields ps } := I.hok Pt _ hP
  have glob := I.mod.glob.keeps I.bk
  refine PySem.W.kla_eval hdef ?_
  cases hc : codeAmong pos ps.toList with
  | some cv =>
    obtain ⟨c', rfl, hco⟩ := ha pos cv hc
    obtain ⟨⟨oc, vs, t, g1, g2, g3⟩, _, _⟩ := I.hok c' _ hco
    refine PySem.W.kla_makeFunctionHit clo I.ok.glob glob hcode (TB.code.keeps I.bk) objP ht hc (TB.bm.keeps I.bk) fun ctv h' tk hx hsz => ?_
    have up : ∀ b o, s.heap.get? b = some o → (h'.push (PySem.W.kla_obj "<lambda>" (X.env.qual ++ "<lambda>") params body scope [] ((X.mg "__name__").getD .none) c' ctv)).get? b = some o := fun b o e => Heap.get?_push_of_some _ (hx b o e)
    exact h _ c' _ ctv H _ (I.kept (t' := tk) up) (.inl rfl) (Heap.get?_push_size _ rfl) ⟨c', oc, vs, t, rfl, up _ _ g1, g2, g3⟩
  | none =>
    refine PySem.W.kla_makeFunction clo I.ok.glob glob hcode (TB.code.keeps I.bk) objP ht hc TB.gP (TB.bm.keeps I.bk) fun c' ctv h' tk hx hge hlt hrec htb => ?_
    obtain ⟨c2, oc, vs, t, e2, hoc, hd, hv⟩ := hrec
    cases e2
    have nC : H c' = none := I.hok.fresh hge
    have up : ∀ b o, h'.get? b = some o → (h'.push (PySem.W.kla_obj "<lambda>" (X.env.qual ++ "<lambda>") params body scope [] ((X.mg "__name__").getD .none) c' ctv)).get? b = some o := fun b o e => Heap.get?_push_of_some _ e
    refine h _ c' _ ctv _ _ (LamX.inv_table (t' := tk) (q := X.env.qual ++ "<lambda>") (more := #[rawInt pos.line, rawInt pos.col, .ref c']) I hP (fun b o hb e => up b o (hx b o hb e)) (up _ _ htb) hge ⟨oc, vs, t, up _ _ hoc, hd, hv⟩)
      (.inr ⟨ps, _, c', hP, nC, rfl, ?_⟩) (Heap.get?_push_size _ rfl) ⟨c', oc, vs, t, rfl, up _ _ hoc, hd, hv⟩
    have eL : (ps ++ #[rawInt pos.line, rawInt pos.col, .ref c']).toList = ps.toList ++ [rawInt pos.line, rawInt pos.col, .ref c'] := by simp
    refine ⟨_, by rw [upd_ne (ne_of_none hP nC), upd_same], by rw [eL]; exact PySem.TriplesOk_snoc _ _ _ _ ht, fun p' cv hcv => ?_⟩
    rw [eL] at hcv
    rcases LamX.among_app _ ht hcv with z | z
    · obtain ⟨c0, f1, f2⟩ := ha p' cv z
      refine ⟨c0, f1, ?_⟩
      rw [upd_ne (ne_of_none f2 nC), upd_ne (fun z => ?_)]
      · exact f2
      · rw [z, hP] at f2
        exact absurd (Option.some.inj f2).symm (LamX.codeO_ne ps)
    · exact ⟨c', z, upd_same⟩
end
theorem LamH.kp {T : Tb} {Pt : Addr} {q : Str} {H H1 : Hp} (h : LamH Pt q H H1) (hu : ∀ p ∈ T, p.1 = Pt → p.2 = q) : Kp T H H1 := by
  rcases h with rfl | ⟨ps, more, c', hP, nC, rfl, hT⟩
  · exact .refl
  · have nt : ∀ b o, H b = some o → (∀ ps, o ≠ .tbl ps) → upd (upd H Pt (.tbl (ps ++ more))) c' (LamX.CodeO c' q) b = some o := fun b o e n => by
      rw [upd_ne (ne_of_none e nC), upd_ne (fun z => n ps (Option.some.inj (e.symm.trans (by rw [z]; exact hP))))]
      exact e
    refine ⟨nt, fun b n => ?_, fun p hp t => ?_⟩
    · by_cases z : b = c'
      · rw [z, upd_same]; exact fun z => nomatch z
      · rw [upd_ne z]
        by_cases z2 : b = Pt
        · rw [z2, upd_same]; exact fun z => nomatch z
        · rw [upd_ne z2]; exact n
    · by_cases z : p.1 = Pt
      · rw [z, hu p hp z]; exact hT
      · obtain ⟨ps2, a1, a2, a3⟩ := t
        refine ⟨ps2, by rw [upd_ne (ne_of_none a1 nC), upd_ne z]; exact a1, a2, fun p' cv hcv => ?_⟩
        obtain ⟨c0, e1, e2⟩ := a3 p' cv hcv
        exact ⟨c0, e1, nt _ _ e2 fun ps => LamX.codeO_ne ps⟩
theorem LamH.step {T : Tb} {Pt : Addr} {q : Str} {B H H1 : Hp} (h : LamH Pt q H H1) (hu : ∀ p ∈ T, p.1 = Pt → p.2 = q) (hB : B Pt = none) (s : Same B H) : Step T B H B H1 :=
  ⟨Same.refl _, fun b o e => by
    have e1 := s b o e
    rcases h with rfl | ⟨ps, more, c', hP, nC, rfl, _⟩
    · exact e1
    · rw [upd_ne (ne_of_none e1 nC), upd_ne (fun z => by rw [z, hB] at e; cases e)]
      exact e1, h.kp hu, fun _ h _ => h⟩
/-- its key -/
def lenK : D → PyData
  | .tup xs => .tuple [.int xs.length, .tuple (D.pys xs)]
  | _ => .none
def tupStr : D → Bool
  | .tup xs => xs.all fun y => match y with
    | .str _ => true
    | _ => false
  | _ => false
def sortKD : D → R D
  | .lst xs => if xs.all tupStr = true ∧ srtB (xs.map lenK) = true then .ok (.lst (xs.mergeSort (PySem.W.dataLe false lenK))) else .bad
  | _ => .bad
theorem strs_reads {K : PySem.W.Frag} {B : Hp} {h : Heap} : ∀ {ys : List V} {vs : List Value} {ds : List D}, Vals ys vs → RepAll K B ys ds → (ds.all fun y => match y with
    | .str _ => true
    | _ => false) = true → ReadsAll h vs (D.pys ds) []
  | _, _, _, .nil, .nil, _ => .nil
  | _, _, _, .cons r t, .cons (d := d) q u, e => by
    rw [List.all_cons, Bool.and_eq_true] at e
    cases d with
    | str z =>
      cases q
      obtain ⟨tk, rfl⟩ := r
      exact .cons (.str _ _) (strs_reads t u e.2)
    | _ => exact absurd e.1 Bool.false_ne_true
section
variable {S : Sg} {own : List Nat} {e : Expr} {fe : FE} {n : Str} {params : Arguments} {scope : Scope} {p pos lpos kpos p1 p2 p3 p4 p5 : Pos} {k : Nat}
theorem ve_sortLam (hC : S.hasC = true) (hl : ∃ c Pt, S.code = .ref c ∧ LamX.TabB S.base S.mg c Pt ∧ (Pt, S.ql ++ "<lambda>") ∈ S.T ∧ ∀ p ∈ S.T, p.1 = Pt → p.2 = S.ql ++ "<lambda>") (hL : lamPB n scope = true) (hc : S.calm = true) (hlen : S.mg "len" = none)
    (hg : kdOf S.sc "sorted" = some .globalImplicit) (hm : S.mg "sorted" = none) (he : VE S own .lk e fe)
    (hdef : ∀ X : Cx, defaultsOf params X.env = ([], []) := by intro _; rfl)
    (hbind : ∀ (qual : Str) (pm cv ctv : Value) (v : Value), bindArgs (PySem.W.kla_fn "<lambda>" qual params (.Tuple [.Call (.Name "len" p1) [.Name n p2] [] p3, .Name n p4] k p5) scope [] pm cv ctv) ⟨[v], []⟩ = pure [(n, v)] := by intro _ _ _ _ _; rfl)
    (h1 : ∀ X : Cx, backTo pos (starEach [e] X.env) = (false, eval e X.env) :: backTo pos (starEach [] X.env) := by intro _; rfl) (h2 : ∀ X : Cx, (backTo pos (starEach [e] X.env)).any (·.1) = false := by intro _; rfl) :
    VE S own .fr (.Call (.Name "sorted" p) [e] [⟨some "key", .Lambda params (.Tuple [.Call (.Name "len" p1) [.Name n p2] [] p3, .Name n p4] k p5) scope lpos, kpos⟩] pos) (f1 sortKD fe) := by
  obtain ⟨t, a1, a2⟩ := he
  obtain ⟨c, Pt, hcd, TB, hmT, hu⟩ := hl
  have L := lamP_of hL
  refine ⟨fun σ H Q => t σ H fun x H1 => ∃ (B : Hp) (a : Addr) (ys : List V) (ds : List D), x = .ref a ∧ H1 a = some (.lst ys) ∧ Same B H1 ∧ B Pt = none ∧ LamX.TabS H1 Pt (S.ql ++ "<lambda>") ∧ RepAll S.K B ys ds ∧ ds.all tupStr = true ∧ srtB (ds.map lenK) = true ∧
    ∀ H2, LamH Pt (S.ql ++ "<lambda>") H1 H2 → ∀ z zs, H2 z = none → RepAll S.K B zs (ds.mergeSort (PySem.W.dataLe false lenK)) → Q (.ref z) (upd H2 z (.lst zs)), fun X g => ?_, fun B0 H0 ρ σ B H Q I p => ?_⟩
  · refine ⟨fun pins s σ H Q I h => ?_⟩
    obtain ⟨gc, gq⟩ := g.cq hC
    refine wpAny_Call_Name_kw (ld_blt I (g.gl hg) (g.mgx hm) PyProof.Rows.boot_sorted ?_ (by decide) (by decide))
    refine PyProof.Rows.callWith_kw ?_ (h1 X) (h2 X)
    rw [h1 X]
    refine Calls.spliced_cons (thn ((a1 X g).run pins s σ H _ I h) fun u s1 ⟨x, H1, I1, rx, B, a, ys, ds, ex, ha, sub, hBP, hT, rr, hfl, ck, q⟩ => Calls.spliced_nil ?_)
    subst ex
    obtain rfl : u = Value.ref a := rx
    rw [← g.hb, ← g.hm] at TB
    rw [← gq] at hT q
    refine wpAny_evalAll_cons (wpAny_bind (lam_mk I1 TB (gc.trans hcd) hT (hdef X) L.nfree fun f c' pm ctv H2 s2 I2 hH hf hrec => wpAny_bind (wpAny_standAt (wpAny_pure (wpAny_evalAll_nil ?_)))))
    show wpAny _ _ (call (.builtin "sorted") [.ref a] [(Str.ofString "key", .ref f)]) _ _ _
    have st := hH.step (T := []) (fun p hp => nomatch hp) hBP sub
    have hz := g.un
    obtain ⟨mb, hb1, hb2⟩ := I2.mod.blt
    have room := (g.room hc).depth
    rw [← g.hK] at rr q
    have ha2 : H2 a = some (.lst ys) := st.hh.lst ha
    obtain ⟨its, rv, ⟨o, n', e1, e2, _, e3⟩, hz1⟩ := I2.list (SqL.of ha2)
    obtain ⟨k1, k2, k3, k4⟩ := srtB_of ck
    have hlen2 : ds.length ≤ sizeLine := by rw [← rr.length]; exact hz1
    refine PySem.W.sorted_key_data (b := false) (bs := ds) (R := Std X.K B) lenK ⟨o, e1, e2, n', e3⟩ (std_each rv rr) k1 k2 hlen2 (fun x hx => ?_) (PyProof.Rows.ksk_s1 _ _) (fun _ => PyProof.Rows.ksk_l1 _ _) (fun _ => PyProof.Rows.ksk_t1 _ _) (fun v x hv hx h tk kp => ?_) fun out c0 h' tk kp fr hD ol eo => ?_
    · have := k3 (lenK x) (List.mem_map_of_mem hx)
      omega
    · obtain ⟨y, ry, rp⟩ := hv
      have hx2 := List.all_eq_true.mp hfl x hx
      cases rp with
      | @tup t0 ws zs hT0 rr0 =>
        obtain rfl : v = Value.ref t0 := ry
        obtain ⟨its0, rv0, hT1, hz0⟩ := I2.tuple (seqT_mono st.sub hT0)
        obtain ⟨o0, f1, f2, m0, f3⟩ := hT1
        have hl0 : (D.pys zs).length = its0.length := by rw [pys_map, List.length_map, ← rr0.length, rv0.length]
        have e0 : lenK (.tup zs) = .tuple [.int (D.pys zs).length, .tuple (D.pys zs)] := by
          have : (D.pys zs).length = zs.length := by rw [pys_map, List.length_map]
          rw [this]
          rfl
        rw [e0]
        refine lam_turn L (kp _ _ hf) ?_ (I2.nolimit.keeps kp) ((I2.mod.glob.keeps I2.bk).keeps kp) (g.mgx hlen) ((hb1.keeps I2.bk).keeps kp) (hb2 _ (by decide)) ⟨o0, kp _ _ f1, f2, m0, f3⟩ (by rw [← rv0.length]; exact hz0) (strs_reads rv0 rr0 hx2) hl0 room (hbind _ _ _ _)
        obtain ⟨cc, oc, vs, t, g0, g1, g2, g3⟩ := hrec
        exact ⟨cc, oc, vs, t, g0, kp _ _ g1, g2, g3⟩
      | _ => exact absurd hx2 Bool.false_ne_true
    · obtain ⟨zs, v1, r1⟩ := each_std eo
      have hlz : zs.length ≤ sizeLine := by rw [v1.length, ol]; exact hlen2
      exact ⟨.ref _, upd H2 (s2.heap.objs.size + 1) (.lst zs), I2.laid (t' := tk) kp (Nat.le_succ _) ⟨hlz, out, c0, v1, hD⟩, rfl, q H2 hH _ _ (I2.hok.fresh (Nat.le_succ _)) r1⟩
  · refine a2 B0 H0 ρ σ B H _ I (Post.seq anti_res p fun d v B1 H1 e1 s1 r1 p1 => ?_)
    cases d with
    | lst xs =>
      obtain ⟨a, ys, rfl, ha, rr⟩ := r1
      simp only [sortKD] at p1
      split at p1
      · rename_i hh
        obtain ⟨hB, hT⟩ := (I.step s1).tabs _ hmT
        refine ⟨B1, a, ys, xs, rfl, ha, s1.sub, hB, hT, rr, hh.1, hh.2, fun H2 hH z zs nz rz => ?_⟩
        have st := hH.step (T := S.T) hu hB s1.sub
        exact p1 _ B1 _ (st.trans (.own st.sub nz)) ⟨z, rfl, st.hh.free nz, st.sub.free nz, _, upd_same, rz⟩
      · exact p1.elim
    | _ => exact p1.elim
end
end T2
namespace T2
open PySem PySem.Spec L2
theorem funD_lk {K : PySem.W.Frag} {x qual : Str} {params : Arguments} {body : List Stmt} {scope : Scope} {f : Addr} {fd : FuncData} (F : FunD K x qual params body scope [] [] f fd) : ∃ oc od osl, K.lookup f = some ⟨oc, od, .func fd, osl⟩ := by
  obtain ⟨oc, od, dV, kV, doc, pm, an, cdv, ct, osl, rfl, lk, _⟩ := F.ex
  exact ⟨oc, od, osl, lk⟩
end T2
namespace T2
open PySem
theorem tbl_nil {P : Str → Bool → Prop} : ∀ c b, (none : Option Bool) = some b → P c b := fun _ _ h => nomatch h
theorem tbl_cons {P : Str → Bool → Prop} {c0 : Str} {b0 : Bool} {f : Str → Option Bool} (h : P c0 b0) (hf : ∀ c b, f c = some b → P c b) : ∀ c b, (if c = c0 then some b0 else f c) = some b → P c b := fun c b e => by
  split at e
  · rename_i z
    cases e
    rw [z]; exact h
  · exact hf c b e
theorem fok_nil {P : Str → Prop} : ∀ c : Str, false = true → P c := fun _ h => nomatch h
theorem fok_cons {P : Str → Prop} {c0 : Str} {f : Str → Bool} (h : P c0) (hf : ∀ c, f c = true → P c) : ∀ c, (decide (c = c0) || f c) = true → P c := fun c e => by
  rcases (Bool.or_eq_true _ _).mp e with e | e
  · rw [of_decide_eq_true e]; exact h
  · exact hf c e
end T2
end
section
set_option maxRecDepth 100000
set_option maxHeartbeats 2000000
namespace T2
open PySem PySem.Spec L2

/-! ### what the head is asked of an own exception class -/
/-- the text of its __init__ -/
structure IniT (qual sf nm f msg : Str) (params : Arguments) (body : List Stmt) (scope : Scope) : Prop where
  par : ∃ ar : Arg, (params.posonlyargs ++ params.args).head? = some ar ∧ ar.arg = sf
  bind : ∀ (cc : Addr) (kV doc pm cdv ct : Value) (an : Option Addr) (u v : Value), bindArgs (PySem.W.fnX "__init__" qual params body scope [("__class__", cc)] .none kV doc pm an cdv ct) ⟨[u, v], []⟩ = pure [(sf, u), (nm, v)]
  kind : scope.kind = .function
  co : scope.isCoroutine = false
  gen : scope.isGenerator = false
  ncell : ∀ x ∈ scope.names, x.2 ≠ .cell
  locS : scope.names.lookup sf = some .local
  locN : scope.names.lookup nm = some .local
  ne : (sf == nm) = false
  ksup : scope.names.lookup ("super" : Str) = some .globalImplicit
  kcls : scope.names.lookup ("__class__" : Str) = some .free
  dS : (sf == ("__debug__" : Str)) = false
  dN : (nm == ("__debug__" : Str)) = false
  bod : ∃ (p0 p1 ap mp cp ep sp fp np as : Pos) (k : Nat), body = [.Expr (.Call (.Attribute (.Call (.Name "super" p0) [] [] p1) "__init__" ap) [.Constant (.str msg) k mp] [] cp) ep, .Assign [.Attribute (.Name sf sp) f fp] (.Name nm np) as] ∧
    ∀ env : Env, ∃ pl : Sem Bool, eval (.Call (.Attribute (.Call (.Name "super" p0) [] [] p1) "__init__" ap) [.Constant (.str msg) k mp] [] cp) env = (do
      let ov ← attributeBase (.Call (.Name "super" p0) [] [] p1) "__init__" env (eval (.Call (.Name "super" p0) [] [] p1) env)
      standAt ap.atName
      let (f, first) ← holding [ov] (getMethod ov "__init__" pl)
      callWith cp f first (backTo cp (starEach [.Constant (.str msg) k mp] env)) [])
def oexB (K : PySem.W.Frag) (C : Addr) : Bool := match K.lookup C with
  | some o => (match o.cls, o.data, o.slots.toList with
    | .type t, .cls cd, [_, _, _, _, some (.builtin n), _] => decide (t = "type") && (match cd.mro with
      | .ref C' :: bm => C' == C && n == "ValueError.__new__" && !cd.hasDel && cd.hasDict && PySem.HandSPX.refsVE bm
      | _ => false)
    | _, _, _ => false)
  | none => false
theorem oexB_of {K : PySem.W.Frag} {C : Addr} (h : oexB K C = true) : ∃ nm q N bs bm sn sub ab col dd k0 k1 k2 k3 k5, K.lookup C = some (excClassObj nm q C N bs bm true sn sub ab col dd k0 k1 k2 k3 k5 "ValueError.__new__") ∧ PySem.HandSPX.refsVE bm = true := by
  unfold oexB at h
  split at h
  · rename_i o ho
    split at h
    · rename_i t cd k0 k1 k2 k3 n k5 e1 e2 e3
      rw [Bool.and_eq_true] at h
      obtain ⟨h1, h2⟩ := h
      split at h2
      · rename_i C' bm hm
        simp only [Bool.and_eq_true, beq_iff_eq, Bool.not_eq_true'] at h2
        obtain ⟨⟨⟨⟨rfl, rfl⟩, hdel⟩, hdict⟩, hv⟩ := h2
        obtain rfl := of_decide_eq_true h1
        obtain ⟨oc, od, odt, osl⟩ := o
        dsimp only at e1 e2 e3
        subst e1 e2
        obtain ⟨nm, bs, mro, ns, qn, hd, sn, sub, ab, col, del⟩ := cd
        dsimp only at hm hdel hdict
        subst hm hdel hdict
        have hsl : osl = #[k0, k1, k2, k3, some (.builtin "ValueError.__new__"), k5] := by
          obtain ⟨l⟩ := osl
          simp only at e3
          rw [e3]
        subst hsl
        exact ⟨nm, qn, ns, bs, bm, sn, sub, ab, col, od, k0, k1, k2, k3, k5, ho, hv⟩
      · cases h2
    · cases h
  · cases h
def iniA (K : PySem.W.Frag) (x : Str) : Addr := He.ma K (He.ga K x) "__init__"
abbrev FnI : Type := Option (Str × Str × Arguments × FuncBody × Scope × Addr × List Str × Addr)
def fnI (K : PySem.W.Frag) (x : Str) : FnI := match K.lookup (iniA K x) with
  | some o => (match o.data with
    | .func fd => some (fd.name, fd.qualname, fd.params, fd.body, fd.scope, fd.globals, fd.closure.map (·.1), fd.builtins)
    | _ => none)
  | none => none
structure IniD where
  x : Str
  qual : Str
  params : Arguments
  body : List Stmt
  scope : Scope
def IniD.val (d : IniD) : FnI := some ("__init__", d.qual, d.params, .stmts d.body, d.scope, mainGlobals, ["__class__"], builtinsNs)
/-- the rest of it, of the class x that keeps f -/
def xclsB (main : Str) (x qual f : Str) (K : PySem.W.Frag) : Bool :=
  oexB K (He.ga K x) && decide (PySem.W.findIn K (.ref (He.ga K x)) "__setattr__" = some (some (.builtin "object.__setattr__"))) && decide (PySem.W.subIn K (.ref (He.ga K x)) (.type "BaseException") = some true) &&
    decide (PySem.W.typeIn K (.ref (He.ga K x)) = some (.type "type")) && PySem.W.keepIn K (.ref (He.ga K x)) && decide (PySem.W.findIn K (.ref (He.ga K x)) "__init__" = some (some (.ref (iniA K x)))) &&
    decide (PySem.W.typeIn K (.ref (iniA K x)) = some (.type "function")) && (match K.lookup (iniA K x) with
      | some o => (match o.data with
        | .func fd => (match fd.closure, fd.code, fd.defaults with
          | [q], .ref cda, .none => (match K.lookup q.2 with
              | some oc => (match oc.data with
                | .cell (some (.ref D)) => D == He.ga K x
                | _ => false)
              | none => false) && PySem.W.codeIn K (.ref cda) qual && (match K.lookup cda with
              | some oc => (match oc.data with
                | .fields vs => (match (vs[2]? : Option Value) with
                  | some (.str fl _) => main == fl
                  | _ => false)
                | _ => false)
              | none => false)
          | _, _, _ => false)
        | _ => false)
      | none => false) && decide (PySem.W.mroIn K (He.ga K x) (.ref (He.ga K x)) = some true) && decide (PySem.W.ks_superIn K (He.ga K x) (He.ga K x) "__init__" = some (some (.builtin "ValueError.__init__"))) &&
    decide (PySem.W.subIn K (.ref (He.ga K x)) (.type "ValueError") = some true) && decide (PySem.W.nsIn K cStatics "thirdparty.any" = some none) && decide (PySem.W.findIn K (.ref (He.ga K x)) f = some none)
theorem xok_of {P : Program} {K : PySem.W.Frag} {mg : Str → Option Value} {d : IniD} {f sf nm msg : Str} (hm : mg d.x = some (.ref (He.ga K d.x))) (nos : mg "super" = none) (htop : (P.main.scope.names.lookup ("super" : Str)).isSome = false) (T : IniT d.qual sf nm f msg d.params d.body d.scope)
    (e : fnI K d.x = d.val) (h : xclsB P.main.file d.x d.qual f K = true) : XOk P K mg d.x f := by
  unfold xclsB at h
  simp only [Bool.and_eq_true, decide_eq_true_eq] at h
  obtain ⟨⟨⟨⟨⟨⟨⟨⟨⟨⟨⟨⟨h1, h2⟩, h3⟩, h4⟩, h5⟩, h6⟩, h7⟩, h8⟩, h9⟩, h10⟩, h11⟩, h12⟩, h13⟩ := h
  unfold fnI at e
  cases q : K.lookup (iniA K d.x) with
  | none => rw [q] at e; cases e
  | some o =>
    rw [q] at e h8
    obtain ⟨oc, od, odt, osl⟩ := o
    cases odt with
    | func fd =>
      dsimp only at e h8
      obtain ⟨name, qualname, params, body, scope, globals, closure, defaults, kwdefaults, doc, pyModule, annotations, code, closureTuple, builtins⟩ := fd
      dsimp only at e h8
      have e := Option.some.inj e
      injection e with e1 e
      injection e with e2 e
      injection e with e3 e
      injection e with e4 e
      injection e with e5 e
      injection e with e6 e
      injection e with e7 e8
      subst e1 e2 e3 e4 e5 e6 e8
      split at h8
      · rename_i p cda
        obtain ⟨pn, cc⟩ := p
        simp only [List.map_cons, List.map_nil, List.cons.injEq, and_true] at e7
        subst e7
        simp only [Bool.and_eq_true] at h8
        obtain ⟨⟨k1, k2⟩, k3⟩ := h8
        split at k1
        · rename_i occ hcc
          obtain ⟨c1, c2, c3, c4⟩ := occ
          split at k1
          · rename_i D hD
            dsimp only at hD
            subst hD
            obtain rfl : D = He.ga K d.x := beq_iff_eq.mp k1
            split at k3
            · rename_i ocd hcd
              obtain ⟨d1, d2, d3, d4⟩ := ocd
              split at k3
              · rename_i vs hvs
                dsimp only at hvs
                subst hvs
                split at k3
                · rename_i fl tk hfl
                  exact ⟨iniA K d.x, cc, cda, d.qual, sf, nm, msg, d.params, d.body, d.scope, {
                    cls := ⟨oexB_of h1, h2, h3, h4, h5⟩
                    ini := h6
                    tyI := h7
                    lkI := ⟨oc, od, _, _, _, _, _, osl, q⟩
                    code := k2
                    file := ⟨d1, d2, vs, d4, fl, tk, hcd, hfl, k3⟩
                    cell := ⟨c1, c2, c4, hcc⟩
                    mro := h9
                    sup := h10
                    isV := h11
                    tp := h12
                    nos := nos
                    top := htop
                    nof := h13
                    par := T.par
                    bind := T.bind cc
                    kind := T.kind
                    co := T.co
                    gen := T.gen
                    ncell := T.ncell
                    locS := T.locS
                    locN := T.locN
                    ne := T.ne
                    ksup := T.ksup
                    kcls := T.kcls
                    dS := T.dS
                    dN := T.dN
                    bod := T.bod }, hm⟩
                · cases k3
              · cases k3
            · cases k3
          · cases k1
        · cases k1
      · cases h8
    | _ => cases e
/-- isinstance of an own exception; its field -/
def excB (x : Str) (K : PySem.W.Frag) : Bool :=
  decide (PySem.W.findIn K (.ref (He.ga K x)) "__getattribute__" = some (some (.builtin "BaseException.__getattribute__"))) && decide (PySem.W.findIn K (.ref (He.ga K x)) "__getattr__" = some none) &&
    decide (PySem.W.subIn K (.ref (He.ga K x)) (.type "BaseException") = some true) && PySem.W.hasDictIn K (He.ga K x) && decide (PySem.W.findIn K (.ref (He.ga K x)) "__class__" = some (some (.builtin "object.__class__"))) &&
    decide (PySem.W.specialIn K (.builtin "object.__class__") "__get__" = some (some (.builtin "getset_descriptor.__get__"))) && decide (PySem.W.takesIn K (.builtin "object.__class__") = some true) && decide (PySem.W.mroIn K (He.ga K x) (.type "object") = some true)
theorem excB_of {x : Str} {K : PySem.W.Frag} (h : excB x K = true) : ExcC K (He.ga K x) := by
  unfold excB at h
  simp only [Bool.and_eq_true, decide_eq_true_eq] at h
  obtain ⟨⟨⟨⟨⟨⟨⟨h1, h2⟩, h3⟩, h4⟩, h5⟩, h6⟩, h7⟩, h8⟩ := h
  exact ⟨h1, h2, h3, h4, h5, h6, h7, h8⟩
theorem excB_xf {x : Str} {K : PySem.W.Frag} (h : excB x K = true) : XfC K (He.ga K x) := by
  have c := excB_of h
  exact ⟨c.hg, c.hk, c.hs, c.hd⟩
def kitB (x y : Str) (b : Bool) (K : PySem.W.Frag) : Bool := decide (PySem.W.kitOne K (.ref (He.ga K x)) (.ref (He.ga K y)) = some b)
def exmB (x y : Str) (b : Bool) (K : PySem.W.Frag) : Bool := decide (PySem.W.exmOne K (.ref (He.ga K x)) (.ref (He.ga K y)) = some b)
def noatB (x f : Str) (K : PySem.W.Frag) : Bool := decide (PySem.W.findIn K (.ref (He.ga K x)) f = some none)
/-- a def whose lambdas are made -/
def lamB (x : Str) (K : PySem.W.Frag) : Bool := match K.lookup (He.ga K x) with
  | some o => (match o.data with
    | .func fd => (match fd.code with
      | .ref _ => true
      | _ => false)
    | _ => false)
  | none => false
theorem lamB_of {x : Str} {K : PySem.W.Frag} (h : lamB x K = true) {oc : Value} {od : Option Addr} {fd : FuncData} {osl : Array (Option Value)} (lk : K.lookup (He.ga K x) = some ⟨oc, od, .func fd, osl⟩) : fd.code = .ref (He.cT K (x, none)).1 := by
  unfold lamB at h
  rw [lk] at h
  dsimp only at h
  split at h
  · rename_i c e
    have lk' : K.lookup (He.fAd K (x, none)) = some ⟨oc, od, .func fd, osl⟩ := lk
    rw [e]
    exact congrArg Value.ref (He.codeOf_eq lk' e).symm
  · cases h

/-! ### the head's look -/
abbrev AlZ : Type := He.AlX × List FnI
/-- what is looked at: the globals' things, and the interpreter's statics -/
def frZ (n : Nat) (g : Addr → Option Obj) : PySem.W.Frag := He.frT g (cStatics :: He.asD g n)
def obsZ (n : Nat) (fa : List He.Fa) (fn : List He.DefD) (tf : List He.Defn) (ex : PySem.W.Frag → Bool) (is : List IniD) (g : Addr → Option Obj) : AlZ :=
  ((He.obsT fa fn [] (frZ n g), ex (frZ n g) && He.tabsB g tf (frZ n g)), is.map fun d => fnI (frZ n g) d.x)
structure SaysZ (fa : List He.Fa) (fn : List He.DefD) (tf : List He.Defn) (ex : PySem.W.Frag → Bool) (is : List IniD) (w : World) (h : Heap) (K : PySem.W.Frag) : Prop where
  x : He.SaysX fa fn [] tf ex w h K
  i : ∀ d ∈ is, fnI K d.x = d.val
theorem saysX_frZ {n : Nat} {fa : List He.Fa} {fn : List He.DefD} {tf : List He.Defn} {ex : PySem.W.Frag → Bool} {w : World} {h : Heap} (e1 : He.obsT fa fn [] (frZ n h.get?) = He.valT fn [] w) (e2 : (ex (frZ n h.get?) && He.tabsB h.get? tf (frZ n h.get?)) = true) : He.SaysX fa fn [] tf ex w h (frZ n h.get?) := by
  obtain ⟨h1, h2⟩ := (Bool.and_eq_true_iff).mp e2
  have each : ∀ p ∈ tf, PySem.W.codeHdIn (frZ n h.get?) (He.cT (frZ n h.get?) p).1 (He.cT (frZ n h.get?) p).2 = true ∧ ∃ o, h.get? (He.cT (frZ n h.get?) p).2 = some o ∧ He.emptyTab o = true := fun p hp => by
    obtain ⟨h3, h4⟩ := (Bool.and_eq_true_iff).mp (List.all_eq_true.mp h2 p hp)
    refine ⟨h3, ?_⟩
    split at h4
    · rename_i o q
      exact ⟨o, q, h4⟩
    · cases h4
  refine ⟨e1, h1, fun p hp => (each p hp).1, fun p hp => ?_, fun p hp => ?_⟩
  · obtain ⟨_, o, q, z⟩ := each p hp
    exact He.frT_none q z
  · obtain ⟨_, o, q, z⟩ := each p hp
    rw [q, He.emptyTab_eq z]
def hookZ (n : Nat) (fa : List He.Fa) (fn : List He.DefD) (tf : List He.Defn) (ex : PySem.W.Frag → Bool) (is : List IniD) : PySem.W.Hook where
  α := AlZ
  obs := fun s => obsZ n fa fn tf ex is s.heap.get?
  val := fun w => (He.valX fn [] w, is.map IniD.val)
  says := fun w h => ∃ K : PySem.W.Frag, K.In h ∧ SaysZ fa fn tf ex is w h K
  of := fun w s e => by
    have e1 := congrArg (fun z : AlZ => z.1.1) e
    have e2 := congrArg (fun z : AlZ => z.1.2) e
    have e4 := congrArg (fun z : AlZ => z.2) e
    refine ⟨frZ n s.heap.get?, He.frT_in, saysX_frZ e1 e2, fun d hd => ?_⟩
    obtain ⟨j, hj, rfl⟩ := List.mem_iff_getElem.mp hd
    have e3 := congrArg (fun l : List FnI => l[j]?) e4
    dsimp only [obsZ] at e3
    rw [List.getElem?_map, List.getElem?_map, List.getElem?_eq_getElem hj] at e3
    exact Option.some.inj e3
  keeps := fun w h h' ⟨K, hK, c⟩ k => ⟨K, PySem.W.Frag.In.keeps hK k, ⟨⟨c.x.t, c.x.more, c.x.hd, c.x.out, fun p hp => k _ _ (c.x.empty p hp)⟩, c.i⟩⟩
theorem obsZ_eq {n : Nat} {fa : List He.Fa} {fn : List He.DefD} {tf : List He.Defn} {ex : PySem.W.Frag → Bool} {is : List IniD} {g : Addr → Option Obj} {s : Shared} (h : ∀ a, g a = s.heap.get? a) : obsZ n fa fn tf ex is g = (hookZ n fa fn tf ex is).obs s := by
  have e : g = s.heap.get? := funext h
  subst e
  rfl
theorem SaysZ.d {fa : List He.Fa} {fn : List He.DefD} {tf : List He.Defn} {ex : PySem.W.Frag → Bool} {is : List IniD} {w : World} {h : Heap} {K : PySem.W.Frag} (c : SaysZ fa fn tf ex is w h K) : He.SaysD fa fn K := congrArg (fun z : He.AlT => z.1) c.x.t
end T2
namespace T2
open PySem PySem.Spec L2
/-- the law's own promise, at its call -/
theorem law_pre (T : Tb) (K : PySem.W.Frag) (g : List D → R D) {H : Hp} {a : Addr} {ns : List Int} (hT : ∀ p ∈ T, H p.1 = some (.tbl #[])) (hS : SqL K H a (ns.map V.int)) (hg : g [.scr ns] = .ok (.bl true)) :
    spF T K .sh 1 g [.ref a] H (fun v _ => v = .bl true) fun _ _ _ => False := by
  have keep : ∀ b o, (match H b with
    | some (.tbl _) => none
    | o => o) = some o → H b = some o := fun b o e => by
    cases q : H b with
    | none => rw [q] at e; cases e
    | some u =>
      rw [q] at e
      cases u <;> first | exact e | cases e
  refine ⟨fun b => match H b with
    | some (.tbl _) => none
    | o => o, [.scr ns], rfl, keep, fun p hp => ⟨?_, LamX.TabS.nil (hT p hp)⟩, .cons (.scr ?_) .nil, ?_⟩
  · show (match H p.1 with
      | some (.tbl _) => none
      | o => o) = none
    rw [hT p hp]
  · rcases hS with (h | ⟨o, h⟩) | h
    · refine .inl (.inl ?_)
      show (match H a with
        | some (.tbl _) => none
        | o => o) = _
      rw [h]
    · refine .inl (.inr ⟨o, ?_⟩)
      show (match H a with
        | some (.tbl _) => none
        | o => o) = _
      rw [h]
    · exact .inr h
  · rw [hg]
    intro v B' H' _ r
    cases (show Rep K B' v (.bl true) from r)
    rfl
end T2
end
section
set_option maxRecDepth 100000
set_option maxHeartbeats 2000000
namespace T2
open PySem PySem.Spec L2

/-! ### what the plain functions give: loops, comprehensions -/
theorem loop_inv {F : FS} {i : Nat} (P : Nat → Rho → Prop) : ∀ (ds : List D) (k0 : Nat) (ρ : Rho), (∀ k d ρ, ds[k]? = some d → P (k0 + k) ρ → ∃ ρ', (F (ρ.set i (some d)) = .nx ρ' ∨ F (ρ.set i (some d)) = .ct ρ') ∧ P (k0 + k + 1) ρ') → P k0 ρ →
    ∃ ρ', loopF F i ds ρ = .nx ρ' ∧ P (k0 + ds.length) ρ'
  | [], k0, ρ, _, h0 => ⟨ρ, rfl, h0⟩
  | d :: ds, k0, ρ, h, h0 => by
    obtain ⟨ρ1, e1, p1⟩ := h 0 d ρ rfl h0
    obtain ⟨ρ2, e2, p2⟩ := loop_inv (F := F) (i := i) P ds (k0 + 1) ρ1 (fun k d ρ hk hp => by
      have := h (k + 1) d ρ (by simpa using hk) (by rw [← Nat.add_assoc, Nat.add_right_comm]; exact hp)
      rw [Nat.add_right_comm k0 1 k]
      exact this) p1
    refine ⟨ρ2, ?_, by rw [List.length_cons, Nat.add_comm ds.length 1, ← Nat.add_assoc]; exact p2⟩
    rw [loopF]
    rcases e1 with e1 | e1 <;> rw [e1] <;> exact e2
/-- a loop that returns r at the first item that fails -/
theorem loop_all {F : FS} {i : Nat} {r : D} (p : D → Bool) (ρ0 : Rho) : ∀ (ds : List D) (x : Option D), (∀ d ∈ ds, F (ρ0.set i (some d)) = if p d = true then .nx (ρ0.set i (some d)) else .ret r) →
    ∃ y, loopF F i ds (ρ0.set i x) = if ds.all p = true then .nx (ρ0.set i y) else .ret r
  | [], x, _ => ⟨x, rfl⟩
  | d :: ds, x, h => by
    have h1 := h d List.mem_cons_self
    rw [loopF, List.set_set, h1, List.all_cons]
    cases q : p d with
    | true =>
      rw [if_pos rfl]
      obtain ⟨y, e⟩ := loop_all p ρ0 ds (some d) fun d' hd' => h d' (List.mem_cons_of_mem _ hd')
      exact ⟨y, by simpa using e⟩
    | false => exact ⟨x, by simp⟩
theorem compL_eval {i : Nat} {ft : FT} {g : FE} {ρ : Rho} (p : D → Bool) (f : D → D) : ∀ (ds : List D), (∀ d ∈ ds, ft (ρ.set i (some d)) = .ok (p d)) → (∀ d ∈ ds, p d = true → g (ρ.set i (some d)) = .ok (f d)) → compL i ft g ρ ds = .ok ((ds.filter p).map f)
  | [], _, _ => rfl
  | d :: ds, ht, hg => by
    have ih := compL_eval (i := i) (ft := ft) (g := g) (ρ := ρ) p f ds (fun d hd => ht d (List.mem_cons_of_mem _ hd)) fun d hd => hg d (List.mem_cons_of_mem _ hd)
    have h1 := ht d List.mem_cons_self
    rw [compL, h1, ih]
    cases q : p d with
    | true =>
      rw [hg d List.mem_cons_self q]
      simp [R.safe, q]
    | false => simp [R.safe, q]
/-! the plain functions at a state (for simp) -/
section
variable (ρ : Rho) (i : Nat) (f fa fb fc fe fk : FE) (g : D → D → R D) (g' : D → D → R D) (h : D → R D) (k : List D → R D) (t u : FT) (as : FA) (F G : FS) (lo hi : Rho → R (Option Int)) (sl : D → Option Int → Option Int → R D) (d : D)
@[simp] theorem x_fVar : fVar i ρ = (match ρ[i]? with
  | some (some d) => .ok d
  | _ => .bad) := rfl
@[simp] theorem x_fC : fC d ρ = .ok d := rfl
@[simp] theorem x_f1 : f1 h f ρ = (f ρ).bind h := rfl
@[simp] theorem x_f2 : f2 g fa fb ρ = (fa ρ).bind fun x => (fb ρ).bind fun y => g x y := rfl
@[simp] theorem x_fTst : fTst f ρ = (f ρ).bind asB := rfl
@[simp] theorem x_asB (b : Bool) : asB (.bl b) = .ok b := rfl
@[simp] theorem x_fNotT : fNotT t ρ = (t ρ).bind fun b => .ok (!b) := rfl
@[simp] theorem x_fAndT : fAndT t u ρ = (t ρ).bind fun b => if b then u ρ else .ok false := rfl
@[simp] theorem x_fOrT : fOrT t u ρ = (t ρ).bind fun b => if b then .ok true else u ρ := rfl
@[simp] theorem x_fNil : fNil ρ = .ok [] := rfl
@[simp] theorem x_fCons : fCons f as ρ = (f ρ).bind fun d => (as ρ).bind fun ds => .ok (d :: ds) := rfl
@[simp] theorem x_fCall : fCall k as ρ = (as ρ).bind k := rfl
@[simp] theorem x_fIte : fIte t fa fb ρ = (t ρ).bind fun b => if b then fa ρ else fb ρ := rfl
@[simp] theorem x_fLst : fLst as ρ = (as ρ).bind fun ds => if ds.length ≤ sizeLine then .ok (.lst ds) else .bad := rfl
@[simp] theorem x_fTup : fTup as ρ = (as ρ).bind fun ds => if ds.length ≤ sizeLine then .ok (.tup ds) else .bad := rfl
@[simp] theorem x_fSeq : fSeq f ρ = (f ρ).bind seqOf := rfl
@[simp] theorem x_fRng : fRng as ρ = (as ρ).bind rangeD := rfl
@[simp] theorem x_fYes : fYes ρ = .ok true := rfl
@[simp] theorem x_fSl : fSl sl f lo hi ρ = (f ρ).bind fun d => (lo ρ).bind fun l => (hi ρ).bind fun h => sl d l h := rfl
@[simp] theorem x_fNoPart : fNoPart ρ = .ok none := rfl
@[simp] theorem x_fPart : fPart f ρ = (f ρ).bind fun d => match d with
  | .int i => .ok (some i)
  | _ => .bad := rfl
@[simp] theorem x_fChain : fChain g g' fa fb fc ρ = (fa ρ).bind fun x => (fb ρ).bind fun y => (g x y).bind fun z => match z with
  | .bl k => if k then (fc ρ).bind fun w => g' y w else .ok (.bl false)
  | _ => .bad := rfl
@[simp] theorem x_seq_lst (xs : List D) : seqOf (.lst xs) = .ok xs := rfl
@[simp] theorem x_seq_tup (xs : List D) : seqOf (.tup xs) = .ok xs := rfl
@[simp] theorem x_seq_str (z : Str) : seqOf (.str z) = .ok (signs z) := rfl
@[simp] theorem x_sSkip : sSkip ρ = .nx ρ := rfl
@[simp] theorem x_sSeq : sSeq F G ρ = (match F ρ with
  | .nx ρ' => G ρ'
  | r => r) := rfl
@[simp] theorem x_sDo (kk : D → Rho → Fl) : sDo f kk ρ = (match f ρ with
  | .ok d => kk d ρ
  | .exc c fs => .exc c fs ρ
  | .bad => .bad) := rfl
@[simp] theorem x_sAsg : sAsg i f ρ = sDo f (fun d ρ => .nx (ρ.set i (some d))) ρ := rfl
@[simp] theorem x_sExp : sExp f ρ = sDo f (fun _ ρ => .nx ρ) ρ := rfl
@[simp] theorem x_sRet : sRet f ρ = (match f ρ with
  | .ok d => .ret d
  | .exc c fs => .exc c fs ρ
  | .bad => .bad) := by unfold sRet sDo; cases f ρ <;> rfl
@[simp] theorem x_sIf : sIf t F G ρ = (match t ρ with
  | .ok b => if b then F ρ else G ρ
  | .exc c fs => .exc c fs ρ
  | .bad => .bad) := rfl
@[simp] theorem x_sFor : sFor i as F ρ = (match as ρ with
  | .ok ds => loopF F i ds ρ
  | .exc c fs => .exc c fs ρ
  | .bad => .bad) := rfl
@[simp] theorem x_sRaise (x f : Str) : sRaise x f fe ρ = sDo fe (fun d ρ => .exc x [(f, d)] ρ) ρ := rfl
@[simp] theorem x_runF (n : Nat) (ds : List D) : runF .sh n F ds = (match F (ds.map some ++ List.replicate (n - ds.length) none) with
  | .ret d => .ok d
  | .nx _ => .ok .non
  | .exc c fs _ => .exc c fs
  | _ => .bad) := by unfold runF; split <;> simp_all
@[simp] theorem x_runFr (n : Nat) (ds : List D) : runF .fr n F ds = (match F (ds.map some ++ List.replicate (n - ds.length) none) with
  | .ret d => .ok d
  | .nx _ => .bad
  | .exc c fs _ => .exc c fs
  | _ => .bad) := by unfold runF; split <;> simp_all
end
end T2
end
section
set_option maxRecDepth 100000
set_option maxHeartbeats 4000000
open PySem PySem.Spec L2 T2
abbrev Pr : Program := PySem.Challenge.pw_tellorhide_k55_least_hitting
def top (i : Nat) : Stmt := Pr.main.body.getD i (.Pass ⟨0, 0, 0, 0⟩)
/-- what the top has left -/
structure Txt (tb : Tb) (K : PySem.W.Frag) (mg : Str → Option Value) (base : Heap) : Prop where
  b_len : mg "len" = none
  b_isinstance : mg "isinstance" = none
  b_int : mg "int" = none
  b_abs : mg "abs" = none
  b_sum : mg "sum" = none
  b_range : mg "range" = none
  b_list : mg "list" = none
  b_tuple : mg "tuple" = none
  b_str : mg "str" = none
  b_sorted : mg "sorted" = none
  b_bool : mg "bool" = none
  b_dict : mg "dict" = none
  c_LONGEST_WORD : ∃ t, mg "LONGEST_WORD" = some (.int 12 t)
  c_NAMES : ∃ t, mg "NAMES" = some (.int 6 t)
  c_ROWS : ∃ t, mg "ROWS" = some (.int 64 t)
  c_LETTERS : ∃ t, mg "LETTERS" = some (.str "abcdefghijklmnopqrstuvwxyz" t)
  c_OTHERS : ∃ t, mg "OTHERS" = some (.str "abcdefghijklmnopqrstuvwxyz0123456789-" t)
  d_is_list : ∃ fd, mg "is_list" = some (.ref (He.ga K "is_list")) ∧ FunD K "is_list" "is_list" (defArgs (top 4)) (defBody (top 4)) (defScope (top 4)) [] [] (He.ga K "is_list") fd
  d_is_word : ∃ fd, mg "is_word" = some (.ref (He.ga K "is_word")) ∧ FunD K "is_word" "is_word" (defArgs (top 5)) (defBody (top 5)) (defScope (top 5)) [] [] (He.ga K "is_word") fd
  d_has_twice : ∃ fd, mg "has_twice" = some (.ref (He.ga K "has_twice")) ∧ FunD K "has_twice" "has_twice" (defArgs (top 6)) (defBody (top 6)) (defScope (top 6)) [] [] (He.ga K "has_twice") fd
  d_is_words : ∃ fd, mg "is_words" = some (.ref (He.ga K "is_words")) ∧ FunD K "is_words" "is_words" (defArgs (top 7)) (defBody (top 7)) (defScope (top 7)) [] [] (He.ga K "is_words") fd
  d_all_lots : ∃ fd, mg "all_lots" = some (.ref (He.ga K "all_lots")) ∧ FunD K "all_lots" "all_lots" (defArgs (top 15)) (defBody (top 15)) (defScope (top 15)) [] [] (He.ga K "all_lots") fd
  d_is_within : ∃ fd, mg "is_within" = some (.ref (He.ga K "is_within")) ∧ FunD K "is_within" "is_within" (defArgs (top 16)) (defBody (top 16)) (defScope (top 16)) [] [] (He.ga K "is_within") fd
  d_least_lots : ∃ fd, mg "least_lots" = some (.ref (He.ga K "least_lots")) ∧ FunD K "least_lots" "least_lots" (defArgs (top 17)) (defBody (top 17)) (defScope (top 17)) [] [] (He.ga K "least_lots") fd
  d_meets : ∃ fd, mg "meets" = some (.ref (He.ga K "meets")) ∧ FunD K "meets" "meets" (defArgs (top 18)) (defBody (top 18)) (defScope (top 18)) [] [] (He.ga K "meets") fd
  d_are_rows_of : ∃ fd, mg "are_rows_of" = some (.ref (He.ga K "are_rows_of")) ∧ FunD K "are_rows_of" "are_rows_of" (defArgs (top 19)) (defBody (top 19)) (defScope (top 19)) [] [] (He.ga K "are_rows_of") fd
  d_least_hitting : ∃ fd, mg "least_hitting" = some (.ref (He.ga K "least_hitting")) ∧ FunD K "least_hitting" "least_hitting" (defArgs (top 20)) (defBody (top 20)) (defScope (top 20)) [] [] (He.ga K "least_hitting") fd
  d__law_draws : ∃ fd, mg "_law_draws" = some (.ref (He.ga K "_law_draws")) ∧ FunD K "_law_draws" "_law_draws" (defArgs (top 22)) (defBody (top 22)) (defScope (top 22)) [] [] (He.ga K "_law_draws") fd
  d__law_words : ∃ fd, mg "_law_words" = some (.ref (He.ga K "_law_words")) ∧ FunD K "_law_words" "_law_words" (defArgs (top 23)) (defBody (top 23)) (defScope (top 23)) [] [] (He.ga K "_law_words") fd
  d__law_rows : ∃ fd, mg "_law_rows" = some (.ref (He.ga K "_law_rows")) ∧ FunD K "_law_rows" "_law_rows" (defArgs (top 24)) (defBody (top 24)) (defScope (top 24)) [] [] (He.ga K "_law_rows") fd
  d__law_meets : ∃ fd, mg "_law_meets" = some (.ref (He.ga K "_law_meets")) ∧ FunD K "_law_meets" "_law_meets" (defArgs (top 25)) (defBody (top 25)) (defScope (top 25)) [] [] (He.ga K "_law_meets") fd
  d__law_least : ∃ fd, mg "_law_least" = some (.ref (He.ga K "_law_least")) ∧ FunD K "_law_least" "_law_least" (defArgs (top 26)) (defBody (top 26)) (defScope (top 26)) [] [] (He.ga K "_law_least") fd
  d__law_least_rows : ∃ fd, mg "_law_least_rows" = some (.ref (He.ga K "_law_least_rows")) ∧ FunD K "_law_least_rows" "_law_least_rows" (defArgs (top 27)) (defBody (top 27)) (defScope (top 27)) [] [] (He.ga K "_law_least_rows") fd
  d__law_put : ∃ fd, mg "_law_put" = some (.ref (He.ga K "_law_put")) ∧ FunD K "_law_put" "_law_put" (defArgs (top 28)) (defBody (top 28)) (defScope (top 28)) [] [] (He.ga K "_law_put") fd
  d__law_wrong_names : ∃ fd, mg "_law_wrong_names" = some (.ref (He.ga K "_law_wrong_names")) ∧ FunD K "_law_wrong_names" "_law_wrong_names" (defArgs (top 29)) (defBody (top 29)) (defScope (top 29)) [] [] (He.ga K "_law_wrong_names") fd
  d__law_wrong_rows : ∃ fd, mg "_law_wrong_rows" = some (.ref (He.ga K "_law_wrong_rows")) ∧ FunD K "_law_wrong_rows" "_law_wrong_rows" (defArgs (top 30)) (defBody (top 30)) (defScope (top 30)) [] [] (He.ga K "_law_wrong_rows") fd
  d__law_refusal : ∃ fd, mg "_law_refusal" = some (.ref (He.ga K "_law_refusal")) ∧ FunD K "_law_refusal" "_law_refusal" (defArgs (top 31)) (defBody (top 31)) (defScope (top 31)) [] [] (He.ga K "_law_refusal") fd
  d__law_handed : ∃ fd, mg "_law_handed" = some (.ref (He.ga K "_law_handed")) ∧ FunD K "_law_handed" "_law_handed" (defArgs (top 32)) (defBody (top 32)) (defScope (top 32)) [] [] (He.ga K "_law_handed") fd
  d_law : ∃ fd, mg "law" = some (.ref (He.ga K "law")) ∧ FunD K "law" "law" (defArgs (top 33)) (defBody (top 33)) (defScope (top 33)) [] [] (He.ga K "law") fd
  e_BadLot_PlantError : PySem.W.exmOne K (.ref (He.ga K "BadLot")) (.ref (He.ga K "PlantError")) = some true
  f_BadLot_why : XfC K (He.ga K "BadLot") ∧ PySem.W.findIn K (.ref (He.ga K "BadLot")) "why" = some none
  g_BadCount : mg "BadCount" = some (.ref (He.ga K "BadCount"))
  g_BadLot : mg "BadLot" = some (.ref (He.ga K "BadLot"))
  g_PlantError : mg "PlantError" = some (.ref (He.ga K "PlantError"))
  i_BadLot_BadCount : ExcC K (He.ga K "BadLot") ∧ PySem.W.kitOne K (.ref (He.ga K "BadLot")) (.ref (He.ga K "BadCount")) = some false
  i_BadLot_BadLot : ExcC K (He.ga K "BadLot") ∧ PySem.W.kitOne K (.ref (He.ga K "BadLot")) (.ref (He.ga K "BadLot")) = some true
  l_all_lots : ∀ fd, (∃ oc od osl, K.lookup (He.ga K "all_lots") = some ⟨oc, od, .func fd, osl⟩) → ∃ c Pt, fd.code = .ref c ∧ LamX.TabB base mg c Pt ∧ (Pt, (("all_lots" : Str) ++ ".<locals>.") ++ "<lambda>") ∈ tb ∧ ∀ p ∈ tb, p.1 = Pt → p.2 = (("all_lots" : Str) ++ ".<locals>.") ++ "<lambda>"
  x_BadLot : XOk Pr K mg "BadLot" "why"

/-! is_list -/
noncomputable def G_is_list : FS :=
  (sRet (f1 (isTy ["list", "tuple"]) (fVar 0)))
noncomputable def F_is_list : List D → R D := runF .sh 1 G_is_list
theorem sc_is_list : FnScope ["value"] ["value"] (defScope (top 4)) := ⟨rfl, rfl, rfl, by decide +kernel, rfl, by decide +kernel, by decide +kernel⟩
theorem k_is_list_isinstance : kdOf (defScope (top 4)) "isinstance" = some .globalImplicit := by decide +kernel
theorem k_is_list_list : kdOf (defScope (top 4)) "list" = some .globalImplicit := by decide +kernel
theorem k_is_list_tuple : kdOf (defScope (top 4)) "tuple" = some .globalImplicit := by decide +kernel
theorem ok_is_list {w : World} {K : PySem.W.Frag} {mg : Str → Option Value} {base : Heap} {tb : Tb} (T : Txt tb K mg base)  : OkF Pr w tb K mg base 1 "is_list" ["value"] .sh 1 F_is_list := by
  obtain ⟨fd, g, F⟩ := T.d_is_list
  refine okF_of (k := 0) (own' := []) (mR := .sh) (nN := 1) (G := G_is_list) g F sc_is_list rfl rfl (by unfold F_is_list; exact Eq.refl _) (fun _ _ _ _ _ _ us hl => match us, hl with | [_], _ => rfl) (fun E => ?_)
  exact (vs_one' (s_ret (ve_isT [("list", "list", _), ("tuple", "tuple", _)] k_is_list_isinstance T.b_isinstance (List.forall_mem_cons.mpr ⟨⟨k_is_list_list, T.b_list, PyProof.Rows.boot_list, by decide, rfl⟩, (List.forall_mem_cons.mpr ⟨⟨k_is_list_tuple, T.b_tuple, PyProof.Rows.boot_tuple, by decide, rfl⟩, (fun _ h => absurd h (by simp))⟩)⟩) (by decide) (ve_look (i := 0) (by kernel_rfl) (by kernel_rfl) rfl rfl))))

/-! is_word -/
noncomputable def G_is_word : FS :=
  (sSeq (sIf (fOrT (fNotT (fTst (f1 (isTy ["str"]) (fVar 0)))) (fNotT (fTst (fChain leD leD (fC (.int 1)) (fCall lenD (fCons (fVar 0) fNil)) (fC (.int 12)))))) (sRet (fC (.bl false))) sSkip)
  (sSeq (sIf (fTst (f2 ninE (f2 ixD (fVar 0) (fC (.int 0))) (fC (.str "abcdefghijklmnopqrstuvwxyz")))) (sRet (fC (.bl false))) sSkip)
  (sSeq (sFor 1 (fSeq (fVar 0)) (sIf (fTst (f2 ninE (fVar 1) (fC (.str "abcdefghijklmnopqrstuvwxyz0123456789-")))) (sRet (fC (.bl false))) sSkip))
  (sRet (fC (.bl true))))))
noncomputable def F_is_word : List D → R D := runF .sh 2 G_is_word
theorem sc_is_word : FnScope ["value", "sign"] ["value"] (defScope (top 5)) := ⟨rfl, rfl, rfl, by decide +kernel, rfl, by decide +kernel, by decide +kernel⟩
theorem k_is_word_LETTERS : kdOf (defScope (top 5)) "LETTERS" = some .globalImplicit := by decide +kernel
theorem k_is_word_LONGEST_WORD : kdOf (defScope (top 5)) "LONGEST_WORD" = some .globalImplicit := by decide +kernel
theorem k_is_word_OTHERS : kdOf (defScope (top 5)) "OTHERS" = some .globalImplicit := by decide +kernel
theorem k_is_word_isinstance : kdOf (defScope (top 5)) "isinstance" = some .globalImplicit := by decide +kernel
theorem k_is_word_len : kdOf (defScope (top 5)) "len" = some .globalImplicit := by decide +kernel
theorem k_is_word_str : kdOf (defScope (top 5)) "str" = some .globalImplicit := by decide +kernel
theorem ok_is_word {w : World} {K : PySem.W.Frag} {mg : Str → Option Value} {base : Heap} {tb : Tb} (T : Txt tb K mg base)  : OkF Pr w tb K mg base 1 "is_word" ["value"] .sh 1 F_is_word := by
  obtain ⟨fd, g, F⟩ := T.d_is_word
  refine okF_of (k := 0) (own' := []) (mR := .sh) (nN := 2) (G := G_is_word) g F sc_is_word rfl rfl (by unfold F_is_word; exact Eq.refl _) (fun _ _ _ _ _ _ us hl => match us, hl with | [_], _ => rfl) (fun E => ?_)
  exact (vs_seq (s_if (vt_of (vw_or (vt_not (vt_val (ve_is1 (n := "str") k_is_word_isinstance T.b_isinstance k_is_word_str T.b_str PyProof.Rows.boot_str (by decide) rfl (ve_look (i := 0) (by kernel_rfl) (by kernel_rfl) rfl rfl)))) (vw_or1 (vt_not (vt_chain os_le os_le (VE.lk_of_sh ve_int) (VE.lk_of_sh (ve_callB cs_len k_is_word_len T.b_len boot_len (vl_cons (ve_look (i := 0) (by kernel_rfl) (by kernel_rfl) rfl rfl) vl_nil) (by decide) rfl)) (VE.lk_of_sh (ve_gint k_is_word_LONGEST_WORD T.c_LONGEST_WORD rfl))))))) (vs_one' (s_ret ve_bl)) vs_nil')
      (vs_seq (s_if (vt_cmp (os_ninE rfl) (VE.lk_of_sh (ve_ix (ve_look (i := 0) (by kernel_rfl) (by kernel_rfl) rfl rfl) (VE.lk_of_sh ve_int) (fun _ _ => rfl))) (VE.lk_of_sh (ve_gstr k_is_word_LETTERS T.c_LETTERS rfl))) (vs_one' (s_ret ve_bl)) vs_nil')
      (vs_seq (s_for (i := 1) rfl (by decide) (by kernel_rfl) (by kernel_rfl) (vi_seq (ve_var (i := 0) (by kernel_rfl) (by kernel_rfl) (by decide) rfl rfl)) (vs_one' (s_if (vt_cmp (os_ninE rfl) (ve_look (i := 1) (by kernel_rfl) (by kernel_rfl) rfl rfl) (VE.lk_of_sh (ve_gstr k_is_word_OTHERS T.c_OTHERS rfl))) (vs_one' (s_ret ve_bl)) vs_nil')))
      (vs_one' (s_ret ve_bl)))))

/-! has_twice -/
noncomputable def G_has_twice : FS :=
  (sSeq (sAsg 1 fDic0)
  (sSeq (sFor 2 (fSeq (fVar 0)) (sSeq (sIf (fTst (f2 inE (fVar 2) (fVar 1))) (sRet (fC (.bl true))) sSkip)
  (sSetE 1 (fVar 2) (fC (.bl true)))))
  (sRet (fC (.bl false)))))
noncomputable def F_has_twice : List D → R D := runF .sh 3 G_has_twice
theorem sc_has_twice : FnScope ["row", "seen", "value"] ["row"] (defScope (top 6)) := ⟨rfl, rfl, rfl, by decide +kernel, rfl, by decide +kernel, by decide +kernel⟩
theorem ok_has_twice {w : World} {K : PySem.W.Frag} {mg : Str → Option Value} {base : Heap} {tb : Tb} (T : Txt tb K mg base)  : OkF Pr w tb K mg base 1 "has_twice" ["row"] .sh 1 F_has_twice := by
  obtain ⟨fd, g, F⟩ := T.d_has_twice
  refine okF_of (k := 0) (own' := []) (mR := .sh) (nN := 3) (G := G_has_twice) g F sc_has_twice rfl rfl (by unfold F_has_twice; exact Eq.refl _) (fun _ _ _ _ _ _ us hl => match us, hl with | [_], _ => rfl) (fun E => ?_)
  exact (vs_seq (s_asgOwn (i := 1) (own' := [1]) (by kernel_rfl) (by kernel_rfl) ve_dic0 rfl)
      (vs_seq (s_for (i := 2) rfl (by decide) (by kernel_rfl) (by kernel_rfl) (vi_seq (ve_var (i := 0) (by kernel_rfl) (by kernel_rfl) (by decide) rfl rfl)) (vs_seq (s_if (vt_cmp (os_inE rfl) (ve_look (i := 2) (by kernel_rfl) (by kernel_rfl) rfl rfl) (ve_look (i := 1) (by kernel_rfl) (by kernel_rfl) rfl rfl)) (vs_one' (s_ret ve_bl)) vs_nil')
      (vs_one' (s_setE (i := 1) (by kernel_rfl) (by kernel_rfl) (by decide) rfl rfl ve_bl (ve_look (i := 2) (by kernel_rfl) (by kernel_rfl) rfl rfl)))))
      (vs_one' (s_ret ve_bl))))

/-! all_lots -/
noncomputable def G_all_lots : FS :=
  (sSeq (sAsg 1 (fLst (fCons (fTup fNil) fNil)))
  (sSeq (sFor 2 (fSeq (fCall sortedD (fCons (fVar 0) fNil))) (sAsg 1 (f2 addD (fVar 1) (fComp 3 (fSeq (fVar 1)) fYes (f2 addD (fVar 3) (fTup (fCons (fVar 2) fNil)))))))
  (sRet (f1 sortKD (fVar 1)))))
noncomputable def F_all_lots : List D → R D := runF .sh 4 G_all_lots
theorem sc_all_lots : FnScope ["names", "lots", "name", "lot"] ["names"] (defScope (top 15)) := ⟨rfl, rfl, rfl, by decide +kernel, rfl, by decide +kernel, by decide +kernel⟩
theorem k_all_lots_sorted : kdOf (defScope (top 15)) "sorted" = some .globalImplicit := by decide +kernel
theorem ok_all_lots {w : World} {K : PySem.W.Frag} {mg : Str → Option Value} {base : Heap} {tb : Tb} (T : Txt tb K mg base)  : OkF Pr w tb K mg base 1 "all_lots" ["names"] .sh 1 F_all_lots := by
  obtain ⟨fd, g, F⟩ := T.d_all_lots
  have lam := T.l_all_lots fd (funD_lk F)
  refine okF_of (k := 0) (own' := []) (mR := .sh) (nN := 4) (G := G_all_lots) g F sc_all_lots rfl rfl (by unfold F_all_lots; exact Eq.refl _) (fun _ _ _ _ _ _ us hl => match us, hl with | [_], _ => rfl) (fun E => ?_)
  exact (vs_seq (s_asg (i := 1) (own' := []) (by kernel_rfl) (by kernel_rfl) (VE.sh_of_fr (ve_list (vs_cons (ve_tuple vs_nil) vs_nil))) rfl)
      (vs_seq (s_for (i := 2) rfl (by decide) (by kernel_rfl) (by kernel_rfl) (vi_seq (VE.sh_of_fr (ve_callB (cs_sorted rfl) k_all_lots_sorted T.b_sorted PyProof.Rows.boot_sorted (vl_cons (ve_look (i := 0) (by kernel_rfl) (by kernel_rfl) rfl rfl) vl_nil) (by decide) rfl))) (vs_one' (s_asg (i := 1) (own' := []) (by kernel_rfl) (by kernel_rfl) (ve_op os_add (ve_look (i := 1) (by kernel_rfl) (by kernel_rfl) rfl rfl) (VE.lk_of_sh (VE.sh_of_fr (ve_comp (i := 3) rfl (by decide) (by kernel_rfl) (by kernel_rfl) (by kernel_rfl) (vi_seq (ve_var (i := 1) (by kernel_rfl) (by kernel_rfl) (by decide) rfl rfl)) vts_nil (ve_op os_add (ve_look (i := 3) (by kernel_rfl) (by kernel_rfl) rfl rfl) (VE.lk_of_sh (ve_tuple (vs_cons (ve_var (i := 2) (by kernel_rfl) (by kernel_rfl) (by decide) rfl rfl) vs_nil)))))))) rfl)))
      (vs_one' (s_ret (VE.sh_of_fr (ve_sortLam (n := "lot") rfl lam (by decide +kernel) rfl T.b_len k_all_lots_sorted T.b_sorted (ve_look (i := 1) (by kernel_rfl) (by kernel_rfl) rfl rfl)))))))

/-! is_within -/
noncomputable def G_is_within : FS :=
  (sRet (f2 eqD (fCall lenD (fCons (fComp 2 (fSeq (fVar 0)) (fTst (f2 ninE (fVar 2) (fVar 1))) (fVar 2)) fNil)) (fC (.int 0))))
noncomputable def F_is_within : List D → R D := runF .sh 3 G_is_within
theorem sc_is_within : FnScope ["small", "large", "name"] ["small", "large"] (defScope (top 16)) := ⟨rfl, rfl, rfl, by decide +kernel, rfl, by decide +kernel, by decide +kernel⟩
theorem k_is_within_len : kdOf (defScope (top 16)) "len" = some .globalImplicit := by decide +kernel
theorem ok_is_within {w : World} {K : PySem.W.Frag} {mg : Str → Option Value} {base : Heap} {tb : Tb} (T : Txt tb K mg base)  : OkF Pr w tb K mg base 1 "is_within" ["small", "large"] .sh 2 F_is_within := by
  obtain ⟨fd, g, F⟩ := T.d_is_within
  refine okF_of (k := 0) (own' := []) (mR := .sh) (nN := 3) (G := G_is_within) g F sc_is_within rfl rfl (by unfold F_is_within; exact Eq.refl _) (fun _ _ _ _ _ _ us hl => match us, hl with | [_, _], _ => rfl) (fun E => ?_)
  exact (vs_one' (s_ret (ve_cmp (os_eq rfl) (VE.lk_of_sh (ve_callB cs_len k_is_within_len T.b_len boot_len (vl_cons (VE.lk_of_sh (VE.sh_of_fr (ve_comp (i := 2) rfl (by decide) (by kernel_rfl) (by kernel_rfl) (by kernel_rfl) (vi_seq (ve_var (i := 0) (by kernel_rfl) (by kernel_rfl) (by decide) rfl rfl)) (vts_one (vt_cmp (os_ninE rfl) (ve_look (i := 2) (by kernel_rfl) (by kernel_rfl) rfl rfl) (ve_look (i := 1) (by kernel_rfl) (by kernel_rfl) rfl rfl))) (ve_var (i := 2) (by kernel_rfl) (by kernel_rfl) (by decide) rfl rfl)))) vl_nil) (by decide) rfl)) (VE.lk_of_sh ve_int))))

/-! meets -/
noncomputable def G_meets : FS :=
  (sRet (f2 gtD (fCall lenD (fCons (fComp 2 (fSeq (fVar 1)) (fTst (f2 inE (fVar 2) (fVar 0))) (fVar 2)) fNil)) (fC (.int 0))))
noncomputable def F_meets : List D → R D := runF .sh 3 G_meets
theorem sc_meets : FnScope ["lot", "row", "name"] ["lot", "row"] (defScope (top 18)) := ⟨rfl, rfl, rfl, by decide +kernel, rfl, by decide +kernel, by decide +kernel⟩
theorem k_meets_len : kdOf (defScope (top 18)) "len" = some .globalImplicit := by decide +kernel
theorem ok_meets {w : World} {K : PySem.W.Frag} {mg : Str → Option Value} {base : Heap} {tb : Tb} (T : Txt tb K mg base)  : OkF Pr w tb K mg base 1 "meets" ["lot", "row"] .sh 2 F_meets := by
  obtain ⟨fd, g, F⟩ := T.d_meets
  refine okF_of (k := 0) (own' := []) (mR := .sh) (nN := 3) (G := G_meets) g F sc_meets rfl rfl (by unfold F_meets; exact Eq.refl _) (fun _ _ _ _ _ _ us hl => match us, hl with | [_, _], _ => rfl) (fun E => ?_)
  exact (vs_one' (s_ret (ve_cmp os_gt (VE.lk_of_sh (ve_callB cs_len k_meets_len T.b_len boot_len (vl_cons (VE.lk_of_sh (VE.sh_of_fr (ve_comp (i := 2) rfl (by decide) (by kernel_rfl) (by kernel_rfl) (by kernel_rfl) (vi_seq (ve_var (i := 1) (by kernel_rfl) (by kernel_rfl) (by decide) rfl rfl)) (vts_one (vt_cmp (os_inE rfl) (ve_look (i := 2) (by kernel_rfl) (by kernel_rfl) rfl rfl) (ve_look (i := 0) (by kernel_rfl) (by kernel_rfl) rfl rfl))) (ve_var (i := 2) (by kernel_rfl) (by kernel_rfl) (by decide) rfl rfl)))) vl_nil) (by decide) rfl)) (VE.lk_of_sh ve_int))))

/-! _law_draws -/
noncomputable def G__law_draws : FS :=
  (sSeq (sAsg 3 (f2 addD (f2 addD (fC (.int 17)) (f2 mulD (fC (.int 13)) (fVar 1))) (f2 modD (fCall intD (fCons (fCall sumD (fCons (fSl sliceD (fVar 0) fNoPart (fPart (fC (.int 1)))) fNil)) fNil)) (fC (.int 1000003)))))
  (sSeq (sIf (fTst (f2 ltD (fVar 1) (fCall lenD (fCons (fVar 0) fNil)))) (sAsg 3 (f2 ixD (fVar 0) (fVar 1))) sSkip)
  (sSeq (sAsg 4 (fLst fNil))
  (sSeq (sAsg 5 (fC (.int 0)))
  (sSeq (sIf (fTst (f2 geD (fCall absD (fCons (fVar 3) fNil)) (f2 powD (fC (.int 10)) (fC (.int 18))))) (sAsg 5 (fCall absD (fCons (fVar 3) fNil))) sSkip)
  (sSeq (sAsg 6 (f2 addD (f2 modD (fCall intD (fCons (fVar 3) fNil)) (fC (.int 1000003))) (f2 mulD (fC (.int 7)) (fVar 1))))
  (sSeq (sFor 7 (fRng (fCons (fVar 2) fNil)) (sSeq (sAsg 6 (f2 modD (fCall intD (fCons (f2 addD (f2 addD (f2 addD (f2 mulD (fVar 6) (fVar 6)) (f2 mulD (fC (.int 31)) (fVar 6))) (f2 mulD (fC (.int 7919)) (fVar 7))) (fC (.int 12345))) fNil)) (fC (.int 2147483647))))
  (sIf (fTst (f2 gtD (fVar 5) (fC (.int 0)))) (sSeq (sApp 4 (f2 modD (fCall intD (fCons (fVar 5) fNil)) (fC (.int 10000))))
  (sAsg 5 (f2 divD (fVar 5) (fC (.int 10000))))) (sApp 4 (f2 modD (fCall intD (fCons (f2 divD (fVar 6) (fC (.int 64))) fNil)) (fC (.int 10000)))))))
  (sRet (fVar 4)))))))))
noncomputable def F__law_draws : List D → R D := runF .sh 8 G__law_draws
theorem sc__law_draws : FnScope ["script", "at", "many", "cell", "told", "rest", "number", "k"] ["script", "at", "many"] (defScope (top 22)) := ⟨rfl, rfl, rfl, by decide +kernel, rfl, by decide +kernel, by decide +kernel⟩
theorem k__law_draws_abs : kdOf (defScope (top 22)) "abs" = some .globalImplicit := by decide +kernel
theorem k__law_draws_int : kdOf (defScope (top 22)) "int" = some .globalImplicit := by decide +kernel
theorem k__law_draws_len : kdOf (defScope (top 22)) "len" = some .globalImplicit := by decide +kernel
theorem k__law_draws_range : kdOf (defScope (top 22)) "range" = some .globalImplicit := by decide +kernel
theorem k__law_draws_sum : kdOf (defScope (top 22)) "sum" = some .globalImplicit := by decide +kernel
theorem ok__law_draws {w : World} {K : PySem.W.Frag} {mg : Str → Option Value} {base : Heap} {tb : Tb} (T : Txt tb K mg base)  : OkF Pr w tb K mg base 1 "_law_draws" ["script", "at", "many"] .sh 3 F__law_draws := by
  obtain ⟨fd, g, F⟩ := T.d__law_draws
  refine okF_of (k := 0) (own' := []) (mR := .sh) (nN := 8) (G := G__law_draws) g F sc__law_draws rfl rfl (by unfold F__law_draws; exact Eq.refl _) (fun _ _ _ _ _ _ us hl => match us, hl with | [_, _, _], _ => rfl) (fun E => ?_)
  exact (vs_seq (s_asg (i := 3) (own' := []) (by kernel_rfl) (by kernel_rfl) (ve_op os_add (VE.lk_of_sh (ve_op os_add (VE.lk_of_sh ve_int) (VE.lk_of_sh (ve_op os_mul (VE.lk_of_sh ve_int) (ve_look (i := 1) (by kernel_rfl) (by kernel_rfl) rfl rfl))))) (VE.lk_of_sh (ve_op os_mod (VE.lk_of_sh (ve_callTy cs_int k__law_draws_int T.b_int PyProof.Rows.boot_int (vl_cons (VE.lk_of_sh (ve_callB (cs_sum rfl) k__law_draws_sum T.b_sum PyProof.Rows.boot_sum (vl_cons (VE.lk_of_sh (ve_slice (ve_look (i := 0) (by kernel_rfl) (by kernel_rfl) rfl rfl) vo_none (vo_some (VE.lk_of_sh ve_int)))) vl_nil) (by decide) rfl)) vl_nil) (by decide) rfl)) (VE.lk_of_sh ve_int)))) rfl)
      (vs_seq (s_if (vt_cmp os_lt (ve_look (i := 1) (by kernel_rfl) (by kernel_rfl) rfl rfl) (VE.lk_of_sh (ve_callB cs_len k__law_draws_len T.b_len boot_len (vl_cons (ve_look (i := 0) (by kernel_rfl) (by kernel_rfl) rfl rfl) vl_nil) (by decide) rfl))) (vs_one' (s_asg (i := 3) (own' := []) (by kernel_rfl) (by kernel_rfl) (ve_ix (ve_look (i := 0) (by kernel_rfl) (by kernel_rfl) rfl rfl) (ve_look (i := 1) (by kernel_rfl) (by kernel_rfl) rfl rfl) (fun _ _ => rfl)) rfl)) vs_nil')
      (vs_seq (s_asgOwn (i := 4) (own' := [4]) (by kernel_rfl) (by kernel_rfl) (ve_list vs_nil) rfl)
      (vs_seq (s_asg (i := 5) (own' := [4]) (by kernel_rfl) (by kernel_rfl) ve_int rfl)
      (vs_seq (s_if (vt_cmp os_ge (VE.lk_of_sh (ve_callB cs_abs k__law_draws_abs T.b_abs PyProof.Rows.boot_abs (vl_cons (ve_look (i := 3) (by kernel_rfl) (by kernel_rfl) rfl rfl) vl_nil) (by decide) rfl)) (VE.lk_of_sh (ve_op os_pow (VE.lk_of_sh ve_int) (VE.lk_of_sh ve_int)))) (vs_one' (s_asg (i := 5) (own' := [4]) (by kernel_rfl) (by kernel_rfl) (ve_callB cs_abs k__law_draws_abs T.b_abs PyProof.Rows.boot_abs (vl_cons (ve_look (i := 3) (by kernel_rfl) (by kernel_rfl) rfl rfl) vl_nil) (by decide) rfl) rfl)) vs_nil')
      (vs_seq (s_asg (i := 6) (own' := [4]) (by kernel_rfl) (by kernel_rfl) (ve_op os_add (VE.lk_of_sh (ve_op os_mod (VE.lk_of_sh (ve_callTy cs_int k__law_draws_int T.b_int PyProof.Rows.boot_int (vl_cons (ve_look (i := 3) (by kernel_rfl) (by kernel_rfl) rfl rfl) vl_nil) (by decide) rfl)) (VE.lk_of_sh ve_int))) (VE.lk_of_sh (ve_op os_mul (VE.lk_of_sh ve_int) (ve_look (i := 1) (by kernel_rfl) (by kernel_rfl) rfl rfl)))) rfl)
      (vs_seq (s_for (i := 7) rfl (by decide) (by kernel_rfl) (by kernel_rfl) (vi_range1 k__law_draws_range T.b_range (vl_cons (ve_look (i := 2) (by kernel_rfl) (by kernel_rfl) rfl rfl) vl_nil) (len_cons len_nil)) (vs_seq (s_asg (i := 6) (own' := [4]) (by kernel_rfl) (by kernel_rfl) (ve_op os_mod (VE.lk_of_sh (ve_callTy cs_int k__law_draws_int T.b_int PyProof.Rows.boot_int (vl_cons (VE.lk_of_sh (ve_op os_add (VE.lk_of_sh (ve_op os_add (VE.lk_of_sh (ve_op os_add (VE.lk_of_sh (ve_op os_mul (ve_look (i := 6) (by kernel_rfl) (by kernel_rfl) rfl rfl) (ve_look (i := 6) (by kernel_rfl) (by kernel_rfl) rfl rfl))) (VE.lk_of_sh (ve_op os_mul (VE.lk_of_sh ve_int) (ve_look (i := 6) (by kernel_rfl) (by kernel_rfl) rfl rfl))))) (VE.lk_of_sh (ve_op os_mul (VE.lk_of_sh ve_int) (ve_look (i := 7) (by kernel_rfl) (by kernel_rfl) rfl rfl))))) (VE.lk_of_sh ve_int))) vl_nil) (by decide) rfl)) (VE.lk_of_sh ve_int)) rfl)
      (vs_one' (s_if (vt_cmp os_gt (ve_look (i := 5) (by kernel_rfl) (by kernel_rfl) rfl rfl) (VE.lk_of_sh ve_int)) (vs_seq (s_append (i := 4) (by kernel_rfl) (by kernel_rfl) (by decide) rfl rfl (ve_op os_mod (VE.lk_of_sh (ve_callTy cs_int k__law_draws_int T.b_int PyProof.Rows.boot_int (vl_cons (ve_look (i := 5) (by kernel_rfl) (by kernel_rfl) rfl rfl) vl_nil) (by decide) rfl)) (VE.lk_of_sh ve_int)))
      (vs_one' (s_asg (i := 5) (own' := [4]) (by kernel_rfl) (by kernel_rfl) (ve_op os_div (ve_look (i := 5) (by kernel_rfl) (by kernel_rfl) rfl rfl) (VE.lk_of_sh ve_int)) rfl))) (vs_one' (s_append (i := 4) (by kernel_rfl) (by kernel_rfl) (by decide) rfl rfl (ve_op os_mod (VE.lk_of_sh (ve_callTy cs_int k__law_draws_int T.b_int PyProof.Rows.boot_int (vl_cons (VE.lk_of_sh (ve_op os_div (ve_look (i := 6) (by kernel_rfl) (by kernel_rfl) rfl rfl) (VE.lk_of_sh ve_int))) vl_nil) (by decide) rfl)) (VE.lk_of_sh ve_int))))))))
      (vs_one' (v1_give (own1 := []) (by decide) (s_ret (ve_var (i := 4) (by kernel_rfl) (by kernel_rfl) (by decide) rfl rfl)))))))))))

/-! _law_words -/
noncomputable def G__law_words : FS :=
  (sSeq (sAsg 2 (fC (.str "abcdefghijklmnopqrstuvwxyz")))
  (sSeq (sAsg 3 (fLst fNil))
  (sSeq (sFor 4 (fRng (fCons (fVar 1) fNil)) (sSeq (sAsg 5 (f2 ixD (fVar 2) (f2 modD (fCall intD (fCons (f2 ixD (fVar 0) (fVar 4)) fNil)) (fC (.int 26)))))
  (sSeq (sIf (fTst (f2 eqD (f2 modD (fCall intD (fCons (f2 divD (f2 ixD (fVar 0) (fVar 4)) (fC (.int 26))) fNil)) (fC (.int 3))) (fC (.int 1)))) (sAsg 5 (f2 addD (fVar 5) (f2 ixD (fVar 2) (f2 modD (fCall intD (fCons (f2 divD (f2 ixD (fVar 0) (fVar 4)) (fC (.int 78))) fNil)) (fC (.int 26)))))) sSkip)
  (sSeq (sIf (fTst (f2 eqD (f2 modD (fCall intD (fCons (f2 divD (f2 ixD (fVar 0) (fVar 4)) (fC (.int 26))) fNil)) (fC (.int 3))) (fC (.int 2)))) (sAsg 5 (f2 addD (f2 addD (fVar 5) (fC (.str "-"))) (fCall strD (fCons (f2 modD (fCall intD (fCons (f2 divD (f2 ixD (fVar 0) (fVar 4)) (fC (.int 78))) fNil)) (fC (.int 10))) fNil)))) sSkip)
  (sSeq (sFor 6 (fRng (fCons (fC (.int 9)) fNil)) (sIf (fTst (f2 inE (fVar 5) (fVar 3))) (sAsg 5 (f2 addD (fVar 5) (f2 ixD (fVar 2) (f2 modD (fCall intD (fCons (f2 addD (f2 ixD (fVar 0) (fVar 4)) (fVar 6)) fNil)) (fC (.int 26)))))) sSkip))
  (sApp 3 (fVar 5)))))))
  (sRet (fVar 3)))))
noncomputable def F__law_words : List D → R D := runF .fr 7 G__law_words
theorem sc__law_words : FnScope ["draws", "many", "letters", "told", "k", "word", "turn"] ["draws", "many"] (defScope (top 23)) := ⟨rfl, rfl, rfl, by decide +kernel, rfl, by decide +kernel, by decide +kernel⟩
theorem k__law_words_int : kdOf (defScope (top 23)) "int" = some .globalImplicit := by decide +kernel
theorem k__law_words_range : kdOf (defScope (top 23)) "range" = some .globalImplicit := by decide +kernel
theorem k__law_words_str : kdOf (defScope (top 23)) "str" = some .globalImplicit := by decide +kernel
theorem ok__law_words {w : World} {K : PySem.W.Frag} {mg : Str → Option Value} {base : Heap} {tb : Tb} (T : Txt tb K mg base)  : OkF Pr w tb K mg base 1 "_law_words" ["draws", "many"] .fr 2 F__law_words := by
  obtain ⟨fd, g, F⟩ := T.d__law_words
  refine okF_of (k := 0) (own' := []) (mR := .fr) (nN := 7) (G := G__law_words) g F sc__law_words rfl rfl (by unfold F__law_words; exact Eq.refl _) (fun _ _ _ _ _ _ us hl => match us, hl with | [_, _], _ => rfl) (fun E => ?_)
  exact (vs_seq (s_asg (i := 2) (own' := []) (by kernel_rfl) (by kernel_rfl) ve_str rfl)
      (vs_seq (s_asgOwn (i := 3) (own' := [3]) (by kernel_rfl) (by kernel_rfl) (ve_list vs_nil) rfl)
      (vs_seq (s_for (i := 4) rfl (by decide) (by kernel_rfl) (by kernel_rfl) (vi_range1 k__law_words_range T.b_range (vl_cons (ve_look (i := 1) (by kernel_rfl) (by kernel_rfl) rfl rfl) vl_nil) (len_cons len_nil)) (vs_seq (s_asg (i := 5) (own' := [3]) (by kernel_rfl) (by kernel_rfl) (ve_ix (ve_look (i := 2) (by kernel_rfl) (by kernel_rfl) rfl rfl) (VE.lk_of_sh (ve_op os_mod (VE.lk_of_sh (ve_callTy cs_int k__law_words_int T.b_int PyProof.Rows.boot_int (vl_cons (VE.lk_of_sh (ve_ix (ve_look (i := 0) (by kernel_rfl) (by kernel_rfl) rfl rfl) (ve_look (i := 4) (by kernel_rfl) (by kernel_rfl) rfl rfl) (fun _ _ => rfl))) vl_nil) (by decide) rfl)) (VE.lk_of_sh ve_int))) (fun _ _ => rfl)) rfl)
      (vs_seq (s_if (vt_cmp (os_eq rfl) (VE.lk_of_sh (ve_op os_mod (VE.lk_of_sh (ve_callTy cs_int k__law_words_int T.b_int PyProof.Rows.boot_int (vl_cons (VE.lk_of_sh (ve_op os_div (VE.lk_of_sh (ve_ix (ve_look (i := 0) (by kernel_rfl) (by kernel_rfl) rfl rfl) (ve_look (i := 4) (by kernel_rfl) (by kernel_rfl) rfl rfl) (fun _ _ => rfl))) (VE.lk_of_sh ve_int))) vl_nil) (by decide) rfl)) (VE.lk_of_sh ve_int))) (VE.lk_of_sh ve_int)) (vs_one' (s_asg (i := 5) (own' := [3]) (by kernel_rfl) (by kernel_rfl) (ve_op os_add (ve_look (i := 5) (by kernel_rfl) (by kernel_rfl) rfl rfl) (VE.lk_of_sh (ve_ix (ve_look (i := 2) (by kernel_rfl) (by kernel_rfl) rfl rfl) (VE.lk_of_sh (ve_op os_mod (VE.lk_of_sh (ve_callTy cs_int k__law_words_int T.b_int PyProof.Rows.boot_int (vl_cons (VE.lk_of_sh (ve_op os_div (VE.lk_of_sh (ve_ix (ve_look (i := 0) (by kernel_rfl) (by kernel_rfl) rfl rfl) (ve_look (i := 4) (by kernel_rfl) (by kernel_rfl) rfl rfl) (fun _ _ => rfl))) (VE.lk_of_sh ve_int))) vl_nil) (by decide) rfl)) (VE.lk_of_sh ve_int))) (fun _ _ => rfl)))) rfl)) vs_nil')
      (vs_seq (s_if (vt_cmp (os_eq rfl) (VE.lk_of_sh (ve_op os_mod (VE.lk_of_sh (ve_callTy cs_int k__law_words_int T.b_int PyProof.Rows.boot_int (vl_cons (VE.lk_of_sh (ve_op os_div (VE.lk_of_sh (ve_ix (ve_look (i := 0) (by kernel_rfl) (by kernel_rfl) rfl rfl) (ve_look (i := 4) (by kernel_rfl) (by kernel_rfl) rfl rfl) (fun _ _ => rfl))) (VE.lk_of_sh ve_int))) vl_nil) (by decide) rfl)) (VE.lk_of_sh ve_int))) (VE.lk_of_sh ve_int)) (vs_one' (s_asg (i := 5) (own' := [3]) (by kernel_rfl) (by kernel_rfl) (ve_op os_add (VE.lk_of_sh (ve_op os_add (ve_look (i := 5) (by kernel_rfl) (by kernel_rfl) rfl rfl) (VE.lk_of_sh ve_str))) (VE.lk_of_sh (ve_callTy cs_str k__law_words_str T.b_str PyProof.Rows.boot_str (vl_cons (VE.lk_of_sh (ve_op os_mod (VE.lk_of_sh (ve_callTy cs_int k__law_words_int T.b_int PyProof.Rows.boot_int (vl_cons (VE.lk_of_sh (ve_op os_div (VE.lk_of_sh (ve_ix (ve_look (i := 0) (by kernel_rfl) (by kernel_rfl) rfl rfl) (ve_look (i := 4) (by kernel_rfl) (by kernel_rfl) rfl rfl) (fun _ _ => rfl))) (VE.lk_of_sh ve_int))) vl_nil) (by decide) rfl)) (VE.lk_of_sh ve_int))) vl_nil) (by decide) rfl))) rfl)) vs_nil')
      (vs_seq (s_for (i := 6) rfl (by decide) (by kernel_rfl) (by kernel_rfl) (vi_range1 k__law_words_range T.b_range (vl_cons (VE.lk_of_sh ve_int) vl_nil) (len_cons len_nil)) (vs_one' (s_if (vt_cmp (os_inE rfl) (ve_look (i := 5) (by kernel_rfl) (by kernel_rfl) rfl rfl) (ve_look (i := 3) (by kernel_rfl) (by kernel_rfl) rfl rfl)) (vs_one' (s_asg (i := 5) (own' := [3]) (by kernel_rfl) (by kernel_rfl) (ve_op os_add (ve_look (i := 5) (by kernel_rfl) (by kernel_rfl) rfl rfl) (VE.lk_of_sh (ve_ix (ve_look (i := 2) (by kernel_rfl) (by kernel_rfl) rfl rfl) (VE.lk_of_sh (ve_op os_mod (VE.lk_of_sh (ve_callTy cs_int k__law_words_int T.b_int PyProof.Rows.boot_int (vl_cons (VE.lk_of_sh (ve_op os_add (VE.lk_of_sh (ve_ix (ve_look (i := 0) (by kernel_rfl) (by kernel_rfl) rfl rfl) (ve_look (i := 4) (by kernel_rfl) (by kernel_rfl) rfl rfl) (fun _ _ => rfl))) (ve_look (i := 6) (by kernel_rfl) (by kernel_rfl) rfl rfl))) vl_nil) (by decide) rfl)) (VE.lk_of_sh ve_int))) (fun _ _ => rfl)))) rfl)) vs_nil')))
      (vs_one' (s_append (i := 3) (by kernel_rfl) (by kernel_rfl) (by decide) rfl rfl (ve_var (i := 5) (by kernel_rfl) (by kernel_rfl) (by decide) rfl rfl))))))))
      (vs_one' (s_retOwn (i := 3) (by kernel_rfl) (by kernel_rfl) (by decide) rfl rfl)))))

/-! _law_rows -/
noncomputable def G__law_rows : FS :=
  (sSeq (sAsg 3 (fLst fNil))
  (sSeq (sFor 4 (fRng (fCons (fVar 2) fNil)) (sSeq (sAsg 5 (fCall intD (fCons (f2 ixD (fVar 0) (fVar 4)) fNil)))
  (sSeq (sAsg 6 (fComp 7 (fRng (fCons (fCall lenD (fCons (fVar 1) fNil)) fNil)) (fTst (f2 eqD (f2 modD (fCall intD (fCons (f2 divD (fVar 5) (f2 shlD (fC (.int 1)) (fVar 7))) fNil)) (fC (.int 2))) (fC (.int 1)))) (f2 ixD (fVar 1) (fVar 7))))
  (sSeq (sIf (fAndT (fTst (f2 eqD (fCall lenD (fCons (fVar 6) fNil)) (fC (.int 0)))) (fAndT (fTst (f2 gtD (fCall lenD (fCons (fVar 1) fNil)) (fC (.int 0)))) (fTst (f2 gtD (f2 modD (fVar 5) (fC (.int 5))) (fC (.int 0)))))) (sAsg 6 (fLst (fCons (f2 ixD (fVar 1) (f2 modD (fVar 5) (fCall lenD (fCons (fVar 1) fNil)))) fNil))) sSkip)
  (sSeq (sIf (fTst (f2 eqD (f2 modD (fCall intD (fCons (f2 divD (fVar 5) (fC (.int 128))) fNil)) (fC (.int 2))) (fC (.int 1)))) (sAsg 6 (f1 revD (fVar 6))) sSkip)
  (sSeq (sIf (fAndT (fTst (f2 eqD (f2 modD (fCall intD (fCons (f2 divD (fVar 5) (fC (.int 256))) fNil)) (fC (.int 4))) (fC (.int 1)))) (fTst (f2 gtD (fCall lenD (fCons (fVar 6) fNil)) (fC (.int 0))))) (sAsg 6 (f2 addD (fVar 6) (fLst (fCons (f2 ixD (fVar 6) (fC (.int 0))) fNil)))) sSkip)
  (sApp 3 (fVar 6))))))))
  (sRet (fVar 3))))
noncomputable def F__law_rows : List D → R D := runF .sh 8 G__law_rows
theorem sc__law_rows : FnScope ["draws", "names", "many", "told", "k", "number", "row", "j"] ["draws", "names", "many"] (defScope (top 24)) := ⟨rfl, rfl, rfl, by decide +kernel, rfl, by decide +kernel, by decide +kernel⟩
theorem k__law_rows_int : kdOf (defScope (top 24)) "int" = some .globalImplicit := by decide +kernel
theorem k__law_rows_len : kdOf (defScope (top 24)) "len" = some .globalImplicit := by decide +kernel
theorem k__law_rows_range : kdOf (defScope (top 24)) "range" = some .globalImplicit := by decide +kernel
theorem ok__law_rows {w : World} {K : PySem.W.Frag} {mg : Str → Option Value} {base : Heap} {tb : Tb} (T : Txt tb K mg base)  : OkF Pr w tb K mg base 1 "_law_rows" ["draws", "names", "many"] .sh 3 F__law_rows := by
  obtain ⟨fd, g, F⟩ := T.d__law_rows
  refine okF_of (k := 0) (own' := []) (mR := .sh) (nN := 8) (G := G__law_rows) g F sc__law_rows rfl rfl (by unfold F__law_rows; exact Eq.refl _) (fun _ _ _ _ _ _ us hl => match us, hl with | [_, _, _], _ => rfl) (fun E => ?_)
  exact (vs_seq (s_asgOwn (i := 3) (own' := [3]) (by kernel_rfl) (by kernel_rfl) (ve_list vs_nil) rfl)
      (vs_seq (s_for (i := 4) rfl (by decide) (by kernel_rfl) (by kernel_rfl) (vi_range1 k__law_rows_range T.b_range (vl_cons (ve_look (i := 2) (by kernel_rfl) (by kernel_rfl) rfl rfl) vl_nil) (len_cons len_nil)) (vs_seq (s_asg (i := 5) (own' := [3]) (by kernel_rfl) (by kernel_rfl) (ve_callTy cs_int k__law_rows_int T.b_int PyProof.Rows.boot_int (vl_cons (VE.lk_of_sh (ve_ix (ve_look (i := 0) (by kernel_rfl) (by kernel_rfl) rfl rfl) (ve_look (i := 4) (by kernel_rfl) (by kernel_rfl) rfl rfl) (fun _ _ => rfl))) vl_nil) (by decide) rfl) rfl)
      (vs_seq (s_setLc (i := 6) (own' := [6, 3]) (hN := (by kernel_rfl)) (hl := (by kernel_rfl)) (hK := rfl) (hline := rfl) (hsw := (by kernel_rfl)) (ho := rfl) (k := 7) rfl (by decide) (by kernel_rfl) (by kernel_rfl) (by kernel_rfl) (vi_range1 k__law_rows_range T.b_range (vl_cons (VE.lk_of_sh (ve_callB cs_len k__law_rows_len T.b_len boot_len (vl_cons (ve_look (i := 1) (by kernel_rfl) (by kernel_rfl) rfl rfl) vl_nil) (by decide) rfl)) vl_nil) (len_cons len_nil)) (vts_one (vt_cmp (os_eq rfl) (VE.lk_of_sh (ve_op os_mod (VE.lk_of_sh (ve_callTy cs_int (by kernel_rfl) T.b_int PyProof.Rows.boot_int (vl_cons (VE.lk_of_sh (ve_op os_div (ve_look (i := 5) (by kernel_rfl) (by kernel_rfl) rfl rfl) (VE.lk_of_sh (ve_op os_shl (VE.lk_of_sh ve_int) (ve_look (i := 7) (by kernel_rfl) (by kernel_rfl) rfl rfl))))) vl_nil) (by decide) rfl)) (VE.lk_of_sh ve_int))) (VE.lk_of_sh ve_int))) (ve_ix (ve_look (i := 1) (by kernel_rfl) (by kernel_rfl) rfl rfl) (ve_look (i := 7) (by kernel_rfl) (by kernel_rfl) rfl rfl) (fun _ _ => rfl)))
      (vs_seq (s_if (vt_of (vw_and (vt_cmp (os_eq rfl) (VE.lk_of_sh (ve_callB cs_len k__law_rows_len T.b_len boot_len (vl_cons (ve_look (i := 6) (by kernel_rfl) (by kernel_rfl) rfl rfl) vl_nil) (by decide) rfl)) (VE.lk_of_sh ve_int)) (vw_and (vt_cmp os_gt (VE.lk_of_sh (ve_callB cs_len k__law_rows_len T.b_len boot_len (vl_cons (ve_look (i := 1) (by kernel_rfl) (by kernel_rfl) rfl rfl) vl_nil) (by decide) rfl)) (VE.lk_of_sh ve_int)) (vw_and1 (vt_cmp os_gt (VE.lk_of_sh (ve_op os_mod (ve_look (i := 5) (by kernel_rfl) (by kernel_rfl) rfl rfl) (VE.lk_of_sh ve_int))) (VE.lk_of_sh ve_int)))))) (vs_one' (s_asg (i := 6) (own' := [3]) (by kernel_rfl) (by kernel_rfl) (VE.sh_of_fr (ve_list (vs_cons (ve_ix (ve_look (i := 1) (by kernel_rfl) (by kernel_rfl) rfl rfl) (VE.lk_of_sh (ve_op os_mod (ve_look (i := 5) (by kernel_rfl) (by kernel_rfl) rfl rfl) (VE.lk_of_sh (ve_callB cs_len k__law_rows_len T.b_len boot_len (vl_cons (ve_look (i := 1) (by kernel_rfl) (by kernel_rfl) rfl rfl) vl_nil) (by decide) rfl)))) (fun _ _ => rfl)) vs_nil))) rfl)) (vs_less (own1 := [6, 3]) (by decide) vs_nil'))
      (vs_seq (s_if (vt_cmp (os_eq rfl) (VE.lk_of_sh (ve_op os_mod (VE.lk_of_sh (ve_callTy cs_int k__law_rows_int T.b_int PyProof.Rows.boot_int (vl_cons (VE.lk_of_sh (ve_op os_div (ve_look (i := 5) (by kernel_rfl) (by kernel_rfl) rfl rfl) (VE.lk_of_sh ve_int))) vl_nil) (by decide) rfl)) (VE.lk_of_sh ve_int))) (VE.lk_of_sh ve_int)) (vs_one' (s_asg (i := 6) (own' := [3]) (by kernel_rfl) (by kernel_rfl) (VE.sh_of_fr (ve_rev (ve_look (i := 6) (by kernel_rfl) (by kernel_rfl) rfl rfl))) rfl)) vs_nil')
      (vs_seq (s_if (vt_of (vw_and (vt_cmp (os_eq rfl) (VE.lk_of_sh (ve_op os_mod (VE.lk_of_sh (ve_callTy cs_int k__law_rows_int T.b_int PyProof.Rows.boot_int (vl_cons (VE.lk_of_sh (ve_op os_div (ve_look (i := 5) (by kernel_rfl) (by kernel_rfl) rfl rfl) (VE.lk_of_sh ve_int))) vl_nil) (by decide) rfl)) (VE.lk_of_sh ve_int))) (VE.lk_of_sh ve_int)) (vw_and1 (vt_cmp os_gt (VE.lk_of_sh (ve_callB cs_len k__law_rows_len T.b_len boot_len (vl_cons (ve_look (i := 6) (by kernel_rfl) (by kernel_rfl) rfl rfl) vl_nil) (by decide) rfl)) (VE.lk_of_sh ve_int))))) (vs_one' (s_asg (i := 6) (own' := [3]) (by kernel_rfl) (by kernel_rfl) (ve_op os_add (ve_look (i := 6) (by kernel_rfl) (by kernel_rfl) rfl rfl) (VE.lk_of_sh (VE.sh_of_fr (ve_list (vs_cons (ve_ix (ve_look (i := 6) (by kernel_rfl) (by kernel_rfl) rfl rfl) (VE.lk_of_sh ve_int) (fun _ _ => rfl)) vs_nil))))) rfl)) vs_nil')
      (vs_one' (s_append (i := 3) (by kernel_rfl) (by kernel_rfl) (by decide) rfl rfl (ve_var (i := 6) (by kernel_rfl) (by kernel_rfl) (by decide) rfl rfl)))))))))
      (vs_one' (v1_give (own1 := []) (by decide) (s_ret (ve_var (i := 3) (by kernel_rfl) (by kernel_rfl) (by decide) rfl rfl))))))

/-! _law_meets -/
noncomputable def G__law_meets : FS :=
  (sSeq (sFor 2 (fSeq (fVar 1)) (sIf (fTst (f2 eqD (fCall lenD (fCons (fComp 3 (fSeq (fVar 2)) (fTst (f2 inE (fVar 3) (fVar 0))) (fVar 3)) fNil)) (fC (.int 0)))) (sRet (fC (.bl false))) sSkip))
  (sRet (fC (.bl true))))
noncomputable def F__law_meets : List D → R D := runF .sh 4 G__law_meets
theorem sc__law_meets : FnScope ["lot", "rows", "row", "name"] ["lot", "rows"] (defScope (top 25)) := ⟨rfl, rfl, rfl, by decide +kernel, rfl, by decide +kernel, by decide +kernel⟩
theorem k__law_meets_len : kdOf (defScope (top 25)) "len" = some .globalImplicit := by decide +kernel
theorem ok__law_meets {w : World} {K : PySem.W.Frag} {mg : Str → Option Value} {base : Heap} {tb : Tb} (T : Txt tb K mg base)  : OkF Pr w tb K mg base 1 "_law_meets" ["lot", "rows"] .sh 2 F__law_meets := by
  obtain ⟨fd, g, F⟩ := T.d__law_meets
  refine okF_of (k := 0) (own' := []) (mR := .sh) (nN := 4) (G := G__law_meets) g F sc__law_meets rfl rfl (by unfold F__law_meets; exact Eq.refl _) (fun _ _ _ _ _ _ us hl => match us, hl with | [_, _], _ => rfl) (fun E => ?_)
  exact (vs_seq (s_for (i := 2) rfl (by decide) (by kernel_rfl) (by kernel_rfl) (vi_seq (ve_var (i := 1) (by kernel_rfl) (by kernel_rfl) (by decide) rfl rfl)) (vs_one' (s_if (vt_cmp (os_eq rfl) (VE.lk_of_sh (ve_callB cs_len k__law_meets_len T.b_len boot_len (vl_cons (VE.lk_of_sh (VE.sh_of_fr (ve_comp (i := 3) rfl (by decide) (by kernel_rfl) (by kernel_rfl) (by kernel_rfl) (vi_seq (ve_var (i := 2) (by kernel_rfl) (by kernel_rfl) (by decide) rfl rfl)) (vts_one (vt_cmp (os_inE rfl) (ve_look (i := 3) (by kernel_rfl) (by kernel_rfl) rfl rfl) (ve_look (i := 0) (by kernel_rfl) (by kernel_rfl) rfl rfl))) (ve_var (i := 3) (by kernel_rfl) (by kernel_rfl) (by decide) rfl rfl)))) vl_nil) (by decide) rfl)) (VE.lk_of_sh ve_int)) (vs_one' (s_ret ve_bl)) vs_nil')))
      (vs_one' (s_ret ve_bl)))

/-! _law_least_rows -/
noncomputable def G__law_least_rows : FS :=
  (sSeq (sAsg 2 (fCall sortedD (fCons (fVar 1) fNil)))
  (sSeq (sAsg 3 (fLst fNil))
  (sSeq (sFor 4 (fSeq (fVar 0)) (sSeq (sAsg 6 (fCall tupleD (fCons (fComp 10 (fSeq (fVar 2)) (fTst (f2 inE (fVar 10) (fVar 4))) (fVar 10)) fNil)))
  (sIf (fTst (f2 ninE (fVar 6) (fVar 3))) (sApp 3 (fVar 6)) sSkip)))
  (sSeq (sAsg 5 (fLst fNil))
  (sSeq (sFor 6 (fSeq (fVar 3)) (sSeq (sAsg 7 (fC (.int 0)))
  (sSeq (sFor 8 (fSeq (fVar 3)) (sIf (fAndT (fTst (f2 neD (fVar 8) (fVar 6))) (fTst (f2 eqD (fCall lenD (fCons (fComp 10 (fSeq (fVar 8)) (fTst (f2 ninE (fVar 10) (fVar 6))) (fVar 10)) fNil)) (fC (.int 0))))) (sAsg 7 (f2 addD (fVar 7) (fC (.int 1)))) sSkip))
  (sIf (fTst (f2 eqD (fVar 7) (fC (.int 0)))) (sApp 5 (fTup (fCons (fCall lenD (fCons (fVar 6) fNil)) (fCons (fVar 6) fNil)))) sSkip))))
  (sRet (fComp 9 (fSeq (fCall sortedD (fCons (fVar 5) fNil))) fYes (f2 ixD (fVar 9) (fC (.int 1))))))))))
noncomputable def F__law_least_rows : List D → R D := runF .sh 11 G__law_least_rows
theorem sc__law_least_rows : FnScope ["rows", "names", "line", "lots", "row", "told", "lot", "smaller", "other", "pair", "name"] ["rows", "names"] (defScope (top 27)) := ⟨rfl, rfl, rfl, by decide +kernel, rfl, by decide +kernel, by decide +kernel⟩
theorem k__law_least_rows_len : kdOf (defScope (top 27)) "len" = some .globalImplicit := by decide +kernel
theorem k__law_least_rows_sorted : kdOf (defScope (top 27)) "sorted" = some .globalImplicit := by decide +kernel
theorem k__law_least_rows_tuple : kdOf (defScope (top 27)) "tuple" = some .globalImplicit := by decide +kernel
theorem ok__law_least_rows {w : World} {K : PySem.W.Frag} {mg : Str → Option Value} {base : Heap} {tb : Tb} (T : Txt tb K mg base)  : OkF Pr w tb K mg base 1 "_law_least_rows" ["rows", "names"] .sh 2 F__law_least_rows := by
  obtain ⟨fd, g, F⟩ := T.d__law_least_rows
  refine okF_of (k := 0) (own' := []) (mR := .sh) (nN := 11) (G := G__law_least_rows) g F sc__law_least_rows rfl rfl (by unfold F__law_least_rows; exact Eq.refl _) (fun _ _ _ _ _ _ us hl => match us, hl with | [_, _], _ => rfl) (fun E => ?_)
  exact (vs_seq (s_asg (i := 2) (own' := []) (by kernel_rfl) (by kernel_rfl) (VE.sh_of_fr (ve_callB (cs_sorted rfl) k__law_least_rows_sorted T.b_sorted PyProof.Rows.boot_sorted (vl_cons (ve_look (i := 1) (by kernel_rfl) (by kernel_rfl) rfl rfl) vl_nil) (by decide) rfl)) rfl)
      (vs_seq (s_asgOwn (i := 3) (own' := [3]) (by kernel_rfl) (by kernel_rfl) (ve_list vs_nil) rfl)
      (vs_seq (s_for (i := 4) rfl (by decide) (by kernel_rfl) (by kernel_rfl) (vi_seq (ve_var (i := 0) (by kernel_rfl) (by kernel_rfl) (by decide) rfl rfl)) (vs_seq (s_asg (i := 6) (own' := [3]) (by kernel_rfl) (by kernel_rfl) (ve_callTy cs_tuple k__law_least_rows_tuple T.b_tuple PyProof.Rows.boot_tuple (vl_cons (VE.lk_of_sh (VE.sh_of_fr (ve_comp (i := 10) rfl (by decide) (by kernel_rfl) (by kernel_rfl) (by kernel_rfl) (vi_seq (ve_var (i := 2) (by kernel_rfl) (by kernel_rfl) (by decide) rfl rfl)) (vts_one (vt_cmp (os_inE rfl) (ve_look (i := 10) (by kernel_rfl) (by kernel_rfl) rfl rfl) (ve_look (i := 4) (by kernel_rfl) (by kernel_rfl) rfl rfl))) (ve_var (i := 10) (by kernel_rfl) (by kernel_rfl) (by decide) rfl rfl)))) vl_nil) (by decide) rfl) rfl)
      (vs_one' (s_if (vt_cmp (os_ninE rfl) (ve_look (i := 6) (by kernel_rfl) (by kernel_rfl) rfl rfl) (ve_look (i := 3) (by kernel_rfl) (by kernel_rfl) rfl rfl)) (vs_one' (s_append (i := 3) (by kernel_rfl) (by kernel_rfl) (by decide) rfl rfl (ve_var (i := 6) (by kernel_rfl) (by kernel_rfl) (by decide) rfl rfl))) vs_nil'))))
      (vs_seq (s_asgOwn (i := 5) (own' := [5, 3]) (by kernel_rfl) (by kernel_rfl) (ve_list vs_nil) rfl)
      (vs_seq (v1_give (own1 := [5]) (by decide) (s_for (i := 6) rfl (by decide) (by kernel_rfl) (by kernel_rfl) (vi_seq (ve_var (i := 3) (by kernel_rfl) (by kernel_rfl) (by decide) rfl rfl)) (vs_seq (s_asg (i := 7) (own' := [5]) (by kernel_rfl) (by kernel_rfl) ve_int rfl)
      (vs_seq (s_for (i := 8) rfl (by decide) (by kernel_rfl) (by kernel_rfl) (vi_seq (ve_var (i := 3) (by kernel_rfl) (by kernel_rfl) (by decide) rfl rfl)) (vs_one' (s_if (vt_of (vw_and (vt_cmp (os_ne rfl) (ve_look (i := 8) (by kernel_rfl) (by kernel_rfl) rfl rfl) (ve_look (i := 6) (by kernel_rfl) (by kernel_rfl) rfl rfl)) (vw_and1 (vt_cmp (os_eq rfl) (VE.lk_of_sh (ve_callB cs_len k__law_least_rows_len T.b_len boot_len (vl_cons (VE.lk_of_sh (VE.sh_of_fr (ve_comp (i := 10) rfl (by decide) (by kernel_rfl) (by kernel_rfl) (by kernel_rfl) (vi_seq (ve_var (i := 8) (by kernel_rfl) (by kernel_rfl) (by decide) rfl rfl)) (vts_one (vt_cmp (os_ninE rfl) (ve_look (i := 10) (by kernel_rfl) (by kernel_rfl) rfl rfl) (ve_look (i := 6) (by kernel_rfl) (by kernel_rfl) rfl rfl))) (ve_var (i := 10) (by kernel_rfl) (by kernel_rfl) (by decide) rfl rfl)))) vl_nil) (by decide) rfl)) (VE.lk_of_sh ve_int))))) (vs_one' (s_asg (i := 7) (own' := [5]) (by kernel_rfl) (by kernel_rfl) (ve_op os_add (ve_look (i := 7) (by kernel_rfl) (by kernel_rfl) rfl rfl) (VE.lk_of_sh ve_int)) rfl)) vs_nil')))
      (vs_one' (s_if (vt_cmp (os_eq rfl) (ve_look (i := 7) (by kernel_rfl) (by kernel_rfl) rfl rfl) (VE.lk_of_sh ve_int)) (vs_one' (s_append (i := 5) (by kernel_rfl) (by kernel_rfl) (by decide) rfl rfl (ve_tuple (vs_cons (ve_callB cs_len k__law_least_rows_len T.b_len boot_len (vl_cons (ve_look (i := 6) (by kernel_rfl) (by kernel_rfl) rfl rfl) vl_nil) (by decide) rfl) (vs_cons (ve_var (i := 6) (by kernel_rfl) (by kernel_rfl) (by decide) rfl rfl) vs_nil))))) vs_nil'))))))
      (vs_one' (s_ret (VE.sh_of_fr (ve_comp (i := 9) rfl (by decide) (by kernel_rfl) (by kernel_rfl) (by kernel_rfl) (vi_seq (VE.sh_of_fr (ve_callB (cs_sorted rfl) k__law_least_rows_sorted T.b_sorted PyProof.Rows.boot_sorted (vl_cons (ve_look (i := 5) (by kernel_rfl) (by kernel_rfl) rfl rfl) vl_nil) (by decide) rfl))) vts_nil (ve_ix (ve_look (i := 9) (by kernel_rfl) (by kernel_rfl) rfl rfl) (VE.lk_of_sh ve_int) (fun _ _ => rfl)))))))))))

/-! _law_put -/
noncomputable def G__law_put : FS :=
  (sRet (f2 addD (f2 addD (fSl sliceD (fVar 0) fNoPart (fPart (fVar 1))) (fLst (fCons (fVar 2) fNil))) (fSl sliceD (fVar 0) (fPart (fVar 1)) fNoPart)))
noncomputable def F__law_put : List D → R D := runF .sh 3 G__law_put
theorem sc__law_put : FnScope ["row", "place", "thing"] ["row", "place", "thing"] (defScope (top 28)) := ⟨rfl, rfl, rfl, by decide +kernel, rfl, by decide +kernel, by decide +kernel⟩
theorem ok__law_put {w : World} {K : PySem.W.Frag} {mg : Str → Option Value} {base : Heap} {tb : Tb} (T : Txt tb K mg base)  : OkF Pr w tb K mg base 1 "_law_put" ["row", "place", "thing"] .sh 3 F__law_put := by
  obtain ⟨fd, g, F⟩ := T.d__law_put
  refine okF_of (k := 0) (own' := []) (mR := .sh) (nN := 3) (G := G__law_put) g F sc__law_put rfl rfl (by unfold F__law_put; exact Eq.refl _) (fun _ _ _ _ _ _ us hl => match us, hl with | [_, _, _], _ => rfl) (fun E => ?_)
  exact (vs_one' (s_ret (ve_op os_add (VE.lk_of_sh (ve_op os_add (VE.lk_of_sh (ve_slice (ve_look (i := 0) (by kernel_rfl) (by kernel_rfl) rfl rfl) vo_none (vo_some (ve_look (i := 1) (by kernel_rfl) (by kernel_rfl) rfl rfl)))) (VE.lk_of_sh (VE.sh_of_fr (ve_list (vs_cons (ve_var (i := 2) (by kernel_rfl) (by kernel_rfl) (by decide) rfl rfl) vs_nil)))))) (VE.lk_of_sh (ve_slice (ve_look (i := 0) (by kernel_rfl) (by kernel_rfl) rfl rfl) (vo_some (ve_look (i := 1) (by kernel_rfl) (by kernel_rfl) rfl rfl)) vo_none)))))

/-! _law_handed -/
noncomputable def G__law_handed : FS :=
  (sSeq (sIf (fTst (fVar 1)) (sRet (fComp 2 (fSeq (fVar 0)) fYes (fCall tupleD (fCons (fVar 2) fNil)))) sSkip)
  (sRet (fComp 2 (fSeq (fVar 0)) fYes (fCall listD (fCons (fVar 2) fNil)))))
noncomputable def F__law_handed : List D → R D := runF .sh 3 G__law_handed
theorem sc__law_handed : FnScope ["rows", "as_tuples", "row"] ["rows", "as_tuples"] (defScope (top 32)) := ⟨rfl, rfl, rfl, by decide +kernel, rfl, by decide +kernel, by decide +kernel⟩
theorem ok__law_handed {w : World} {K : PySem.W.Frag} {mg : Str → Option Value} {base : Heap} {tb : Tb} (T : Txt tb K mg base)  : OkF Pr w tb K mg base 1 "_law_handed" ["rows", "as_tuples"] .sh 2 F__law_handed := by
  obtain ⟨fd, g, F⟩ := T.d__law_handed
  refine okF_of (k := 0) (own' := []) (mR := .sh) (nN := 3) (G := G__law_handed) g F sc__law_handed rfl rfl (by unfold F__law_handed; exact Eq.refl _) (fun _ _ _ _ _ _ us hl => match us, hl with | [_, _], _ => rfl) (fun E => ?_)
  exact (vs_seq (s_if (vt_val (ve_var (i := 1) (by kernel_rfl) (by kernel_rfl) (by decide) rfl rfl)) (vs_one' (s_ret (VE.sh_of_fr (ve_comp (i := 2) rfl (by decide) (by kernel_rfl) (by kernel_rfl) (by kernel_rfl) (vi_seq (ve_var (i := 0) (by kernel_rfl) (by kernel_rfl) (by decide) rfl rfl)) vts_nil (ve_callTy cs_tuple (by kernel_rfl) T.b_tuple PyProof.Rows.boot_tuple (vl_cons (ve_look (i := 2) (by kernel_rfl) (by kernel_rfl) rfl rfl) vl_nil) (by decide) rfl))))) vs_nil')
      (vs_one' (s_ret (VE.sh_of_fr (ve_comp (i := 2) rfl (by decide) (by kernel_rfl) (by kernel_rfl) (by kernel_rfl) (vi_seq (ve_var (i := 0) (by kernel_rfl) (by kernel_rfl) (by decide) rfl rfl)) vts_nil (VE.sh_of_fr (ve_callTy cs_list (by kernel_rfl) T.b_list PyProof.Rows.boot_list (vl_cons (ve_look (i := 2) (by kernel_rfl) (by kernel_rfl) rfl rfl) vl_nil) (by decide) rfl)))))))

/-! is_words -/
noncomputable def G_is_words : FS :=
  (sSeq (sIf (fNotT (fTst (fCall F_is_list (fCons (fVar 0) fNil)))) (sRet (fC (.bl false))) sSkip)
  (sSeq (sFor 1 (fSeq (fVar 0)) (sIf (fNotT (fTst (fCall F_is_word (fCons (fVar 1) fNil)))) (sRet (fC (.bl false))) sSkip))
  (sRet (fNot (fCall F_has_twice (fCons (fVar 0) fNil))))))
noncomputable def F_is_words : List D → R D := runF .sh 2 G_is_words
theorem sc_is_words : FnScope ["value", "word"] ["value"] (defScope (top 7)) := ⟨rfl, rfl, rfl, by decide +kernel, rfl, by decide +kernel, by decide +kernel⟩
theorem k_is_words_has_twice : kdOf (defScope (top 7)) "has_twice" = some .globalImplicit := by decide +kernel
theorem k_is_words_is_list : kdOf (defScope (top 7)) "is_list" = some .globalImplicit := by decide +kernel
theorem k_is_words_is_word : kdOf (defScope (top 7)) "is_word" = some .globalImplicit := by decide +kernel
theorem ok_is_words {w : World} {K : PySem.W.Frag} {mg : Str → Option Value} {base : Heap} {tb : Tb} (T : Txt tb K mg base) (H_has_twice : OkF Pr w tb K mg base 1 "has_twice" ["row"] .sh 1 F_has_twice) (H_is_list : OkF Pr w tb K mg base 1 "is_list" ["value"] .sh 1 F_is_list) (H_is_word : OkF Pr w tb K mg base 1 "is_word" ["value"] .sh 1 F_is_word) : OkF Pr w tb K mg base 2 "is_words" ["value"] .sh 1 F_is_words := by
  obtain ⟨fd, g, F⟩ := T.d_is_words
  refine okF_of (k := 1) (own' := []) (mR := .sh) (nN := 2) (G := G_is_words) g F sc_is_words rfl rfl (by unfold F_is_words; exact Eq.refl _) (fun _ _ _ _ _ _ us hl => match us, hl with | [_], _ => rfl) (fun E => ?_)
  exact (vs_seq (s_if (vt_not (vt_val (ve_callF H_is_list (Nat.le_of_ble_eq_true rfl) rfl k_is_words_is_list (vs_cons (ve_var (i := 0) (by kernel_rfl) (by kernel_rfl) (by decide) rfl rfl) vs_nil) (len_cons len_nil) rfl))) (vs_one' (s_ret ve_bl)) vs_nil')
      (vs_seq (s_for (i := 1) rfl (by decide) (by kernel_rfl) (by kernel_rfl) (vi_seq (ve_var (i := 0) (by kernel_rfl) (by kernel_rfl) (by decide) rfl rfl)) (vs_one' (s_if (vt_not (vt_val (ve_callF H_is_word (Nat.le_of_ble_eq_true rfl) rfl k_is_words_is_word (vs_cons (ve_var (i := 1) (by kernel_rfl) (by kernel_rfl) (by decide) rfl rfl) vs_nil) (len_cons len_nil) rfl))) (vs_one' (s_ret ve_bl)) vs_nil')))
      (vs_one' (s_ret (ve_not (ve_callF H_has_twice (Nat.le_of_ble_eq_true rfl) rfl k_is_words_has_twice (vs_cons (ve_var (i := 0) (by kernel_rfl) (by kernel_rfl) (by decide) rfl rfl) vs_nil) (len_cons len_nil) rfl))))))

/-! least_lots -/
noncomputable def G_least_lots : FS :=
  (sRet (fComp 1 (fSeq (fVar 0)) (fTst (f2 eqD (fCall lenD (fCons (fComp 2 (fSeq (fVar 0)) (fAndT (fTst (f2 neD (fVar 2) (fVar 1))) (fTst (fCall F_is_within (fCons (fVar 2) (fCons (fVar 1) fNil))))) (fVar 2)) fNil)) (fC (.int 0)))) (fVar 1)))
noncomputable def F_least_lots : List D → R D := runF .fr 3 G_least_lots
theorem sc_least_lots : FnScope ["lots", "lot", "less"] ["lots"] (defScope (top 17)) := ⟨rfl, rfl, rfl, by decide +kernel, rfl, by decide +kernel, by decide +kernel⟩
theorem ok_least_lots {w : World} {K : PySem.W.Frag} {mg : Str → Option Value} {base : Heap} {tb : Tb} (T : Txt tb K mg base) (H_is_within : OkF Pr w tb K mg base 1 "is_within" ["small", "large"] .sh 2 F_is_within) : OkF Pr w tb K mg base 2 "least_lots" ["lots"] .fr 1 F_least_lots := by
  obtain ⟨fd, g, F⟩ := T.d_least_lots
  refine okF_of (k := 1) (own' := []) (mR := .fr) (nN := 3) (G := G_least_lots) g F sc_least_lots rfl rfl (by unfold F_least_lots; exact Eq.refl _) (fun _ _ _ _ _ _ us hl => match us, hl with | [_], _ => rfl) (fun E => ?_)
  exact (vs_one' (s_ret (ve_comp (i := 1) rfl (by decide) (by kernel_rfl) (by kernel_rfl) (by kernel_rfl) (vi_seq (ve_var (i := 0) (by kernel_rfl) (by kernel_rfl) (by decide) rfl rfl)) (vts_one (vt_cmp (os_eq rfl) (VE.lk_of_sh (ve_callB cs_len (by kernel_rfl) T.b_len boot_len (vl_cons (VE.lk_of_sh (VE.sh_of_fr (ve_comp (i := 2) rfl (by decide) (by kernel_rfl) (by kernel_rfl) (by kernel_rfl) (vi_seq (ve_var (i := 0) (by kernel_rfl) (by kernel_rfl) (by decide) rfl rfl)) (vts_one (vt_of (vw_and (vt_cmp (os_ne rfl) (ve_look (i := 2) (by kernel_rfl) (by kernel_rfl) rfl rfl) (ve_look (i := 1) (by kernel_rfl) (by kernel_rfl) rfl rfl)) (vw_and1 (vt_val (ve_callF H_is_within (Nat.le_of_ble_eq_true rfl) rfl (by kernel_rfl) (vs_cons (ve_var (i := 2) (by kernel_rfl) (by kernel_rfl) (by decide) rfl rfl) (vs_cons (ve_var (i := 1) (by kernel_rfl) (by kernel_rfl) (by decide) rfl rfl) vs_nil)) (len_cons (len_cons len_nil)) rfl)))))) (ve_var (i := 2) (by kernel_rfl) (by kernel_rfl) (by decide) rfl rfl)))) vl_nil) (by decide) rfl)) (VE.lk_of_sh ve_int))) (ve_var (i := 1) (by kernel_rfl) (by kernel_rfl) (by decide) rfl rfl))))

/-! are_rows_of -/
noncomputable def G_are_rows_of : FS :=
  (sSeq (sIf (fOrT (fNotT (fTst (fCall F_is_list (fCons (fVar 0) fNil)))) (fTst (f2 gtD (fCall lenD (fCons (fVar 0) fNil)) (fC (.int 64))))) (sRet (fC (.bl false))) sSkip)
  (sSeq (sFor 2 (fSeq (fVar 0)) (sSeq (sIf (fNotT (fTst (fCall F_is_list (fCons (fVar 2) fNil)))) (sRet (fC (.bl false))) sSkip)
  (sFor 3 (fSeq (fVar 2)) (sIf (fTst (f2 ninE (fVar 3) (fVar 1))) (sRet (fC (.bl false))) sSkip))))
  (sRet (fC (.bl true)))))
noncomputable def F_are_rows_of : List D → R D := runF .sh 4 G_are_rows_of
theorem sc_are_rows_of : FnScope ["rows", "names", "row", "name"] ["rows", "names"] (defScope (top 19)) := ⟨rfl, rfl, rfl, by decide +kernel, rfl, by decide +kernel, by decide +kernel⟩
theorem k_are_rows_of_ROWS : kdOf (defScope (top 19)) "ROWS" = some .globalImplicit := by decide +kernel
theorem k_are_rows_of_is_list : kdOf (defScope (top 19)) "is_list" = some .globalImplicit := by decide +kernel
theorem k_are_rows_of_len : kdOf (defScope (top 19)) "len" = some .globalImplicit := by decide +kernel
theorem ok_are_rows_of {w : World} {K : PySem.W.Frag} {mg : Str → Option Value} {base : Heap} {tb : Tb} (T : Txt tb K mg base) (H_is_list : OkF Pr w tb K mg base 1 "is_list" ["value"] .sh 1 F_is_list) : OkF Pr w tb K mg base 2 "are_rows_of" ["rows", "names"] .sh 2 F_are_rows_of := by
  obtain ⟨fd, g, F⟩ := T.d_are_rows_of
  refine okF_of (k := 1) (own' := []) (mR := .sh) (nN := 4) (G := G_are_rows_of) g F sc_are_rows_of rfl rfl (by unfold F_are_rows_of; exact Eq.refl _) (fun _ _ _ _ _ _ us hl => match us, hl with | [_, _], _ => rfl) (fun E => ?_)
  exact (vs_seq (s_if (vt_of (vw_or (vt_not (vt_val (ve_callF H_is_list (Nat.le_of_ble_eq_true rfl) rfl k_are_rows_of_is_list (vs_cons (ve_var (i := 0) (by kernel_rfl) (by kernel_rfl) (by decide) rfl rfl) vs_nil) (len_cons len_nil) rfl))) (vw_or1 (vt_cmp os_gt (VE.lk_of_sh (ve_callB cs_len k_are_rows_of_len T.b_len boot_len (vl_cons (ve_look (i := 0) (by kernel_rfl) (by kernel_rfl) rfl rfl) vl_nil) (by decide) rfl)) (VE.lk_of_sh (ve_gint k_are_rows_of_ROWS T.c_ROWS rfl)))))) (vs_one' (s_ret ve_bl)) vs_nil')
      (vs_seq (s_for (i := 2) rfl (by decide) (by kernel_rfl) (by kernel_rfl) (vi_seq (ve_var (i := 0) (by kernel_rfl) (by kernel_rfl) (by decide) rfl rfl)) (vs_seq (s_if (vt_not (vt_val (ve_callF H_is_list (Nat.le_of_ble_eq_true rfl) rfl k_are_rows_of_is_list (vs_cons (ve_var (i := 2) (by kernel_rfl) (by kernel_rfl) (by decide) rfl rfl) vs_nil) (len_cons len_nil) rfl))) (vs_one' (s_ret ve_bl)) vs_nil')
      (vs_one' (s_for (i := 3) rfl (by decide) (by kernel_rfl) (by kernel_rfl) (vi_seq (ve_var (i := 2) (by kernel_rfl) (by kernel_rfl) (by decide) rfl rfl)) (vs_one' (s_if (vt_cmp (os_ninE rfl) (ve_look (i := 3) (by kernel_rfl) (by kernel_rfl) rfl rfl) (ve_look (i := 1) (by kernel_rfl) (by kernel_rfl) rfl rfl)) (vs_one' (s_ret ve_bl)) vs_nil'))))))
      (vs_one' (s_ret ve_bl))))

/-! _law_least -/
noncomputable def G__law_least : FS :=
  (sSeq (sAsg 2 (fCall sortedD (fCons (fVar 1) fNil)))
  (sSeq (sAsg 3 (fLst fNil))
  (sSeq (sFor 4 (fRng (fCons (f2 shlD (fC (.int 1)) (fCall lenD (fCons (fVar 2) fNil))) fNil)) (sSeq (sAsg 5 (fComp 9 (fRng (fCons (fCall lenD (fCons (fVar 2) fNil)) fNil)) (fTst (f2 eqD (f2 modD (fCall intD (fCons (f2 divD (fVar 4) (f2 shlD (fC (.int 1)) (fVar 9))) fNil)) (fC (.int 2))) (fC (.int 1)))) (f2 ixD (fVar 2) (fVar 9))))
  (sIf (fTst (fCall F__law_meets (fCons (fVar 5) (fCons (fVar 0) fNil)))) (sSeq (sAsg 6 (fC (.int 0)))
  (sSeq (sFor 7 (fSeq (fVar 5)) (sSeq (sAsg 10 (fComp 11 (fSeq (fVar 5)) (fTst (f2 neD (fVar 11) (fVar 7))) (fVar 11)))
  (sAsg 6 (f2 addD (fVar 6) (fCall intD (fCons (fCall F__law_meets (fCons (fVar 10) (fCons (fVar 0) fNil))) fNil))))))
  (sIf (fTst (f2 eqD (fVar 6) (fC (.int 0)))) (sApp 3 (fTup (fCons (fCall lenD (fCons (fVar 5) fNil)) (fCons (fCall tupleD (fCons (fVar 5) fNil)) fNil)))) sSkip))) sSkip)))
  (sRet (fComp 8 (fSeq (fCall sortedD (fCons (fVar 3) fNil))) fYes (f2 ixD (fVar 8) (fC (.int 1))))))))
noncomputable def F__law_least : List D → R D := runF .sh 12 G__law_least
theorem sc__law_least : FnScope ["rows", "names", "line", "told", "number", "lot", "spare", "name", "pair", "k", "rest", "other"] ["rows", "names"] (defScope (top 26)) := ⟨rfl, rfl, rfl, by decide +kernel, rfl, by decide +kernel, by decide +kernel⟩
theorem k__law_least__law_meets : kdOf (defScope (top 26)) "_law_meets" = some .globalImplicit := by decide +kernel
theorem k__law_least_int : kdOf (defScope (top 26)) "int" = some .globalImplicit := by decide +kernel
theorem k__law_least_len : kdOf (defScope (top 26)) "len" = some .globalImplicit := by decide +kernel
theorem k__law_least_range : kdOf (defScope (top 26)) "range" = some .globalImplicit := by decide +kernel
theorem k__law_least_sorted : kdOf (defScope (top 26)) "sorted" = some .globalImplicit := by decide +kernel
theorem k__law_least_tuple : kdOf (defScope (top 26)) "tuple" = some .globalImplicit := by decide +kernel
theorem ok__law_least {w : World} {K : PySem.W.Frag} {mg : Str → Option Value} {base : Heap} {tb : Tb} (T : Txt tb K mg base) (H__law_meets : OkF Pr w tb K mg base 1 "_law_meets" ["lot", "rows"] .sh 2 F__law_meets) : OkF Pr w tb K mg base 2 "_law_least" ["rows", "names"] .sh 2 F__law_least := by
  obtain ⟨fd, g, F⟩ := T.d__law_least
  refine okF_of (k := 1) (own' := []) (mR := .sh) (nN := 12) (G := G__law_least) g F sc__law_least rfl rfl (by unfold F__law_least; exact Eq.refl _) (fun _ _ _ _ _ _ us hl => match us, hl with | [_, _], _ => rfl) (fun E => ?_)
  exact (vs_seq (s_asg (i := 2) (own' := []) (by kernel_rfl) (by kernel_rfl) (VE.sh_of_fr (ve_callB (cs_sorted rfl) k__law_least_sorted T.b_sorted PyProof.Rows.boot_sorted (vl_cons (ve_look (i := 1) (by kernel_rfl) (by kernel_rfl) rfl rfl) vl_nil) (by decide) rfl)) rfl)
      (vs_seq (s_asgOwn (i := 3) (own' := [3]) (by kernel_rfl) (by kernel_rfl) (ve_list vs_nil) rfl)
      (vs_seq (s_for (i := 4) rfl (by decide) (by kernel_rfl) (by kernel_rfl) (vi_range1 k__law_least_range T.b_range (vl_cons (VE.lk_of_sh (ve_op os_shl (VE.lk_of_sh ve_int) (VE.lk_of_sh (ve_callB cs_len k__law_least_len T.b_len boot_len (vl_cons (ve_look (i := 2) (by kernel_rfl) (by kernel_rfl) rfl rfl) vl_nil) (by decide) rfl)))) vl_nil) (len_cons len_nil)) (vs_seq (s_setLc (i := 5) (own' := [5, 3]) (hN := (by kernel_rfl)) (hl := (by kernel_rfl)) (hK := rfl) (hline := rfl) (hsw := (by kernel_rfl)) (ho := rfl) (k := 9) rfl (by decide) (by kernel_rfl) (by kernel_rfl) (by kernel_rfl) (vi_range1 k__law_least_range T.b_range (vl_cons (VE.lk_of_sh (ve_callB cs_len k__law_least_len T.b_len boot_len (vl_cons (ve_look (i := 2) (by kernel_rfl) (by kernel_rfl) rfl rfl) vl_nil) (by decide) rfl)) vl_nil) (len_cons len_nil)) (vts_one (vt_cmp (os_eq rfl) (VE.lk_of_sh (ve_op os_mod (VE.lk_of_sh (ve_callTy cs_int (by kernel_rfl) T.b_int PyProof.Rows.boot_int (vl_cons (VE.lk_of_sh (ve_op os_div (ve_look (i := 4) (by kernel_rfl) (by kernel_rfl) rfl rfl) (VE.lk_of_sh (ve_op os_shl (VE.lk_of_sh ve_int) (ve_look (i := 9) (by kernel_rfl) (by kernel_rfl) rfl rfl))))) vl_nil) (by decide) rfl)) (VE.lk_of_sh ve_int))) (VE.lk_of_sh ve_int))) (ve_ix (ve_look (i := 2) (by kernel_rfl) (by kernel_rfl) rfl rfl) (ve_look (i := 9) (by kernel_rfl) (by kernel_rfl) rfl rfl) (fun _ _ => rfl)))
      (vs_one' (v1_give (own1 := [3]) (by decide) (s_if (vt_val (ve_callF H__law_meets (Nat.le_of_ble_eq_true rfl) rfl k__law_least__law_meets (vs_cons (ve_var (i := 5) (by kernel_rfl) (by kernel_rfl) (by decide) rfl rfl) (vs_cons (ve_var (i := 0) (by kernel_rfl) (by kernel_rfl) (by decide) rfl rfl) vs_nil)) (len_cons (len_cons len_nil)) rfl)) (vs_seq (s_asg (i := 6) (own' := [3]) (by kernel_rfl) (by kernel_rfl) ve_int rfl)
      (vs_seq (s_for (i := 7) rfl (by decide) (by kernel_rfl) (by kernel_rfl) (vi_seq (ve_var (i := 5) (by kernel_rfl) (by kernel_rfl) (by decide) rfl rfl)) (vs_seq (s_setLc (i := 10) (own' := [10, 3]) (hN := (by kernel_rfl)) (hl := (by kernel_rfl)) (hK := rfl) (hline := rfl) (hsw := (by kernel_rfl)) (ho := rfl) (k := 11) rfl (by decide) (by kernel_rfl) (by kernel_rfl) (by kernel_rfl) (vi_seq (ve_var (i := 5) (by kernel_rfl) (by kernel_rfl) (by decide) rfl rfl)) (vts_one (vt_cmp (os_ne rfl) (ve_look (i := 11) (by kernel_rfl) (by kernel_rfl) rfl rfl) (ve_look (i := 7) (by kernel_rfl) (by kernel_rfl) rfl rfl))) (ve_var (i := 11) (by kernel_rfl) (by kernel_rfl) (by decide) rfl rfl))
      (vs_one' (v1_give (own1 := [3]) (by decide) (s_asg (i := 6) (own' := [3]) (by kernel_rfl) (by kernel_rfl) (ve_op os_add (ve_look (i := 6) (by kernel_rfl) (by kernel_rfl) rfl rfl) (VE.lk_of_sh (ve_callTy cs_int k__law_least_int T.b_int PyProof.Rows.boot_int (vl_cons (VE.lk_of_sh (ve_callF H__law_meets (Nat.le_of_ble_eq_true rfl) rfl k__law_least__law_meets (vs_cons (ve_var (i := 10) (by kernel_rfl) (by kernel_rfl) (by decide) rfl rfl) (vs_cons (ve_var (i := 0) (by kernel_rfl) (by kernel_rfl) (by decide) rfl rfl) vs_nil)) (len_cons (len_cons len_nil)) rfl)) vl_nil) (by decide) rfl))) rfl)))))
      (vs_one' (s_if (vt_cmp (os_eq rfl) (ve_look (i := 6) (by kernel_rfl) (by kernel_rfl) rfl rfl) (VE.lk_of_sh ve_int)) (vs_one' (s_append (i := 3) (by kernel_rfl) (by kernel_rfl) (by decide) rfl rfl (ve_tuple (vs_cons (ve_callB cs_len k__law_least_len T.b_len boot_len (vl_cons (ve_look (i := 5) (by kernel_rfl) (by kernel_rfl) rfl rfl) vl_nil) (by decide) rfl) (vs_cons (ve_callTy cs_tuple k__law_least_tuple T.b_tuple PyProof.Rows.boot_tuple (vl_cons (ve_look (i := 5) (by kernel_rfl) (by kernel_rfl) rfl rfl) vl_nil) (by decide) rfl) vs_nil))))) vs_nil')))) vs_nil')))))
      (vs_one' (s_ret (VE.sh_of_fr (ve_comp (i := 8) rfl (by decide) (by kernel_rfl) (by kernel_rfl) (by kernel_rfl) (vi_seq (VE.sh_of_fr (ve_callB (cs_sorted rfl) k__law_least_sorted T.b_sorted PyProof.Rows.boot_sorted (vl_cons (ve_look (i := 3) (by kernel_rfl) (by kernel_rfl) rfl rfl) vl_nil) (by decide) rfl))) vts_nil (ve_ix (ve_look (i := 8) (by kernel_rfl) (by kernel_rfl) rfl rfl) (VE.lk_of_sh ve_int) (fun _ _ => rfl)))))))))

/-! _law_wrong_names -/
noncomputable def G__law_wrong_names : FS :=
  (sSeq (sAsg 3 (f2 ixD (fLst (fCons (fC (.str "")) (fCons (fC (.str "A")) (fCons (fC (.str "a b")) (fCons (fC (.str "-a")) (fCons (fC (.str "4b")) (fCons (fC (.str "a_b")) (fCons (fC (.str "abcdefghijklm")) (fCons (fC (.int 7)) (fCons (fC .non) fNil)))))))))) (f2 modD (fCall intD (fCons (f2 ixD (fVar 0) (fC (.int 1))) fNil)) (fC (.int 9)))))
  (sSeq (sAsg 4 (f2 modD (fCall intD (fCons (f2 ixD (fVar 0) (fC (.int 2))) fNil)) (f2 addD (fCall lenD (fCons (fVar 1) fNil)) (fC (.int 1)))))
  (sSeq (sAsg 5 (f2 modD (fCall intD (fCons (f2 ixD (fVar 0) (fC (.int 0))) fNil)) (fC (.int 3))))
  (sSeq (sIf (fTst (f2 eqD (fVar 5) (fC (.int 0)))) (sRet (fCall listD (fCons (fVar 2) fNil))) sSkip)
  (sSeq (sIf (fAndT (fTst (f2 eqD (fVar 5) (fC (.int 1)))) (fTst (f2 gtD (fCall lenD (fCons (fVar 1) fNil)) (fC (.int 0))))) (sRet (fCall F__law_put (fCons (fVar 1) (fCons (fVar 4) (fCons (f2 ixD (fVar 1) (f2 modD (fCall intD (fCons (f2 ixD (fVar 0) (fC (.int 1))) fNil)) (fCall lenD (fCons (fVar 1) fNil)))) fNil))))) sSkip)
  (sRet (fCall F__law_put (fCons (fVar 1) (fCons (fVar 4) (fCons (fVar 3) fNil))))))))))
noncomputable def F__law_wrong_names : List D → R D := runF .sh 6 G__law_wrong_names
theorem sc__law_wrong_names : FnScope ["draws", "names", "words", "odd", "place", "way"] ["draws", "names", "words"] (defScope (top 29)) := ⟨rfl, rfl, rfl, by decide +kernel, rfl, by decide +kernel, by decide +kernel⟩
theorem k__law_wrong_names__law_put : kdOf (defScope (top 29)) "_law_put" = some .globalImplicit := by decide +kernel
theorem k__law_wrong_names_int : kdOf (defScope (top 29)) "int" = some .globalImplicit := by decide +kernel
theorem k__law_wrong_names_len : kdOf (defScope (top 29)) "len" = some .globalImplicit := by decide +kernel
theorem k__law_wrong_names_list : kdOf (defScope (top 29)) "list" = some .globalImplicit := by decide +kernel
theorem ok__law_wrong_names {w : World} {K : PySem.W.Frag} {mg : Str → Option Value} {base : Heap} {tb : Tb} (T : Txt tb K mg base) (H__law_put : OkF Pr w tb K mg base 1 "_law_put" ["row", "place", "thing"] .sh 3 F__law_put) : OkF Pr w tb K mg base 2 "_law_wrong_names" ["draws", "names", "words"] .sh 3 F__law_wrong_names := by
  obtain ⟨fd, g, F⟩ := T.d__law_wrong_names
  refine okF_of (k := 1) (own' := []) (mR := .sh) (nN := 6) (G := G__law_wrong_names) g F sc__law_wrong_names rfl rfl (by unfold F__law_wrong_names; exact Eq.refl _) (fun _ _ _ _ _ _ us hl => match us, hl with | [_, _, _], _ => rfl) (fun E => ?_)
  exact (vs_seq (s_asg (i := 3) (own' := []) (by kernel_rfl) (by kernel_rfl) (ve_ix (VE.lk_of_sh (VE.sh_of_fr (ve_list (vs_cons ve_str (vs_cons ve_str (vs_cons ve_str (vs_cons ve_str (vs_cons ve_str (vs_cons ve_str (vs_cons ve_str (vs_cons ve_int (vs_cons ve_non vs_nil)))))))))))) (VE.lk_of_sh (ve_op os_mod (VE.lk_of_sh (ve_callTy cs_int k__law_wrong_names_int T.b_int PyProof.Rows.boot_int (vl_cons (VE.lk_of_sh (ve_ix (ve_look (i := 0) (by kernel_rfl) (by kernel_rfl) rfl rfl) (VE.lk_of_sh ve_int) (fun _ _ => rfl))) vl_nil) (by decide) rfl)) (VE.lk_of_sh ve_int))) (fun _ _ => rfl)) rfl)
      (vs_seq (s_asg (i := 4) (own' := []) (by kernel_rfl) (by kernel_rfl) (ve_op os_mod (VE.lk_of_sh (ve_callTy cs_int k__law_wrong_names_int T.b_int PyProof.Rows.boot_int (vl_cons (VE.lk_of_sh (ve_ix (ve_look (i := 0) (by kernel_rfl) (by kernel_rfl) rfl rfl) (VE.lk_of_sh ve_int) (fun _ _ => rfl))) vl_nil) (by decide) rfl)) (VE.lk_of_sh (ve_op os_add (VE.lk_of_sh (ve_callB cs_len k__law_wrong_names_len T.b_len boot_len (vl_cons (ve_look (i := 1) (by kernel_rfl) (by kernel_rfl) rfl rfl) vl_nil) (by decide) rfl)) (VE.lk_of_sh ve_int)))) rfl)
      (vs_seq (s_asg (i := 5) (own' := []) (by kernel_rfl) (by kernel_rfl) (ve_op os_mod (VE.lk_of_sh (ve_callTy cs_int k__law_wrong_names_int T.b_int PyProof.Rows.boot_int (vl_cons (VE.lk_of_sh (ve_ix (ve_look (i := 0) (by kernel_rfl) (by kernel_rfl) rfl rfl) (VE.lk_of_sh ve_int) (fun _ _ => rfl))) vl_nil) (by decide) rfl)) (VE.lk_of_sh ve_int)) rfl)
      (vs_seq (s_if (vt_cmp (os_eq rfl) (ve_look (i := 5) (by kernel_rfl) (by kernel_rfl) rfl rfl) (VE.lk_of_sh ve_int)) (vs_one' (s_ret (VE.sh_of_fr (ve_callTy cs_list k__law_wrong_names_list T.b_list PyProof.Rows.boot_list (vl_cons (ve_look (i := 2) (by kernel_rfl) (by kernel_rfl) rfl rfl) vl_nil) (by decide) rfl)))) vs_nil')
      (vs_seq (s_if (vt_of (vw_and (vt_cmp (os_eq rfl) (ve_look (i := 5) (by kernel_rfl) (by kernel_rfl) rfl rfl) (VE.lk_of_sh ve_int)) (vw_and1 (vt_cmp os_gt (VE.lk_of_sh (ve_callB cs_len k__law_wrong_names_len T.b_len boot_len (vl_cons (ve_look (i := 1) (by kernel_rfl) (by kernel_rfl) rfl rfl) vl_nil) (by decide) rfl)) (VE.lk_of_sh ve_int))))) (vs_one' (s_ret (ve_callF H__law_put (Nat.le_of_ble_eq_true rfl) rfl k__law_wrong_names__law_put (vs_cons (ve_var (i := 1) (by kernel_rfl) (by kernel_rfl) (by decide) rfl rfl) (vs_cons (ve_var (i := 4) (by kernel_rfl) (by kernel_rfl) (by decide) rfl rfl) (vs_cons (ve_ix (ve_look (i := 1) (by kernel_rfl) (by kernel_rfl) rfl rfl) (VE.lk_of_sh (ve_op os_mod (VE.lk_of_sh (ve_callTy cs_int k__law_wrong_names_int T.b_int PyProof.Rows.boot_int (vl_cons (VE.lk_of_sh (ve_ix (ve_look (i := 0) (by kernel_rfl) (by kernel_rfl) rfl rfl) (VE.lk_of_sh ve_int) (fun _ _ => rfl))) vl_nil) (by decide) rfl)) (VE.lk_of_sh (ve_callB cs_len k__law_wrong_names_len T.b_len boot_len (vl_cons (ve_look (i := 1) (by kernel_rfl) (by kernel_rfl) rfl rfl) vl_nil) (by decide) rfl)))) (fun _ _ => rfl)) vs_nil))) (len_cons (len_cons (len_cons len_nil))) rfl))) vs_nil')
      (vs_one' (s_ret (ve_callF H__law_put (Nat.le_of_ble_eq_true rfl) rfl k__law_wrong_names__law_put (vs_cons (ve_var (i := 1) (by kernel_rfl) (by kernel_rfl) (by decide) rfl rfl) (vs_cons (ve_var (i := 4) (by kernel_rfl) (by kernel_rfl) (by decide) rfl rfl) (vs_cons (ve_var (i := 3) (by kernel_rfl) (by kernel_rfl) (by decide) rfl rfl) vs_nil))) (len_cons (len_cons (len_cons len_nil))) rfl))))))))

/-! _law_wrong_rows -/
noncomputable def G__law_wrong_rows : FS :=
  (sSeq (sIf (fTst (f2 eqD (f2 modD (fCall intD (fCons (f2 ixD (fVar 0) (fC (.int 0))) fNil)) (fC (.int 3))) (fC (.int 0)))) (sSeq (sAsg 6 (f2 mulD (f2 addD (fVar 2) (fLst (fCons (fCall listD (fCons (fVar 1) fNil)) fNil))) (fC (.int 67))))
  (sRet (fSl sliceD (fVar 6) fNoPart (fPart (f2 addD (fC (.int 65)) (f2 modD (fCall intD (fCons (f2 ixD (fVar 0) (fC (.int 1))) fNil)) (fC (.int 3)))))))) sSkip)
  (sSeq (sAsg 3 (fC (.str "a")))
  (sSeq (sIf (fTst (f2 gtD (fCall lenD (fCons (fVar 1) fNil)) (fC (.int 0)))) (sAsg 3 (f2 addD (f2 ixD (fVar 1) (f2 modD (fCall intD (fCons (f2 ixD (fVar 0) (fC (.int 1))) fNil)) (fCall lenD (fCons (fVar 1) fNil)))) (fC (.str "0")))) sSkip)
  (sSeq (sIf (fTst (f2 eqD (fCall lenD (fCons (fVar 2) fNil)) (fC (.int 0)))) (sRet (fLst (fCons (fLst (fCons (fVar 3) fNil)) fNil))) sSkip)
  (sSeq (sAsg 4 (f2 modD (fCall intD (fCons (f2 ixD (fVar 0) (fC (.int 2))) fNil)) (fCall lenD (fCons (fVar 2) fNil))))
  (sSeq (sAsg 5 (f2 modD (fCall intD (fCons (f2 ixD (fVar 0) (fC (.int 3))) fNil)) (f2 addD (fCall lenD (fCons (f2 ixD (fVar 2) (fVar 4)) fNil)) (fC (.int 1)))))
  (sRet (f2 addD (f2 addD (fSl sliceD (fVar 2) fNoPart (fPart (fVar 4))) (fLst (fCons (fCall F__law_put (fCons (f2 ixD (fVar 2) (fVar 4)) (fCons (fVar 5) (fCons (fVar 3) fNil)))) fNil))) (fSl sliceD (fVar 2) (fPart (f2 addD (fVar 4) (fC (.int 1)))) fNoPart)))))))))
noncomputable def F__law_wrong_rows : List D → R D := runF .sh 7 G__law_wrong_rows
theorem sc__law_wrong_rows : FnScope ["draws", "names", "rows", "other", "at", "place", "longer"] ["draws", "names", "rows"] (defScope (top 30)) := ⟨rfl, rfl, rfl, by decide +kernel, rfl, by decide +kernel, by decide +kernel⟩
theorem k__law_wrong_rows__law_put : kdOf (defScope (top 30)) "_law_put" = some .globalImplicit := by decide +kernel
theorem k__law_wrong_rows_int : kdOf (defScope (top 30)) "int" = some .globalImplicit := by decide +kernel
theorem k__law_wrong_rows_len : kdOf (defScope (top 30)) "len" = some .globalImplicit := by decide +kernel
theorem k__law_wrong_rows_list : kdOf (defScope (top 30)) "list" = some .globalImplicit := by decide +kernel
theorem ok__law_wrong_rows {w : World} {K : PySem.W.Frag} {mg : Str → Option Value} {base : Heap} {tb : Tb} (T : Txt tb K mg base) (H__law_put : OkF Pr w tb K mg base 1 "_law_put" ["row", "place", "thing"] .sh 3 F__law_put) : OkF Pr w tb K mg base 2 "_law_wrong_rows" ["draws", "names", "rows"] .sh 3 F__law_wrong_rows := by
  obtain ⟨fd, g, F⟩ := T.d__law_wrong_rows
  refine okF_of (k := 1) (own' := []) (mR := .sh) (nN := 7) (G := G__law_wrong_rows) g F sc__law_wrong_rows rfl rfl (by unfold F__law_wrong_rows; exact Eq.refl _) (fun _ _ _ _ _ _ us hl => match us, hl with | [_, _, _], _ => rfl) (fun E => ?_)
  exact (vs_seq (s_if (vt_cmp (os_eq rfl) (VE.lk_of_sh (ve_op os_mod (VE.lk_of_sh (ve_callTy cs_int k__law_wrong_rows_int T.b_int PyProof.Rows.boot_int (vl_cons (VE.lk_of_sh (ve_ix (ve_look (i := 0) (by kernel_rfl) (by kernel_rfl) rfl rfl) (VE.lk_of_sh ve_int) (fun _ _ => rfl))) vl_nil) (by decide) rfl)) (VE.lk_of_sh ve_int))) (VE.lk_of_sh ve_int)) (vs_seq (s_asg (i := 6) (own' := []) (by kernel_rfl) (by kernel_rfl) (ve_op os_mul (VE.lk_of_sh (ve_op os_add (ve_look (i := 2) (by kernel_rfl) (by kernel_rfl) rfl rfl) (VE.lk_of_sh (VE.sh_of_fr (ve_list (vs_cons (VE.sh_of_fr (ve_callTy cs_list k__law_wrong_rows_list T.b_list PyProof.Rows.boot_list (vl_cons (ve_look (i := 1) (by kernel_rfl) (by kernel_rfl) rfl rfl) vl_nil) (by decide) rfl)) vs_nil)))))) (VE.lk_of_sh ve_int)) rfl)
      (vs_one' (s_ret (ve_slice (ve_look (i := 6) (by kernel_rfl) (by kernel_rfl) rfl rfl) vo_none (vo_some (VE.lk_of_sh (ve_op os_add (VE.lk_of_sh ve_int) (VE.lk_of_sh (ve_op os_mod (VE.lk_of_sh (ve_callTy cs_int k__law_wrong_rows_int T.b_int PyProof.Rows.boot_int (vl_cons (VE.lk_of_sh (ve_ix (ve_look (i := 0) (by kernel_rfl) (by kernel_rfl) rfl rfl) (VE.lk_of_sh ve_int) (fun _ _ => rfl))) vl_nil) (by decide) rfl)) (VE.lk_of_sh ve_int)))))))))) vs_nil')
      (vs_seq (s_asg (i := 3) (own' := []) (by kernel_rfl) (by kernel_rfl) ve_str rfl)
      (vs_seq (s_if (vt_cmp os_gt (VE.lk_of_sh (ve_callB cs_len k__law_wrong_rows_len T.b_len boot_len (vl_cons (ve_look (i := 1) (by kernel_rfl) (by kernel_rfl) rfl rfl) vl_nil) (by decide) rfl)) (VE.lk_of_sh ve_int)) (vs_one' (s_asg (i := 3) (own' := []) (by kernel_rfl) (by kernel_rfl) (ve_op os_add (VE.lk_of_sh (ve_ix (ve_look (i := 1) (by kernel_rfl) (by kernel_rfl) rfl rfl) (VE.lk_of_sh (ve_op os_mod (VE.lk_of_sh (ve_callTy cs_int k__law_wrong_rows_int T.b_int PyProof.Rows.boot_int (vl_cons (VE.lk_of_sh (ve_ix (ve_look (i := 0) (by kernel_rfl) (by kernel_rfl) rfl rfl) (VE.lk_of_sh ve_int) (fun _ _ => rfl))) vl_nil) (by decide) rfl)) (VE.lk_of_sh (ve_callB cs_len k__law_wrong_rows_len T.b_len boot_len (vl_cons (ve_look (i := 1) (by kernel_rfl) (by kernel_rfl) rfl rfl) vl_nil) (by decide) rfl)))) (fun _ _ => rfl))) (VE.lk_of_sh ve_str)) rfl)) vs_nil')
      (vs_seq (s_if (vt_cmp (os_eq rfl) (VE.lk_of_sh (ve_callB cs_len k__law_wrong_rows_len T.b_len boot_len (vl_cons (ve_look (i := 2) (by kernel_rfl) (by kernel_rfl) rfl rfl) vl_nil) (by decide) rfl)) (VE.lk_of_sh ve_int)) (vs_one' (s_ret (VE.sh_of_fr (ve_list (vs_cons (VE.sh_of_fr (ve_list (vs_cons (ve_var (i := 3) (by kernel_rfl) (by kernel_rfl) (by decide) rfl rfl) vs_nil))) vs_nil))))) vs_nil')
      (vs_seq (s_asg (i := 4) (own' := []) (by kernel_rfl) (by kernel_rfl) (ve_op os_mod (VE.lk_of_sh (ve_callTy cs_int k__law_wrong_rows_int T.b_int PyProof.Rows.boot_int (vl_cons (VE.lk_of_sh (ve_ix (ve_look (i := 0) (by kernel_rfl) (by kernel_rfl) rfl rfl) (VE.lk_of_sh ve_int) (fun _ _ => rfl))) vl_nil) (by decide) rfl)) (VE.lk_of_sh (ve_callB cs_len k__law_wrong_rows_len T.b_len boot_len (vl_cons (ve_look (i := 2) (by kernel_rfl) (by kernel_rfl) rfl rfl) vl_nil) (by decide) rfl))) rfl)
      (vs_seq (s_asg (i := 5) (own' := []) (by kernel_rfl) (by kernel_rfl) (ve_op os_mod (VE.lk_of_sh (ve_callTy cs_int k__law_wrong_rows_int T.b_int PyProof.Rows.boot_int (vl_cons (VE.lk_of_sh (ve_ix (ve_look (i := 0) (by kernel_rfl) (by kernel_rfl) rfl rfl) (VE.lk_of_sh ve_int) (fun _ _ => rfl))) vl_nil) (by decide) rfl)) (VE.lk_of_sh (ve_op os_add (VE.lk_of_sh (ve_callB cs_len k__law_wrong_rows_len T.b_len boot_len (vl_cons (VE.lk_of_sh (ve_ix (ve_look (i := 2) (by kernel_rfl) (by kernel_rfl) rfl rfl) (ve_look (i := 4) (by kernel_rfl) (by kernel_rfl) rfl rfl) (fun _ _ => rfl))) vl_nil) (by decide) rfl)) (VE.lk_of_sh ve_int)))) rfl)
      (vs_one' (s_ret (ve_op os_add (VE.lk_of_sh (ve_op os_add (VE.lk_of_sh (ve_slice (ve_look (i := 2) (by kernel_rfl) (by kernel_rfl) rfl rfl) vo_none (vo_some (ve_look (i := 4) (by kernel_rfl) (by kernel_rfl) rfl rfl)))) (VE.lk_of_sh (VE.sh_of_fr (ve_list (vs_cons (ve_callF H__law_put (Nat.le_of_ble_eq_true rfl) rfl k__law_wrong_rows__law_put (vs_cons (ve_ix (ve_look (i := 2) (by kernel_rfl) (by kernel_rfl) rfl rfl) (ve_look (i := 4) (by kernel_rfl) (by kernel_rfl) rfl rfl) (fun _ _ => rfl)) (vs_cons (ve_var (i := 5) (by kernel_rfl) (by kernel_rfl) (by decide) rfl rfl) (vs_cons (ve_var (i := 3) (by kernel_rfl) (by kernel_rfl) (by decide) rfl rfl) vs_nil))) (len_cons (len_cons (len_cons len_nil))) rfl) vs_nil)))))) (VE.lk_of_sh (ve_slice (ve_look (i := 2) (by kernel_rfl) (by kernel_rfl) rfl rfl) (vo_some (VE.lk_of_sh (ve_op os_add (ve_look (i := 4) (by kernel_rfl) (by kernel_rfl) rfl rfl) (VE.lk_of_sh ve_int)))) vo_none)))))))))))

/-! least_hitting -/
noncomputable def G_least_hitting : FS :=
  (sSeq (sIf (fOrT (fNotT (fTst (fCall F_is_words (fCons (fVar 1) fNil)))) (fTst (f2 gtD (fCall lenD (fCons (fVar 1) fNil)) (fC (.int 6))))) (sRaise "BadLot" "why" (fC (.str "names"))) sSkip)
  (sSeq (sIf (fNotT (fTst (fCall F_are_rows_of (fCons (fVar 0) (fCons (fVar 1) fNil))))) (sRaise "BadLot" "why" (fC (.str "rows"))) sSkip)
  (sSeq (sAsg 2 (fLst fNil))
  (sSeq (sFor 3 (fSeq (fCall F_all_lots (fCons (fVar 1) fNil))) (sIf (fTst (f2 eqD (fCall lenD (fCons (fComp 4 (fSeq (fVar 0)) (fNotT (fTst (fCall F_meets (fCons (fVar 3) (fCons (fVar 4) fNil))))) (fVar 4)) fNil)) (fC (.int 0)))) (sApp 2 (fVar 3)) sSkip))
  (sRet (fCall F_least_lots (fCons (fVar 2) fNil)))))))
noncomputable def F_least_hitting : List D → R D := runF .fr 5 G_least_hitting
theorem sc_least_hitting : FnScope ["rows", "names", "good", "lot", "row"] ["rows", "names"] (defScope (top 20)) := ⟨rfl, rfl, rfl, by decide +kernel, rfl, by decide +kernel, by decide +kernel⟩
theorem k_least_hitting_BadLot : kdOf (defScope (top 20)) "BadLot" = some .globalImplicit := by decide +kernel
theorem k_least_hitting_NAMES : kdOf (defScope (top 20)) "NAMES" = some .globalImplicit := by decide +kernel
theorem k_least_hitting_all_lots : kdOf (defScope (top 20)) "all_lots" = some .globalImplicit := by decide +kernel
theorem k_least_hitting_are_rows_of : kdOf (defScope (top 20)) "are_rows_of" = some .globalImplicit := by decide +kernel
theorem k_least_hitting_is_words : kdOf (defScope (top 20)) "is_words" = some .globalImplicit := by decide +kernel
theorem k_least_hitting_least_lots : kdOf (defScope (top 20)) "least_lots" = some .globalImplicit := by decide +kernel
theorem k_least_hitting_len : kdOf (defScope (top 20)) "len" = some .globalImplicit := by decide +kernel
theorem ok_least_hitting {w : World} {K : PySem.W.Frag} {mg : Str → Option Value} {base : Heap} {tb : Tb} (T : Txt tb K mg base) (H_all_lots : OkF Pr w tb K mg base 1 "all_lots" ["names"] .sh 1 F_all_lots) (H_are_rows_of : OkF Pr w tb K mg base 2 "are_rows_of" ["rows", "names"] .sh 2 F_are_rows_of) (H_is_words : OkF Pr w tb K mg base 2 "is_words" ["value"] .sh 1 F_is_words) (H_least_lots : OkF Pr w tb K mg base 2 "least_lots" ["lots"] .fr 1 F_least_lots) (H_meets : OkF Pr w tb K mg base 1 "meets" ["lot", "row"] .sh 2 F_meets) : OkF Pr w tb K mg base 4 "least_hitting" ["rows", "names"] .fr 2 F_least_hitting := by
  obtain ⟨fd, g, F⟩ := T.d_least_hitting
  refine okF_of (k := 3) (own' := []) (mR := .fr) (nN := 5) (G := G_least_hitting) g F sc_least_hitting rfl rfl (by unfold F_least_hitting; exact Eq.refl _) (fun _ _ _ _ _ _ us hl => match us, hl with | [_, _], _ => rfl) (fun E => ?_)
  exact (vs_seq (s_if (vt_of (vw_or (vt_not (vt_val (ve_callF H_is_words (Nat.le_of_ble_eq_true rfl) rfl k_least_hitting_is_words (vs_cons (ve_var (i := 1) (by kernel_rfl) (by kernel_rfl) (by decide) rfl rfl) vs_nil) (len_cons len_nil) rfl))) (vw_or1 (vt_cmp os_gt (VE.lk_of_sh (ve_callB cs_len k_least_hitting_len T.b_len boot_len (vl_cons (ve_look (i := 1) (by kernel_rfl) (by kernel_rfl) rfl rfl) vl_nil) (by decide) rfl)) (VE.lk_of_sh (ve_gint k_least_hitting_NAMES T.c_NAMES rfl)))))) (vs_one' (s_raise T.x_BadLot (Nat.le_of_ble_eq_true rfl) rfl k_least_hitting_BadLot ve_str rfl)) vs_nil')
      (vs_seq (s_if (vt_not (vt_val (ve_callF H_are_rows_of (Nat.le_of_ble_eq_true rfl) rfl k_least_hitting_are_rows_of (vs_cons (ve_var (i := 0) (by kernel_rfl) (by kernel_rfl) (by decide) rfl rfl) (vs_cons (ve_var (i := 1) (by kernel_rfl) (by kernel_rfl) (by decide) rfl rfl) vs_nil)) (len_cons (len_cons len_nil)) rfl))) (vs_one' (s_raise T.x_BadLot (Nat.le_of_ble_eq_true rfl) rfl k_least_hitting_BadLot ve_str rfl)) vs_nil')
      (vs_seq (s_asgOwn (i := 2) (own' := [2]) (by kernel_rfl) (by kernel_rfl) (ve_list vs_nil) rfl)
      (vs_seq (s_for (i := 3) rfl (by decide) (by kernel_rfl) (by kernel_rfl) (vi_seq (ve_callF H_all_lots (Nat.le_of_ble_eq_true rfl) rfl k_least_hitting_all_lots (vs_cons (ve_var (i := 1) (by kernel_rfl) (by kernel_rfl) (by decide) rfl rfl) vs_nil) (len_cons len_nil) rfl)) (vs_one' (s_if (vt_cmp (os_eq rfl) (VE.lk_of_sh (ve_callB cs_len k_least_hitting_len T.b_len boot_len (vl_cons (VE.lk_of_sh (VE.sh_of_fr (ve_comp (i := 4) rfl (by decide) (by kernel_rfl) (by kernel_rfl) (by kernel_rfl) (vi_seq (ve_var (i := 0) (by kernel_rfl) (by kernel_rfl) (by decide) rfl rfl)) (vts_one (vt_not (vt_val (ve_callF H_meets (Nat.le_of_ble_eq_true rfl) rfl (by kernel_rfl) (vs_cons (ve_var (i := 3) (by kernel_rfl) (by kernel_rfl) (by decide) rfl rfl) (vs_cons (ve_var (i := 4) (by kernel_rfl) (by kernel_rfl) (by decide) rfl rfl) vs_nil)) (len_cons (len_cons len_nil)) rfl)))) (ve_var (i := 4) (by kernel_rfl) (by kernel_rfl) (by decide) rfl rfl)))) vl_nil) (by decide) rfl)) (VE.lk_of_sh ve_int)) (vs_one' (s_append (i := 2) (by kernel_rfl) (by kernel_rfl) (by decide) rfl rfl (ve_var (i := 3) (by kernel_rfl) (by kernel_rfl) (by decide) rfl rfl))) vs_nil')))
      (vs_one' (v1_give (own1 := []) (by decide) (s_ret (ve_callF H_least_lots (Nat.le_of_ble_eq_true rfl) rfl k_least_hitting_least_lots (vs_cons (ve_var (i := 2) (by kernel_rfl) (by kernel_rfl) (by decide) rfl rfl) vs_nil) (len_cons len_nil) rfl))))))))

/-! _law_refusal -/
noncomputable def G__law_refusal : FS :=
  (sSeq (sTry 2 (fun c => if c = "BadLot" then some true else none) (sExp (fCall F_least_hitting (fCons (fVar 0) (fCons (fVar 1) fNil)))) (fun a dx c => (sSeq (sIf (fOrT (fNotT (fTst (f1 (isED (fun c => if c = "BadLot" then some true else none) a dx c) (fVar 2)))) (fTst (f1 (isED (fun c => if c = "BadLot" then some false else none) a dx c) (fVar 2)))) (sRet (fLst (fCons (fC (.str "another")) (fCons (fC (.str "error")) fNil)))) sSkip)
  (sRet (fLst (fCons (f1 (xfD (fun c => decide (c = "BadLot") || (false)) a dx c "why") (fVar 2)) fNil))))))
  (sRet (fLst fNil)))
noncomputable def F__law_refusal : List D → R D := runF .sh 3 G__law_refusal
theorem sc__law_refusal : FnScope ["rows", "names", "error"] ["rows", "names"] (defScope (top 31)) := ⟨rfl, rfl, rfl, by decide +kernel, rfl, by decide +kernel, by decide +kernel⟩
theorem k__law_refusal_BadCount : kdOf (defScope (top 31)) "BadCount" = some .globalImplicit := by decide +kernel
theorem k__law_refusal_BadLot : kdOf (defScope (top 31)) "BadLot" = some .globalImplicit := by decide +kernel
theorem k__law_refusal_PlantError : kdOf (defScope (top 31)) "PlantError" = some .globalImplicit := by decide +kernel
theorem k__law_refusal_isinstance : kdOf (defScope (top 31)) "isinstance" = some .globalImplicit := by decide +kernel
theorem k__law_refusal_least_hitting : kdOf (defScope (top 31)) "least_hitting" = some .globalImplicit := by decide +kernel
theorem ok__law_refusal {w : World} {K : PySem.W.Frag} {mg : Str → Option Value} {base : Heap} {tb : Tb} (T : Txt tb K mg base) (H_least_hitting : OkF Pr w tb K mg base 4 "least_hitting" ["rows", "names"] .fr 2 F_least_hitting) : OkF Pr w tb K mg base 5 "_law_refusal" ["rows", "names"] .sh 2 F__law_refusal := by
  obtain ⟨fd, g, F⟩ := T.d__law_refusal
  refine okF_of (k := 4) (own' := []) (mR := .sh) (nN := 3) (G := G__law_refusal) g F sc__law_refusal rfl rfl (by unfold F__law_refusal; exact Eq.refl _) (fun _ _ _ _ _ _ us hl => match us, hl with | [_, _], _ => rfl) (fun E => ?_)
  exact (vs_seq (s_try (i := 2) (own1 := []) (ct := fun c => if c = "BadLot" then some true else none) rfl rfl (by kernel_rfl) (by kernel_rfl) k__law_refusal_PlantError T.g_PlantError rfl (tbl_cons T.e_BadLot_PlantError tbl_nil)
        (fun W => (vs_one' (s_exp (VE.lk_of_sh (VE.sh_of_fr (ve_callF H_least_hitting (Nat.le_of_ble_eq_true rfl) rfl k__law_refusal_least_hitting (vs_cons (ve_var (i := 0) (by kernel_rfl) (by kernel_rfl) (by decide) rfl rfl) (vs_cons (ve_var (i := 1) (by kernel_rfl) (by kernel_rfl) (by decide) rfl rfl) vs_nil)) (len_cons (len_cons len_nil)) rfl))))))
        (fun q => (vs_seq (s_if (vt_of (vw_or (vt_not (vt_val (ve_errIs (it := fun c => if c = "BadLot" then some true else none) (a := q.a) (dx := q.dx) (c := q.c) rfl k__law_refusal_isinstance T.b_isinstance k__law_refusal_BadLot T.g_BadLot rfl (tbl_cons T.i_BadLot_BadLot tbl_nil) (ve_look (i := 2) (by kernel_rfl) (by kernel_rfl) rfl rfl)))) (vw_or1 (vt_val (ve_errIs (it := fun c => if c = "BadLot" then some false else none) (a := q.a) (dx := q.dx) (c := q.c) rfl k__law_refusal_isinstance T.b_isinstance k__law_refusal_BadCount T.g_BadCount rfl (tbl_cons T.i_BadLot_BadCount tbl_nil) (ve_look (i := 2) (by kernel_rfl) (by kernel_rfl) rfl rfl)))))) (vs_one' (s_ret (VE.sh_of_fr (ve_list (vs_cons ve_str (vs_cons ve_str vs_nil)))))) vs_nil')
      (vs_one' (s_ret (VE.sh_of_fr (ve_list (vs_cons (ve_errF (fok := fun c => decide (c = "BadLot") || (false)) (a := q.a) (dx := q.dx) (c := q.c) rfl (fok_cons T.f_BadLot_why fok_nil) (ve_look (i := 2) (by kernel_rfl) (by kernel_rfl) rfl rfl)) vs_nil))))))))
      (vs_one' (s_ret (VE.sh_of_fr (ve_list vs_nil)))))

/-! law -/
noncomputable def G_law : FS :=
  (sSeq (sAsg 1 (fCall F__law_draws (fCons (fVar 0) (fCons (fC (.int 0)) (fCons (fC (.int 16)) fNil)))))
  (sSeq (sAsg 2 (fCall F__law_words (fCons (fCall F__law_draws (fCons (fVar 0) (fCons (fC (.int 1)) (fCons (fC (.int 8)) fNil)))) (fCons (fC (.int 7)) fNil))))
  (sSeq (sAsg 3 (f2 modD (fCall intD (fCons (f2 ixD (fVar 1) (fC (.int 0))) fNil)) (fC (.int 7))))
  (sSeq (sIf (fTst (f2 eqD (f2 modD (fCall intD (fCons (f2 ixD (fVar 1) (fC (.int 2))) fNil)) (fC (.int 5))) (fC (.int 0)))) (sSetE 2 (f2 modD (fCall intD (fCons (f2 divD (f2 ixD (fVar 1) (fC (.int 2))) (fC (.int 5))) fNil)) (fC (.int 7))) (f2 mulD (f2 ixD (fC (.str "abcdefghijklmnopqrstuvwxyz")) (f2 modD (fCall intD (fCons (f2 ixD (fVar 1) (fC (.int 3))) fNil)) (fC (.int 26)))) (fC (.int 12)))) sSkip)
  (sSeq (sAsg 4 (fSl sliceD (fVar 2) fNoPart (fPart (fVar 3))))
  (sSeq (sAsg 5 (f2 modD (fCall intD (fCons (f2 ixD (fVar 1) (fC (.int 4))) fNil)) (fC (.int 7))))
  (sSeq (sIf (fTst (f2 eqD (f2 modD (fCall intD (fCons (f2 ixD (fVar 1) (fC (.int 5))) fNil)) (fC (.int 6))) (fC (.int 0)))) (sAsg 5 (f2 addD (fC (.int 62)) (f2 modD (fCall intD (fCons (f2 ixD (fVar 1) (fC (.int 4))) fNil)) (fC (.int 3))))) sSkip)
  (sSeq (sAsg 6 (fCall F__law_rows (fCons (fCall F__law_draws (fCons (fVar 0) (fCons (fC (.int 2)) (fCons (fC (.int 64)) fNil)))) (fCons (fVar 4) (fCons (fVar 5) fNil)))))
  (sSeq (sAsg 7 (fCall F__law_least (fCons (fVar 6) (fCons (fVar 4) fNil))))
  (sSeq (sAsg 8 (fCall F__law_handed (fCons (fVar 6) (fCons (f2 eqD (f2 modD (fCall intD (fCons (f2 ixD (fVar 1) (fC (.int 6))) fNil)) (fC (.int 2))) (fC (.int 0))) fNil))))
  (sSeq (sAsg 9 (fCall listD (fCons (fVar 4) fNil)))
  (sSeq (sAsg 10 (fCall F_least_hitting (fCons (fVar 8) (fCons (fVar 9) fNil))))
  (sSeq (sIf (fOrT (fNotT (fTst (f1 (isTy ["list"]) (fVar 10)))) (fTst (f2 neD (fVar 10) (fVar 7)))) (sRet (fC (.bl false))) sSkip)
  (sSeq (sIf (fOrT (fTst (f2 neD (fCall F__law_handed (fCons (fVar 8) (fCons (fC (.bl false)) fNil))) (fVar 6))) (fTst (f2 neD (fVar 9) (fVar 4)))) (sRet (fC (.bl false))) sSkip)
  (sSeq (sApp 10 (fTup fNil))
  (sSeq (sIf (fTst (f2 neD (fCall F_least_hitting (fCons (fCall tupleD (fCons (fVar 8) fNil)) (fCons (fCall tupleD (fCons (fVar 4) fNil)) fNil))) (fVar 7))) (sRet (fC (.bl false))) sSkip)
  (sSeq (sIf (fTst (f2 neD (fCall F_least_hitting (fCons (fCall F__law_handed (fCons (fVar 7) (fCons (f2 eqD (f2 modD (fCall intD (fCons (f2 ixD (fVar 1) (fC (.int 7))) fNil)) (fC (.int 2))) (fC (.int 0))) fNil))) (fCons (f1 revD (fVar 4)) fNil))) (fCall F__law_least_rows (fCons (fVar 6) (fCons (fVar 4) fNil))))) (sRet (fC (.bl false))) sSkip)
  (sSeq (sAsg 11 (f2 modD (fCall intD (fCons (f2 ixD (fVar 1) (fC (.int 8))) fNil)) (fC (.int 5))))
  (sSeq (sIf (fTst (f2 ltD (fVar 11) (fC (.int 2)))) (sRet (f2 eqD (fCall F__law_refusal (fCons (fVar 8) (fCons (fCall F__law_wrong_names (fCons (fSl sliceD (fVar 1) (fPart (fC (.int 9))) fNoPart) (fCons (fVar 4) (fCons (fVar 2) fNil)))) fNil))) (fLst (fCons (fC (.str "names")) fNil)))) sSkip)
  (sSeq (sAsg 12 (fCall F__law_wrong_rows (fCons (fSl sliceD (fVar 1) (fPart (fC (.int 9))) fNoPart) (fCons (fVar 4) (fCons (fVar 6) fNil)))))
  (sSeq (sIf (fTst (f2 ltD (fVar 11) (fC (.int 4)))) (sRet (f2 eqD (fCall F__law_refusal (fCons (fCall F__law_handed (fCons (fVar 12) (fCons (f2 eqD (fVar 11) (fC (.int 2))) fNil))) (fCons (fCall listD (fCons (fVar 4) fNil)) fNil))) (fLst (fCons (fC (.str "rows")) fNil)))) sSkip)
  (sRet (f2 eqD (fCall F__law_refusal (fCons (fVar 12) (fCons (fCall F__law_wrong_names (fCons (fSl sliceD (fVar 1) (fPart (fC (.int 12))) fNoPart) (fCons (fVar 4) (fCons (fVar 2) fNil)))) fNil))) (fLst (fCons (fC (.str "names")) fNil)))))))))))))))))))))))))
noncomputable def F_law : List D → R D := runF .sh 13 G_law
theorem sc_law : FnScope ["script", "draws", "words", "many", "names", "count", "rows", "due", "handed", "line", "told", "way", "wrong"] ["script"] (defScope (top 33)) := ⟨rfl, rfl, rfl, by decide +kernel, rfl, by decide +kernel, by decide +kernel⟩
theorem k_law__law_draws : kdOf (defScope (top 33)) "_law_draws" = some .globalImplicit := by decide +kernel
theorem k_law__law_handed : kdOf (defScope (top 33)) "_law_handed" = some .globalImplicit := by decide +kernel
theorem k_law__law_least : kdOf (defScope (top 33)) "_law_least" = some .globalImplicit := by decide +kernel
theorem k_law__law_least_rows : kdOf (defScope (top 33)) "_law_least_rows" = some .globalImplicit := by decide +kernel
theorem k_law__law_refusal : kdOf (defScope (top 33)) "_law_refusal" = some .globalImplicit := by decide +kernel
theorem k_law__law_rows : kdOf (defScope (top 33)) "_law_rows" = some .globalImplicit := by decide +kernel
theorem k_law__law_words : kdOf (defScope (top 33)) "_law_words" = some .globalImplicit := by decide +kernel
theorem k_law__law_wrong_names : kdOf (defScope (top 33)) "_law_wrong_names" = some .globalImplicit := by decide +kernel
theorem k_law__law_wrong_rows : kdOf (defScope (top 33)) "_law_wrong_rows" = some .globalImplicit := by decide +kernel
theorem k_law_int : kdOf (defScope (top 33)) "int" = some .globalImplicit := by decide +kernel
theorem k_law_isinstance : kdOf (defScope (top 33)) "isinstance" = some .globalImplicit := by decide +kernel
theorem k_law_least_hitting : kdOf (defScope (top 33)) "least_hitting" = some .globalImplicit := by decide +kernel
theorem k_law_list : kdOf (defScope (top 33)) "list" = some .globalImplicit := by decide +kernel
theorem k_law_tuple : kdOf (defScope (top 33)) "tuple" = some .globalImplicit := by decide +kernel
theorem ok_law {w : World} {K : PySem.W.Frag} {mg : Str → Option Value} {base : Heap} {tb : Tb} (T : Txt tb K mg base) (H__law_draws : OkF Pr w tb K mg base 1 "_law_draws" ["script", "at", "many"] .sh 3 F__law_draws) (H__law_handed : OkF Pr w tb K mg base 1 "_law_handed" ["rows", "as_tuples"] .sh 2 F__law_handed) (H__law_least : OkF Pr w tb K mg base 2 "_law_least" ["rows", "names"] .sh 2 F__law_least) (H__law_least_rows : OkF Pr w tb K mg base 1 "_law_least_rows" ["rows", "names"] .sh 2 F__law_least_rows) (H__law_refusal : OkF Pr w tb K mg base 5 "_law_refusal" ["rows", "names"] .sh 2 F__law_refusal) (H__law_rows : OkF Pr w tb K mg base 1 "_law_rows" ["draws", "names", "many"] .sh 3 F__law_rows) (H__law_words : OkF Pr w tb K mg base 1 "_law_words" ["draws", "many"] .fr 2 F__law_words) (H__law_wrong_names : OkF Pr w tb K mg base 2 "_law_wrong_names" ["draws", "names", "words"] .sh 3 F__law_wrong_names) (H__law_wrong_rows : OkF Pr w tb K mg base 2 "_law_wrong_rows" ["draws", "names", "rows"] .sh 3 F__law_wrong_rows) (H_least_hitting : OkF Pr w tb K mg base 4 "least_hitting" ["rows", "names"] .fr 2 F_least_hitting) : OkF Pr w tb K mg base 6 "law" ["script"] .sh 1 F_law := by
  obtain ⟨fd, g, F⟩ := T.d_law
  refine okF_of (k := 5) (own' := []) (mR := .sh) (nN := 13) (G := G_law) g F sc_law rfl rfl (by unfold F_law; exact Eq.refl _) (fun _ _ _ _ _ _ us hl => match us, hl with | [_], _ => rfl) (fun E => ?_)
  exact (vs_seq (s_asg (i := 1) (own' := []) (by kernel_rfl) (by kernel_rfl) (ve_callF H__law_draws (Nat.le_of_ble_eq_true rfl) rfl k_law__law_draws (vs_cons (ve_var (i := 0) (by kernel_rfl) (by kernel_rfl) (by decide) rfl rfl) (vs_cons ve_int (vs_cons ve_int vs_nil))) (len_cons (len_cons (len_cons len_nil))) rfl) rfl)
      (vs_seq (s_asgOwn (i := 2) (own' := [2]) (by kernel_rfl) (by kernel_rfl) (ve_callF H__law_words (Nat.le_of_ble_eq_true rfl) rfl k_law__law_words (vs_cons (ve_callF H__law_draws (Nat.le_of_ble_eq_true rfl) rfl k_law__law_draws (vs_cons (ve_var (i := 0) (by kernel_rfl) (by kernel_rfl) (by decide) rfl rfl) (vs_cons ve_int (vs_cons ve_int vs_nil))) (len_cons (len_cons (len_cons len_nil))) rfl) (vs_cons ve_int vs_nil)) (len_cons (len_cons len_nil)) rfl) rfl)
      (vs_seq (s_asg (i := 3) (own' := [2]) (by kernel_rfl) (by kernel_rfl) (ve_op os_mod (VE.lk_of_sh (ve_callTy cs_int k_law_int T.b_int PyProof.Rows.boot_int (vl_cons (VE.lk_of_sh (ve_ix (ve_look (i := 1) (by kernel_rfl) (by kernel_rfl) rfl rfl) (VE.lk_of_sh ve_int) (fun _ _ => rfl))) vl_nil) (by decide) rfl)) (VE.lk_of_sh ve_int)) rfl)
      (vs_seq (s_if (vt_cmp (os_eq rfl) (VE.lk_of_sh (ve_op os_mod (VE.lk_of_sh (ve_callTy cs_int k_law_int T.b_int PyProof.Rows.boot_int (vl_cons (VE.lk_of_sh (ve_ix (ve_look (i := 1) (by kernel_rfl) (by kernel_rfl) rfl rfl) (VE.lk_of_sh ve_int) (fun _ _ => rfl))) vl_nil) (by decide) rfl)) (VE.lk_of_sh ve_int))) (VE.lk_of_sh ve_int)) (vs_one' (s_setE (i := 2) (by kernel_rfl) (by kernel_rfl) (by decide) rfl rfl (ve_op os_mul (VE.lk_of_sh (ve_ix (VE.lk_of_sh ve_str) (VE.lk_of_sh (ve_op os_mod (VE.lk_of_sh (ve_callTy cs_int k_law_int T.b_int PyProof.Rows.boot_int (vl_cons (VE.lk_of_sh (ve_ix (ve_look (i := 1) (by kernel_rfl) (by kernel_rfl) rfl rfl) (VE.lk_of_sh ve_int) (fun _ _ => rfl))) vl_nil) (by decide) rfl)) (VE.lk_of_sh ve_int))) (fun _ _ => rfl))) (VE.lk_of_sh ve_int)) (VE.lk_of_sh (ve_op os_mod (VE.lk_of_sh (ve_callTy cs_int k_law_int T.b_int PyProof.Rows.boot_int (vl_cons (VE.lk_of_sh (ve_op os_div (VE.lk_of_sh (ve_ix (ve_look (i := 1) (by kernel_rfl) (by kernel_rfl) rfl rfl) (VE.lk_of_sh ve_int) (fun _ _ => rfl))) (VE.lk_of_sh ve_int))) vl_nil) (by decide) rfl)) (VE.lk_of_sh ve_int))))) vs_nil')
      (vs_seq (s_asg (i := 4) (own' := [2]) (by kernel_rfl) (by kernel_rfl) (ve_slice (ve_look (i := 2) (by kernel_rfl) (by kernel_rfl) rfl rfl) vo_none (vo_some (ve_look (i := 3) (by kernel_rfl) (by kernel_rfl) rfl rfl))) rfl)
      (vs_seq (s_asg (i := 5) (own' := [2]) (by kernel_rfl) (by kernel_rfl) (ve_op os_mod (VE.lk_of_sh (ve_callTy cs_int k_law_int T.b_int PyProof.Rows.boot_int (vl_cons (VE.lk_of_sh (ve_ix (ve_look (i := 1) (by kernel_rfl) (by kernel_rfl) rfl rfl) (VE.lk_of_sh ve_int) (fun _ _ => rfl))) vl_nil) (by decide) rfl)) (VE.lk_of_sh ve_int)) rfl)
      (vs_seq (s_if (vt_cmp (os_eq rfl) (VE.lk_of_sh (ve_op os_mod (VE.lk_of_sh (ve_callTy cs_int k_law_int T.b_int PyProof.Rows.boot_int (vl_cons (VE.lk_of_sh (ve_ix (ve_look (i := 1) (by kernel_rfl) (by kernel_rfl) rfl rfl) (VE.lk_of_sh ve_int) (fun _ _ => rfl))) vl_nil) (by decide) rfl)) (VE.lk_of_sh ve_int))) (VE.lk_of_sh ve_int)) (vs_one' (s_asg (i := 5) (own' := [2]) (by kernel_rfl) (by kernel_rfl) (ve_op os_add (VE.lk_of_sh ve_int) (VE.lk_of_sh (ve_op os_mod (VE.lk_of_sh (ve_callTy cs_int k_law_int T.b_int PyProof.Rows.boot_int (vl_cons (VE.lk_of_sh (ve_ix (ve_look (i := 1) (by kernel_rfl) (by kernel_rfl) rfl rfl) (VE.lk_of_sh ve_int) (fun _ _ => rfl))) vl_nil) (by decide) rfl)) (VE.lk_of_sh ve_int)))) rfl)) vs_nil')
      (vs_seq (s_asg (i := 6) (own' := [2]) (by kernel_rfl) (by kernel_rfl) (ve_callF H__law_rows (Nat.le_of_ble_eq_true rfl) rfl k_law__law_rows (vs_cons (ve_callF H__law_draws (Nat.le_of_ble_eq_true rfl) rfl k_law__law_draws (vs_cons (ve_var (i := 0) (by kernel_rfl) (by kernel_rfl) (by decide) rfl rfl) (vs_cons ve_int (vs_cons ve_int vs_nil))) (len_cons (len_cons (len_cons len_nil))) rfl) (vs_cons (ve_var (i := 4) (by kernel_rfl) (by kernel_rfl) (by decide) rfl rfl) (vs_cons (ve_var (i := 5) (by kernel_rfl) (by kernel_rfl) (by decide) rfl rfl) vs_nil))) (len_cons (len_cons (len_cons len_nil))) rfl) rfl)
      (vs_seq (s_asg (i := 7) (own' := [2]) (by kernel_rfl) (by kernel_rfl) (ve_callF H__law_least (Nat.le_of_ble_eq_true rfl) rfl k_law__law_least (vs_cons (ve_var (i := 6) (by kernel_rfl) (by kernel_rfl) (by decide) rfl rfl) (vs_cons (ve_var (i := 4) (by kernel_rfl) (by kernel_rfl) (by decide) rfl rfl) vs_nil)) (len_cons (len_cons len_nil)) rfl) rfl)
      (vs_seq (s_asg (i := 8) (own' := [2]) (by kernel_rfl) (by kernel_rfl) (ve_callF H__law_handed (Nat.le_of_ble_eq_true rfl) rfl k_law__law_handed (vs_cons (ve_var (i := 6) (by kernel_rfl) (by kernel_rfl) (by decide) rfl rfl) (vs_cons (ve_cmp (os_eq rfl) (VE.lk_of_sh (ve_op os_mod (VE.lk_of_sh (ve_callTy cs_int k_law_int T.b_int PyProof.Rows.boot_int (vl_cons (VE.lk_of_sh (ve_ix (ve_look (i := 1) (by kernel_rfl) (by kernel_rfl) rfl rfl) (VE.lk_of_sh ve_int) (fun _ _ => rfl))) vl_nil) (by decide) rfl)) (VE.lk_of_sh ve_int))) (VE.lk_of_sh ve_int)) vs_nil)) (len_cons (len_cons len_nil)) rfl) rfl)
      (vs_seq (s_asg (i := 9) (own' := [2]) (by kernel_rfl) (by kernel_rfl) (VE.sh_of_fr (ve_callTy cs_list k_law_list T.b_list PyProof.Rows.boot_list (vl_cons (ve_look (i := 4) (by kernel_rfl) (by kernel_rfl) rfl rfl) vl_nil) (by decide) rfl)) rfl)
      (vs_seq (s_asgOwn (i := 10) (own' := [10, 2]) (by kernel_rfl) (by kernel_rfl) (ve_callF H_least_hitting (Nat.le_of_ble_eq_true rfl) rfl k_law_least_hitting (vs_cons (ve_var (i := 8) (by kernel_rfl) (by kernel_rfl) (by decide) rfl rfl) (vs_cons (ve_var (i := 9) (by kernel_rfl) (by kernel_rfl) (by decide) rfl rfl) vs_nil)) (len_cons (len_cons len_nil)) rfl) rfl)
      (vs_seq (s_if (vt_of (vw_or (vt_not (vt_val (ve_is1 (n := "list") k_law_isinstance T.b_isinstance k_law_list T.b_list PyProof.Rows.boot_list (by decide) rfl (ve_look (i := 10) (by kernel_rfl) (by kernel_rfl) rfl rfl)))) (vw_or1 (vt_cmp (os_ne rfl) (ve_look (i := 10) (by kernel_rfl) (by kernel_rfl) rfl rfl) (ve_look (i := 7) (by kernel_rfl) (by kernel_rfl) rfl rfl))))) (vs_one' (s_ret ve_bl)) vs_nil')
      (vs_seq (s_if (vt_of (vw_or (vt_cmp (os_ne rfl) (VE.lk_of_sh (ve_callF H__law_handed (Nat.le_of_ble_eq_true rfl) rfl k_law__law_handed (vs_cons (ve_var (i := 8) (by kernel_rfl) (by kernel_rfl) (by decide) rfl rfl) (vs_cons ve_bl vs_nil)) (len_cons (len_cons len_nil)) rfl)) (ve_look (i := 6) (by kernel_rfl) (by kernel_rfl) rfl rfl)) (vw_or1 (vt_cmp (os_ne rfl) (ve_look (i := 9) (by kernel_rfl) (by kernel_rfl) rfl rfl) (ve_look (i := 4) (by kernel_rfl) (by kernel_rfl) rfl rfl))))) (vs_one' (s_ret ve_bl)) vs_nil')
      (vs_seq (s_append (i := 10) (by kernel_rfl) (by kernel_rfl) (by decide) rfl rfl (ve_tuple vs_nil))
      (vs_seq (s_if (vt_cmp (os_ne rfl) (VE.lk_of_sh (VE.sh_of_fr (ve_callF H_least_hitting (Nat.le_of_ble_eq_true rfl) rfl k_law_least_hitting (vs_cons (ve_callTy cs_tuple k_law_tuple T.b_tuple PyProof.Rows.boot_tuple (vl_cons (ve_look (i := 8) (by kernel_rfl) (by kernel_rfl) rfl rfl) vl_nil) (by decide) rfl) (vs_cons (ve_callTy cs_tuple k_law_tuple T.b_tuple PyProof.Rows.boot_tuple (vl_cons (ve_look (i := 4) (by kernel_rfl) (by kernel_rfl) rfl rfl) vl_nil) (by decide) rfl) vs_nil)) (len_cons (len_cons len_nil)) rfl))) (ve_look (i := 7) (by kernel_rfl) (by kernel_rfl) rfl rfl)) (vs_one' (s_ret ve_bl)) vs_nil')
      (vs_seq (s_if (vt_cmp (os_ne rfl) (VE.lk_of_sh (VE.sh_of_fr (ve_callF H_least_hitting (Nat.le_of_ble_eq_true rfl) rfl k_law_least_hitting (vs_cons (ve_callF H__law_handed (Nat.le_of_ble_eq_true rfl) rfl k_law__law_handed (vs_cons (ve_var (i := 7) (by kernel_rfl) (by kernel_rfl) (by decide) rfl rfl) (vs_cons (ve_cmp (os_eq rfl) (VE.lk_of_sh (ve_op os_mod (VE.lk_of_sh (ve_callTy cs_int k_law_int T.b_int PyProof.Rows.boot_int (vl_cons (VE.lk_of_sh (ve_ix (ve_look (i := 1) (by kernel_rfl) (by kernel_rfl) rfl rfl) (VE.lk_of_sh ve_int) (fun _ _ => rfl))) vl_nil) (by decide) rfl)) (VE.lk_of_sh ve_int))) (VE.lk_of_sh ve_int)) vs_nil)) (len_cons (len_cons len_nil)) rfl) (vs_cons (VE.sh_of_fr (ve_rev (ve_look (i := 4) (by kernel_rfl) (by kernel_rfl) rfl rfl))) vs_nil)) (len_cons (len_cons len_nil)) rfl))) (VE.lk_of_sh (ve_callF H__law_least_rows (Nat.le_of_ble_eq_true rfl) rfl k_law__law_least_rows (vs_cons (ve_var (i := 6) (by kernel_rfl) (by kernel_rfl) (by decide) rfl rfl) (vs_cons (ve_var (i := 4) (by kernel_rfl) (by kernel_rfl) (by decide) rfl rfl) vs_nil)) (len_cons (len_cons len_nil)) rfl))) (vs_one' (s_ret ve_bl)) vs_nil')
      (vs_seq (s_asg (i := 11) (own' := [10, 2]) (by kernel_rfl) (by kernel_rfl) (ve_op os_mod (VE.lk_of_sh (ve_callTy cs_int k_law_int T.b_int PyProof.Rows.boot_int (vl_cons (VE.lk_of_sh (ve_ix (ve_look (i := 1) (by kernel_rfl) (by kernel_rfl) rfl rfl) (VE.lk_of_sh ve_int) (fun _ _ => rfl))) vl_nil) (by decide) rfl)) (VE.lk_of_sh ve_int)) rfl)
      (vs_seq (s_if (vt_cmp os_lt (ve_look (i := 11) (by kernel_rfl) (by kernel_rfl) rfl rfl) (VE.lk_of_sh ve_int)) (vs_one' (v1_give (own1 := [10]) (by decide) (s_ret (ve_cmp (os_eq rfl) (VE.lk_of_sh (ve_callF H__law_refusal (Nat.le_of_ble_eq_true rfl) rfl k_law__law_refusal (vs_cons (ve_var (i := 8) (by kernel_rfl) (by kernel_rfl) (by decide) rfl rfl) (vs_cons (ve_callF H__law_wrong_names (Nat.le_of_ble_eq_true rfl) rfl k_law__law_wrong_names (vs_cons (ve_slice (ve_look (i := 1) (by kernel_rfl) (by kernel_rfl) rfl rfl) (vo_some (VE.lk_of_sh ve_int)) vo_none) (vs_cons (ve_var (i := 4) (by kernel_rfl) (by kernel_rfl) (by decide) rfl rfl) (vs_cons (ve_var (i := 2) (by kernel_rfl) (by kernel_rfl) (by decide) rfl rfl) vs_nil))) (len_cons (len_cons (len_cons len_nil))) rfl) vs_nil)) (len_cons (len_cons len_nil)) rfl)) (VE.lk_of_sh (VE.sh_of_fr (ve_list (vs_cons ve_str vs_nil)))))))) vs_nil')
      (vs_seq (s_asg (i := 12) (own' := [10, 2]) (by kernel_rfl) (by kernel_rfl) (ve_callF H__law_wrong_rows (Nat.le_of_ble_eq_true rfl) rfl k_law__law_wrong_rows (vs_cons (ve_slice (ve_look (i := 1) (by kernel_rfl) (by kernel_rfl) rfl rfl) (vo_some (VE.lk_of_sh ve_int)) vo_none) (vs_cons (ve_var (i := 4) (by kernel_rfl) (by kernel_rfl) (by decide) rfl rfl) (vs_cons (ve_var (i := 6) (by kernel_rfl) (by kernel_rfl) (by decide) rfl rfl) vs_nil))) (len_cons (len_cons (len_cons len_nil))) rfl) rfl)
      (vs_seq (s_if (vt_cmp os_lt (ve_look (i := 11) (by kernel_rfl) (by kernel_rfl) rfl rfl) (VE.lk_of_sh ve_int)) (vs_one' (s_ret (ve_cmp (os_eq rfl) (VE.lk_of_sh (ve_callF H__law_refusal (Nat.le_of_ble_eq_true rfl) rfl k_law__law_refusal (vs_cons (ve_callF H__law_handed (Nat.le_of_ble_eq_true rfl) rfl k_law__law_handed (vs_cons (ve_var (i := 12) (by kernel_rfl) (by kernel_rfl) (by decide) rfl rfl) (vs_cons (ve_cmp (os_eq rfl) (ve_look (i := 11) (by kernel_rfl) (by kernel_rfl) rfl rfl) (VE.lk_of_sh ve_int)) vs_nil)) (len_cons (len_cons len_nil)) rfl) (vs_cons (VE.sh_of_fr (ve_callTy cs_list k_law_list T.b_list PyProof.Rows.boot_list (vl_cons (ve_look (i := 4) (by kernel_rfl) (by kernel_rfl) rfl rfl) vl_nil) (by decide) rfl)) vs_nil)) (len_cons (len_cons len_nil)) rfl)) (VE.lk_of_sh (VE.sh_of_fr (ve_list (vs_cons ve_str vs_nil))))))) vs_nil')
      (vs_one' (v1_give (own1 := [10]) (by decide) (s_ret (ve_cmp (os_eq rfl) (VE.lk_of_sh (ve_callF H__law_refusal (Nat.le_of_ble_eq_true rfl) rfl k_law__law_refusal (vs_cons (ve_var (i := 12) (by kernel_rfl) (by kernel_rfl) (by decide) rfl rfl) (vs_cons (ve_callF H__law_wrong_names (Nat.le_of_ble_eq_true rfl) rfl k_law__law_wrong_names (vs_cons (ve_slice (ve_look (i := 1) (by kernel_rfl) (by kernel_rfl) rfl rfl) (vo_some (VE.lk_of_sh ve_int)) vo_none) (vs_cons (ve_var (i := 4) (by kernel_rfl) (by kernel_rfl) (by decide) rfl rfl) (vs_cons (ve_var (i := 2) (by kernel_rfl) (by kernel_rfl) (by decide) rfl rfl) vs_nil))) (len_cons (len_cons (len_cons len_nil))) rfl) vs_nil)) (len_cons (len_cons len_nil)) rfl)) (VE.lk_of_sh (VE.sh_of_fr (ve_list (vs_cons ve_str vs_nil)))))))))))))))))))))))))))))
end
section
set_option maxRecDepth 100000
set_option maxHeartbeats 2000000
open PySem PySem.Spec L2 T2
namespace M55
theorem is_list_lst (xs : List D) : F_is_list [.lst xs] = .ok (.bl true) := by
  simp [F_is_list, G_is_list, show isTy ["list", "tuple"] (.lst xs) = .ok (.bl true) from rfl]
theorem is_list_tup (xs : List D) : F_is_list [.tup xs] = .ok (.bl true) := by
  simp [F_is_list, G_is_list, show isTy ["list", "tuple"] (.tup xs) = .ok (.bl true) from rfl]
theorem ty_int (i : Int) : isTy ["str"] (.int i) = .ok (.bl false) := by kernel_rfl
theorem ty_non : isTy ["str"] .non = .ok (.bl false) := by kernel_rfl
theorem ty_str (z : Str) : isTy ["str"] (.str z) = .ok (.bl true) := rfl
theorem is_word_int (i : Int) : F_is_word [.int i] = .ok (.bl false) := by
  simp [F_is_word, G_is_word, ty_int]
theorem is_word_non : F_is_word [.non] = .ok (.bl false) := by
  simp [F_is_word, G_is_word, ty_non]
def abc : List Nat := ("abcdefghijklmnopqrstuvwxyz" : Str).cps.toList
def oth : List Nat := ("abcdefghijklmnopqrstuvwxyz0123456789-" : Str).cps.toList
/-- a word -/
def isW (z : Str) : Bool := decide (1 ≤ z.length ∧ z.length ≤ 12) && (match z.cps.toList with
  | [] => false
  | c :: r => decide (c ∈ abc) && (c :: r).all fun d => decide (d ∈ oth))
theorem ix0 {z : Str} {c : Nat} {r : List Nat} (e : z.cps.toList = c :: r) (hz : z.length ≤ sizeLine) : ixD (.str z) (.int 0) = .ok (.str ⟨#[c]⟩) := by
  simp only [ixD, if_pos hz]
  rw [e]
  simp [atI, ixN]
theorem nin_abc (c : Nat) : ninE (.str ⟨#[c]⟩) (.str "abcdefghijklmnopqrstuvwxyz") = .ok (.bl (!decide (c ∈ abc))) := rfl
theorem nin_oth (c : Nat) : ninE (.str ⟨#[c]⟩) (.str "abcdefghijklmnopqrstuvwxyz0123456789-") = .ok (.bl (!decide (c ∈ oth))) := rfl
theorem is_word_str (z : Str) (hz : z.length ≤ sizeLine) : F_is_word [.str z] = .ok (.bl (isW z)) := by
  have hl : z.length = z.cps.toList.length := by simp [Str.length]
  unfold isW
  by_cases h1 : 1 ≤ z.length ∧ z.length ≤ 12
  · rw [decide_eq_true h1]
    cases e : z.cps.toList with
    | nil => rw [e] at hl; simp at hl; omega
    | cons c r =>
      have e0 := ix0 e hz
      have key := loop_all (F := sIf (fTst (f2 ninE (fVar 1) (fC (.str "abcdefghijklmnopqrstuvwxyz0123456789-")))) (sRet (fC (.bl false))) sSkip) (i := 1) (r := .bl false) (fun d => match d with
        | .str ⟨a⟩ => match a.toList with
          | [c] => decide (c ∈ oth)
          | _ => false
        | _ => false) [some (.str z), none] (signs z) none (fun d hd => by
          obtain ⟨c, _, rfl⟩ := List.mem_map.mp hd
          by_cases hc : c ∈ oth <;> simp [nin_oth, hc])
      obtain ⟨y, key⟩ := key
      have i1 : (1 : Int) ≤ (z.length : Int) := by omega
      have i2 : (z.length : Int) ≤ 12 := by omega
      have al : ((signs z).all fun d => match d with
        | .str ⟨a⟩ => match a.toList with
          | [c] => decide (c ∈ oth)
          | _ => false
        | _ => false) = (c :: r).all fun d => decide (d ∈ oth) := by
        unfold signs
        rw [e, List.all_map]
        rfl
      rw [al] at key
      have key2 : loopF (sIf (fTst (f2 ninE (fVar 1) (fC (.str "abcdefghijklmnopqrstuvwxyz0123456789-")))) (sRet (fC (.bl false))) sSkip) 1 (signs z) [some (.str z), none] = _ := key
      by_cases hc : c ∈ abc
      · simp [F_is_word, G_is_word, ty_str, lenD, hz, leD, i1, i2, e0, nin_abc, hc]
        rw [key2]
        cases al2 : (c :: r).all fun d => decide (d ∈ oth) with
        | true =>
          simp [hc, h1]
          simpa using al2
        | false =>
          simp [hc, h1]
          simpa using al2
      · simp [F_is_word, G_is_word, ty_str, lenD, hz, leD, i1, i2, e0, nin_abc, hc]
  · rw [decide_eq_false h1]
    by_cases i1 : (1 : Int) ≤ (z.length : Int)
    · have i2 : ¬ (z.length : Int) ≤ 12 := by omega
      simp [F_is_word, G_is_word, ty_str, lenD, hz, leD, i1, i2]
    · simp [F_is_word, G_is_word, ty_str, lenD, hz, leD, i1]

/-! has_twice -/
def tw (seen : List Str) : List Str → Bool
  | [] => false
  | w :: r => if w ∈ seen then true else tw (seen ++ [w]) r
theorem tw_iff : ∀ (ws seen : List Str), tw seen ws = false ↔ (∀ w ∈ ws, w ∉ seen) ∧ ws.Nodup
  | [], seen => by simp [tw]
  | w :: r, seen => by
    rw [tw]
    by_cases h : w ∈ seen
    · simp [h]
    · rw [if_neg h, tw_iff r (seen ++ [w])]
      simp only [List.mem_append, List.nodup_cons, List.mem_cons, List.not_mem_nil, or_false, forall_eq_or_imp, not_or]
      constructor
      · rintro ⟨h1, h2⟩
        exact ⟨⟨h, fun x hx => (h1 x hx).1⟩, fun hx => (h1 w hx).2 rfl, h2⟩
      · rintro ⟨⟨_, h1⟩, h2, h3⟩
        exact ⟨fun x hx => ⟨h1 x hx, fun e => h2 (e ▸ hx)⟩, h3⟩
def kvs (seen : List Str) : List (Key × D) := seen.map fun w => (Sum.inr w, D.bl true)
theorem look_kvs (w : Str) : ∀ seen : List Str, (lookK (kvs seen) (Sum.inr w)).isSome = decide (w ∈ seen)
  | [] => rfl
  | x :: r => by
    have ih := look_kvs w r
    unfold lookK kvs at *
    rw [List.map_cons, List.find?_cons]
    by_cases h : x = w
    · subst h; simp
    · have e : decide ((Sum.inr x : Key) = Sum.inr w) = false := by simp [h]
      simp only [e]
      rw [ih]
      simp [Ne.symm h]
theorem store_kvs (w : Str) (seen : List Str) (h : w ∉ seen) : storeK (kvs seen) (Sum.inr w) (.bl true) = kvs (seen ++ [w]) := by
  unfold storeK
  have e : ((kvs seen).any fun kv => decide (kv.1 = (Sum.inr w : Key))) = false := by
    rw [List.any_eq_false]
    intro kv hk
    obtain ⟨x, hx, rfl⟩ := List.mem_map.mp hk
    simp only [decide_eq_true_eq]
    intro z
    exact h (Sum.inr.inj z ▸ hx)
  rw [e, if_neg Bool.false_ne_true]
  simp [kvs]
def htBody : FS := (sSeq (sIf (fTst (f2 inE (fVar 2) (fVar 1))) (sRet (fC (.bl true))) sSkip) (sSetE 1 (fVar 2) (fC (.bl true))))
theorem ht_loop (d0 : D) : ∀ (ws seen : List Str) (x : Option D), ws.length + seen.length ≤ sizeLine → ∃ y s', loopF htBody 2 (ws.map .str) [some d0, some (.dic (kvs seen)), x] = if tw seen ws = true then .ret (.bl true) else .nx [some d0, some (.dic s'), y]
  | [], seen, x, _ => ⟨x, _, rfl⟩
  | w :: r, seen, x, hl => by
    rw [List.map_cons, loopF, tw]
    have e1 : inE (.str w) (.dic (kvs seen)) = .ok (.bl (decide (w ∈ seen))) := by
      simp only [inE, keyD]
      rw [look_kvs]
    by_cases h : w ∈ seen
    · refine ⟨none, [], ?_⟩
      simp [htBody, e1, h]
    · have hlen : (kvs seen).length < sizeLine := by
        simp only [kvs, List.length_map]
        simp only [List.length_cons] at hl
        omega
      obtain ⟨y, s', e⟩ := ht_loop d0 r (seen ++ [w]) (some (.str w)) (by simp only [List.length_append, List.length_cons, List.length_nil] at hl ⊢; omega)
      refine ⟨y, s', ?_⟩
      simp [htBody, e1, h, sSetE, keyD, hlen, store_kvs w seen h]
      exact e
theorem has_twice_eq (d0 : D) (ws : List Str) (hs : seqOf d0 = .ok (ws.map .str)) (hl : ws.length ≤ sizeLine) : F_has_twice [d0] = .ok (.bl (tw [] ws)) := by
  obtain ⟨y, s', e⟩ := ht_loop d0 ws [] none (by simpa using hl)
  have e : loopF ((sSeq (sIf (fTst (f2 inE (fVar 2) (fVar 1))) (sRet (fC (.bl true))) sSkip) (sSetE 1 (fVar 2) (fC (.bl true))))) 2 (ws.map .str) [some d0, some (.dic []), none] = _ := e
  simp [F_has_twice, G_has_twice, fDic0, hs]
  rw [e]
  cases tw [] ws <;> simp

/-! is_words -/
def okD : D → Prop
  | .str z => z.length ≤ sizeLine
  | .int _ => True
  | .non => True
  | _ => False
def isWD : D → Bool
  | .str z => isW z
  | _ => false
theorem is_word_D {d : D} (h : okD d) : F_is_word [d] = .ok (.bl (isWD d)) := by
  cases d with
  | str z => exact is_word_str z h
  | int i => exact is_word_int i
  | non => exact is_word_non
  | _ => exact h.elim
def strsD : List D → List Str
  | [] => []
  | .str z :: r => z :: strsD r
  | _ :: r => strsD r
theorem strsD_map : ∀ {ds : List D}, ds.all isWD = true → ds = (strsD ds).map .str
  | [], _ => rfl
  | d :: r, h => by
    rw [List.all_cons, Bool.and_eq_true] at h
    cases d with
    | str z =>
      rw [strsD, List.map_cons, ← strsD_map h.2]
    | _ => exact absurd h.1 Bool.false_ne_true
theorem strsD_str : ∀ ws : List Str, strsD (ws.map .str) = ws
  | [] => rfl
  | w :: r => by rw [List.map_cons, strsD, strsD_str r]
theorem is_words_eq (d0 : D) (ds : List D) (hd : d0 = .lst ds ∨ d0 = .tup ds) (h : ∀ d ∈ ds, okD d) (hl : ds.length ≤ sizeLine) : F_is_words [d0] = .ok (.bl (ds.all isWD && !tw [] (strsD ds))) := by
  have hs : seqOf d0 = .ok ds := by rcases hd with rfl | rfl <;> rfl
  have hi : F_is_list [d0] = .ok (.bl true) := by
    rcases hd with rfl | rfl
    · exact is_list_lst ds
    · exact is_list_tup ds
  obtain ⟨y, e⟩ := loop_all (F := sIf (fNotT (fTst (fCall F_is_word (fCons (fVar 1) fNil)))) (sRet (fC (.bl false))) sSkip) (i := 1) (r := .bl false) isWD [some d0, none] ds none (fun d hd => by
    have := is_word_D (h d hd)
    cases q : isWD d <;> simp [this, q])
  have e : loopF (sIf (fNotT (fTst (fCall F_is_word (fCons (fVar 1) fNil)))) (sRet (fC (.bl false))) sSkip) 1 ds [some d0, none] = _ := e
  cases q : ds.all isWD with
  | false =>
    rw [q, if_neg Bool.false_ne_true] at e
    simp [F_is_words, G_is_words, hi, hs, e]
  | true =>
    rw [q, if_pos rfl] at e
    have e2 := has_twice_eq d0 (strsD ds) (by rw [hs]; exact congrArg R.ok (strsD_map q)) (by
      have := congrArg List.length (strsD_map q)
      rw [List.length_map] at this
      omega)
    simp [F_is_words, G_is_words, hi, hs, e, e2, fNot]

/-! strings in lists -/
/-- texts that can be laid down -/
def okS (ws : List Str) : Prop := ∀ w ∈ ws, PyData.strOk w = true
theorem lay_strs : ∀ {ws : List Str}, okS ws → PyData.canLayAll0 (D.pys (ws.map .str)) = true
  | [], _ => by simp [D.pys, PyData.canLayAll0]
  | w :: r, h => by simp [D.pys, PyData.canLayAll0, PyData.canLay0, D.py, lay_strs (fun x hx => h x (List.mem_cons_of_mem _ hx)), h w List.mem_cons_self]
theorem dep_strs : ∀ ws : List Str, PyData.depthAll (D.pys (ws.map .str)) = 0
  | [] => by simp [D.pys, PyData.depthAll]
  | w :: r => by simp [D.pys, PyData.depthAll, PyData.depth, D.py, dep_strs r]
theorem ok_strs {ws : List Str} (h : okS ws) : D.ok (.lst (ws.map .str)) = true := by
  unfold D.ok SeqAt.shaped
  simp [D.py, PyData.canLay0, lay_strs h, PyData.depth, dep_strs]
theorem ok_strsT {ws : List Str} (h : okS ws) : D.ok (.tup (ws.map .str)) = true := by
  unfold D.ok SeqAt.shaped
  simp [D.py, PyData.canLay0, lay_strs h, PyData.depth, dep_strs]
theorem ok_str {w : Str} (h : PyData.strOk w = true) : D.ok (.str w) = true := by
  unfold D.ok SeqAt.shaped
  simp [D.py, PyData.canLay0, PyData.depth, h]
theorem any_strs (w : Str) : ∀ ws : List Str, ((D.pys (ws.map .str)).any fun z => PyData.eqv z (D.py (.str w))) = decide (w ∈ ws)
  | [] => rfl
  | x :: r => by
    rw [List.map_cons, D.pys, List.any_cons, any_strs w r]
    have e : PyData.eqv (D.py (.str x)) (D.py (.str w)) = decide (x = w) := by
      simp only [D.py, PyData.eqv]
      by_cases h : x = w
      · subst h; simp
      · simp [h]
    rw [e]
    by_cases h : x = w
    · subst h; simp
    · have h' : ¬ w = x := fun z => h z.symm
      simp [h, h']
theorem inB_tup (w : Str) (ws : List Str) : inB (.str w) (.tup (ws.map .str)) = some (decide (w ∈ ws)) := by
  simp only [inB]
  rw [if_pos (by rw [List.all_map]; simp)]
  congr 1
  induction ws with
  | nil => rfl
  | cons x r ih =>
    rw [List.map_cons, List.any_cons, ih]
    by_cases h : x = w
    · subst h; simp
    · have h' : ¬ w = x := fun z => h z.symm
      simp [h, h']
/-- a list or a tuple of these texts -/
def seqS (d : D) (ws : List Str) : Prop := d = .lst (ws.map .str) ∨ d = .tup (ws.map .str)
theorem in_seq {d : D} {ws : List Str} (h : seqS d ws) {w : Str} (hs : okS ws) (hw : PyData.strOk w = true) : inE (.str w) d = .ok (.bl (decide (w ∈ ws))) := by
  rcases h with rfl | rfl
  · show inD (.str w) (.lst (ws.map .str)) = _
    simp only [inD, inB]
    rw [if_pos ⟨ok_str hw, ok_strs hs⟩, any_strs]
  · show inD (.str w) (.tup (ws.map .str)) = _
    simp only [inD, inB_tup]
theorem nin_seq {d : D} {ws : List Str} (h : seqS d ws) {w : Str} (hs : okS ws) (hw : PyData.strOk w = true) : ninE (.str w) d = .ok (.bl (!decide (w ∈ ws))) := by
  rcases h with rfl | rfl
  · show ninD (.str w) (.lst (ws.map .str)) = _
    simp only [ninD, inB]
    rw [if_pos ⟨ok_str hw, ok_strs hs⟩, any_strs]
  · show ninD (.str w) (.tup (ws.map .str)) = _
    simp only [ninD, inB_tup]
theorem seqS.of {d : D} {ws : List Str} (h : seqS d ws) : seqOf d = .ok (ws.map .str) := by rcases h with rfl | rfl <;> rfl
/-- equal data -/
theorem pys_strs_inj : ∀ {xs ys : List Str}, PyData.eqvAll (D.pys (xs.map .str)) (D.pys (ys.map .str)) = decide (xs = ys)
  | [], [] => by simp [D.pys, PyData.eqvAll]
  | [], y :: ys => by simp [D.pys, PyData.eqvAll]
  | x :: xs, [] => by simp [D.pys, PyData.eqvAll]
  | x :: xs, y :: ys => by
    rw [List.map_cons, List.map_cons, D.pys, D.pys, PyData.eqvAll, pys_strs_inj]
    have e : PyData.eqv (D.py (.str x)) (D.py (.str y)) = decide (x = y) := by
      simp only [D.py, PyData.eqv]
      by_cases h : x = y
      · subst h; simp
      · simp [h]
    rw [e]
    by_cases h : x = y <;> simp [h]
theorem ne_tup {xs ys : List Str} (hx : okS xs) (hy : okS ys) : neD (.tup (xs.map .str)) (.tup (ys.map .str)) = .ok (.bl (decide (xs ≠ ys))) := by
  simp only [neD, eqB]
  rw [if_pos ⟨ok_strsT hx, ok_strsT hy⟩]
  simp only [D.py, PyData.eqv, pys_strs_inj]
  by_cases h : xs = ys <;> simp [h]
end M55
end
section
set_option maxRecDepth 100000
set_option maxHeartbeats 2000000
open PySem PySem.Spec L2 T2
namespace M55
/-- a comprehension over texts -/
theorem comp_strs {i : Nat} {f : FE} {t : FT} {ρ : Rho} {d : D} {ws : List Str} (p : Str → Bool) (hf : f ρ = .ok d) (hd : seqS d ws) (hl : ws.length ≤ sizeLine) (hi : i < ρ.length) (ht : ∀ w ∈ ws, t (ρ.set i (some (.str w))) = .ok (p w)) :
    fComp i (fSeq f) t (fVar i) ρ = .ok (.lst ((ws.filter p).map .str)) := by
  unfold fComp
  simp only [x_fSeq, hf, R.bind_ok, hd.of]
  rw [if_pos (by rw [List.length_map]; exact hl)]
  have e := compL_eval (i := i) (ft := t) (g := fVar i) (ρ := ρ) (fun d => match d with
    | .str w => p w
    | _ => false) id (ws.map .str) (fun d hd => by
      obtain ⟨w, hw, rfl⟩ := List.mem_map.mp hd
      exact ht w hw) (fun d hd _ => by
      obtain ⟨w, hw, rfl⟩ := List.mem_map.mp hd
      simp [hi])
  rw [e]
  simp only [R.bind_ok, List.map_id]
  congr 2
  rw [List.filter_map]
  rfl
def mkD (b : Bool) (r : List Str) : D := if b = true then .tup (r.map .str) else .lst (r.map .str)
theorem mkD_seq (b : Bool) (r : List Str) : seqS (mkD b r) r := by
  cases b
  · exact .inl rfl
  · exact .inr rfl
theorem len_seq {d : D} {ws : List Str} (h : seqS d ws) : lenD [d] = .ok (.int ws.length) := by
  rcases h with rfl | rfl <;> simp [lenD]
theorem eq_int (i j : Int) : eqD (.int i) (.int j) = .ok (.bl (decide (i = j))) := rfl
theorem gt_int (i j : Int) : gtD (.int i) (.int j) = .ok (.bl (decide (j < i))) := rfl
theorem len_lst (xs : List D) : lenD [.lst xs] = .ok (.int xs.length) := rfl
/-- some of r is among l -/
def hit1 (l r : List Str) : Bool := r.any fun x => decide (x ∈ l)
theorem fil_len (l r : List Str) : decide ((0 : Int) < ((r.filter fun x => decide (x ∈ l)).length : Int)) = hit1 l r := by
  unfold hit1
  induction r with
  | nil => rfl
  | cons x r ih =>
    rw [List.any_cons, List.filter_cons]
    by_cases h : x ∈ l
    · simp [h]
    · simp only [h, decide_false, Bool.false_or]
      exact ih
theorem fil_len0 (l r : List Str) : decide (((r.filter fun x => decide (x ∈ l)).length : Int) = 0) = !hit1 l r := by
  rw [← fil_len]
  by_cases h : (r.filter fun x => decide (x ∈ l)).length = 0
  · simp [h]
  · have : ¬ ((r.filter fun x => decide (x ∈ l)).length : Int) = 0 := by omega
    have h2 : (0 : Int) < ((r.filter fun x => decide (x ∈ l)).length : Int) := by omega
    rw [decide_eq_false this, decide_eq_true h2]
    rfl
theorem meets_eq {d e : D} {l r : List Str} (hd : seqS d l) (he : seqS e r) (hl : okS l) (hr : okS r) (hz : r.length ≤ sizeLine) : F_meets [d, e] = .ok (.bl (hit1 l r)) := by
  have c := comp_strs (i := 2) (f := fVar 1) (t := fTst (f2 inE (fVar 2) (fVar 0))) (ρ := [some d, some e, none]) (fun w => decide (w ∈ l)) (by simp) he hz (by simp) (fun w hw => by simp [in_seq hd hl (hr w hw)])
  simp only [F_meets, G_meets, x_runF, x_sRet, x_f2, x_fCall, x_fCons, x_fNil, x_fC, R.bind_ok, List.map_cons, List.map_nil, List.length_cons, List.length_nil, List.replicate, List.cons_append, List.nil_append, c, len_lst, gt_int, List.length_map, fil_len]
theorem within_eq {d e : D} {s l : List Str} (hd : seqS d s) (he : seqS e l) (hs : okS s) (hl : okS l) (hz : s.length ≤ sizeLine) : F_is_within [d, e] = .ok (.bl (s.all fun x => decide (x ∈ l))) := by
  have c := comp_strs (i := 2) (f := fVar 0) (t := fTst (f2 ninE (fVar 2) (fVar 1))) (ρ := [some d, some e, none]) (fun w => !decide (w ∈ l)) (by simp) hd hz (by simp) (fun w hw => by simp [nin_seq he hl (hs w hw)])
  have h0 : ∀ s : List Str, decide (((s.filter fun x => !decide (x ∈ l)).length : Int) = 0) = s.all fun x => decide (x ∈ l) := fun s => by
    induction s with
    | nil => rfl
    | cons x r ih =>
      rw [List.all_cons, List.filter_cons]
      by_cases h : x ∈ l
      · simp only [h, decide_true, Bool.not_true, Bool.true_and]
        exact ih
      · simp [h]
        omega
  simp only [F_is_within, G_is_within, x_runF, x_sRet, x_f2, x_fCall, x_fCons, x_fNil, x_fC, R.bind_ok, List.map_cons, List.map_nil, List.length_cons, List.length_nil, List.replicate, List.cons_append, List.nil_append, c, len_lst, eq_int, List.length_map, h0]

theorem comp_map {α : Type} (enc : α → D) {i : Nat} {src : FA} {t : FT} {ρ : Rho} {xs : List α} (p : α → Bool) (hs : src ρ = .ok (xs.map enc)) (hl : xs.length ≤ sizeLine) (hi : i < ρ.length) (ht : ∀ x ∈ xs, t (ρ.set i (some (enc x))) = .ok (p x)) (inj : ∀ x y, enc x = enc y → x = y) :
    fComp i src t (fVar i) ρ = .ok (.lst ((xs.filter p).map enc)) := by
  have key : ∀ ys : List α, (∀ x ∈ ys, t (ρ.set i (some (enc x))) = .ok (p x)) → compL i t (fVar i) ρ (ys.map enc) = .ok ((ys.filter p).map enc) := fun ys => by
    induction ys with
    | nil => intro _; rfl
    | cons x r ih =>
      intro h
      rw [List.map_cons, compL, h x List.mem_cons_self, ih fun y hy => h y (List.mem_cons_of_mem _ hy), List.filter_cons]
      cases q : p x <;> simp [R.safe, hi]
  unfold fComp
  simp only [hs, R.bind_ok]
  rw [if_pos (by rw [List.length_map]; exact hl), key xs ht]
  rfl
def tupD (l : List Str) : D := .tup (l.map .str)
theorem strs_inj : ∀ {x y : List Str}, x.map D.str = y.map D.str → x = y
  | [], [], _ => rfl
  | [], _ :: _, h => by simp at h
  | _ :: _, [], h => by simp at h
  | x :: xs, y :: ys, h => by
    simp only [List.map_cons, List.cons.injEq, D.str.injEq] at h
    rw [h.1, strs_inj h.2]
theorem tupD_inj (x y : List Str) (h : tupD x = tupD y) : x = y := by
  unfold tupD at h
  exact strs_inj (D.tup.inj h)
theorem tupD_seq (l : List Str) : seqS (tupD l) l := .inr rfl
def lessB (lot less : List Str) : Bool := decide (less ≠ lot) && less.all fun x => decide (x ∈ lot)
def leastB (lots : List (List Str)) (lot : List Str) : Bool := !lots.any (lessB lot)
theorem len0_any {α : Type} (p : α → Bool) (xs : List α) : decide (((xs.filter p).length : Int) = 0) = !xs.any p := by
  induction xs with
  | nil => rfl
  | cons x r ih =>
    rw [List.any_cons, List.filter_cons]
    cases q : p x with
    | true => simp; omega
    | false => simpa using ih
theorem least_lots_eq {lots : List (List Str)} (h : ∀ l ∈ lots, okS l ∧ l.length ≤ sizeLine) (hz : lots.length ≤ sizeLine) : F_least_lots [.lst (lots.map tupD)] = .ok (.lst ((lots.filter (leastB lots)).map tupD)) := by
  have inner : ∀ lot ∈ lots, ∀ a : Rho, a = [some (.lst (lots.map tupD)), some (tupD lot), none] →
      fComp 2 (fSeq (fVar 0)) (fAndT (fTst (f2 neD (fVar 2) (fVar 1))) (fTst (fCall F_is_within (fCons (fVar 2) (fCons (fVar 1) fNil))))) (fVar 2) a = .ok (.lst ((lots.filter (lessB lot)).map tupD)) := fun lot hlot a ha => by
    subst ha
    refine comp_map tupD (lessB lot) (by simp) hz (by simp) (fun less hless => ?_) tupD_inj
    have e1 := ne_tup (h less hless).1 (h lot hlot).1
    have e2 := within_eq (tupD_seq less) (tupD_seq lot) (h less hless).1 (h lot hlot).1 (h less hless).2
    have e1 : neD (tupD less) (tupD lot) = .ok (.bl (decide (less ≠ lot))) := e1
    simp only [x_fAndT, x_fTst, x_f2, x_fVar, x_fCall, x_fCons, x_fNil, List.set_cons_succ, List.set_cons_zero, List.getElem?_cons_succ, List.getElem?_cons_zero, R.bind_ok, e1, x_asB, e2]
    unfold lessB
    cases decide (less ≠ lot) <;> simp
  have outer := comp_map tupD (i := 1) (src := fSeq (fVar 0)) (t := fTst (f2 eqD (fCall lenD (fCons (fComp 2 (fSeq (fVar 0)) (fAndT (fTst (f2 neD (fVar 2) (fVar 1))) (fTst (fCall F_is_within (fCons (fVar 2) (fCons (fVar 1) fNil))))) (fVar 2)) fNil)) (fC (.int 0)))) (ρ := [some (.lst (lots.map tupD)), none, none]) (xs := lots) (leastB lots) (by simp) hz (by simp) (fun lot hlot => by
    have := inner lot hlot ([some (.lst (lots.map tupD)), none, none].set 1 (some (tupD lot))) rfl
    simp only [x_fTst, x_f2, x_fCall, x_fCons, x_fNil, x_fC, this, R.bind_ok, len_lst, List.length_map, eq_int, x_asB, len0_any]
    rfl) tupD_inj
  simp only [F_least_lots, G_least_lots, x_runFr, x_sRet, List.map_cons, List.map_nil, List.length_cons, List.length_nil, List.replicate, List.cons_append, List.nil_append, outer]
/-! the law's own meets -/
theorem law_meets_eq {d e : D} {b : Bool} {lot : List Str} {rows : List (List Str)} (hd : seqS d lot) (he : e = .lst (rows.map (mkD b)) ∨ e = .tup (rows.map (mkD b))) (hl : okS lot) (hr : ∀ r ∈ rows, okS r ∧ r.length ≤ sizeLine) : F__law_meets [d, e] = .ok (.bl (rows.all (hit1 lot))) := by
  have hs : seqOf e = .ok (rows.map (mkD b)) := by rcases he with rfl | rfl <;> rfl
  have body : ∀ r ∈ rows, ∀ a : Rho, a = [some d, some e, some (mkD b r), none] → (sIf (fTst (f2 eqD (fCall lenD (fCons (fComp 3 (fSeq (fVar 2)) (fTst (f2 inE (fVar 3) (fVar 0))) (fVar 3)) fNil)) (fC (.int 0)))) (sRet (fC (.bl false))) sSkip) a = if hit1 lot r = true then .nx a else .ret (.bl false) := fun r hr' a ha => by
    subst ha
    have c := comp_strs (i := 3) (f := fVar 2) (t := fTst (f2 inE (fVar 3) (fVar 0))) (ρ := [some d, some e, some (mkD b r), none]) (fun w => decide (w ∈ lot)) (by simp) (mkD_seq b r) (hr r hr').2 (by simp) (fun w hw => by simp [in_seq hd hl ((hr r hr').1 w hw)])
    simp only [x_sIf, x_fTst, x_f2, x_fCall, x_fCons, x_fNil, x_fC, c, R.bind_ok, len_lst, List.length_map, eq_int, x_asB, fil_len0]
    cases hit1 lot r <;> simp
  have loop : ∀ (rs : List (List Str)) (x : Option D), (∀ r ∈ rs, r ∈ rows) → ∃ y, loopF (sIf (fTst (f2 eqD (fCall lenD (fCons (fComp 3 (fSeq (fVar 2)) (fTst (f2 inE (fVar 3) (fVar 0))) (fVar 3)) fNil)) (fC (.int 0)))) (sRet (fC (.bl false))) sSkip) 2 (rs.map (mkD b)) [some d, some e, x, none] = if rs.all (hit1 lot) = true then .nx [some d, some e, y, none] else .ret (.bl false) := fun rs => by
    induction rs with
    | nil => intro x _; exact ⟨x, rfl⟩
    | cons r rs ih =>
      intro x h
      rw [List.map_cons, loopF, List.all_cons]
      have hb := body r (h r List.mem_cons_self) ([some d, some e, x, none].set 2 (some (mkD b r))) rfl
      rw [hb]
      cases q : hit1 lot r with
      | true =>
        obtain ⟨y, e2⟩ := ih (some (mkD b r)) fun r' hr' => h r' (List.mem_cons_of_mem _ hr')
        exact ⟨y, by simpa using e2⟩
      | false => exact ⟨x, by simp⟩
  obtain ⟨y, e2⟩ := loop rows none fun r h => h
  simp only [F__law_meets, G__law_meets, x_runF, x_sSeq, x_sFor, x_fSeq, x_fVar, List.map_cons, List.map_nil, List.length_cons, List.length_nil, List.replicate, List.cons_append, List.nil_append, List.getElem?_cons_succ, List.getElem?_cons_zero, R.bind_ok, hs, e2]
  cases rows.all (hit1 lot) <;> simp
end M55
end
section
set_option maxRecDepth 100000
set_option maxHeartbeats 2000000
open PySem PySem.Spec L2 T2
namespace M55
theorem is_list_mk (b : Bool) (r : List Str) : F_is_list [mkD b r] = .ok (.bl true) := by
  cases b
  · exact is_list_lst _
  · exact is_list_tup _
def rowsIn (ns : List Str) (rows : List (List Str)) : Bool := rows.all fun r => r.all fun x => decide (x ∈ ns)
theorem are_rows_eq {d e : D} {b : Bool} {ns : List Str} {rows : List (List Str)} (hd : d = .lst (rows.map (mkD b)) ∨ d = .tup (rows.map (mkD b))) (he : seqS e ns) (hn : okS ns) (hr : ∀ r ∈ rows, okS r) : F_are_rows_of [d, e] = .ok (.bl (decide (rows.length ≤ 64) && rowsIn ns rows)) := by
  have hs : seqOf d = .ok (rows.map (mkD b)) := by rcases hd with rfl | rfl <;> rfl
  have hi : F_is_list [d] = .ok (.bl true) := by
    rcases hd with rfl | rfl
    · exact is_list_lst _
    · exact is_list_tup _
  have hlen : lenD [d] = .ok (.int rows.length) := by rcases hd with rfl | rfl <;> simp [lenD]
  have inner : ∀ (r : List Str) (dr : D) (x : Option D), okS r → ∃ y, loopF (sIf (fTst (f2 ninE (fVar 3) (fVar 1))) (sRet (fC (.bl false))) sSkip) 3 (r.map .str) [some d, some e, some dr, x] = if (r.all fun x => decide (x ∈ ns)) = true then .nx [some d, some e, some dr, y] else .ret (.bl false) := fun r dr => by
    induction r with
    | nil => intro x _; exact ⟨x, rfl⟩
    | cons w r ih =>
      intro x h
      rw [List.map_cons, loopF, List.all_cons]
      have e1 := nin_seq he hn (h w List.mem_cons_self)
      by_cases hw : w ∈ ns
      · obtain ⟨y, e2⟩ := ih (some (.str w)) fun z hz => h z (List.mem_cons_of_mem _ hz)
        exact ⟨y, by simpa [e1, hw] using e2⟩
      · exact ⟨x, by simp [e1, hw]⟩
  have loop : ∀ (rs : List (List Str)) (x y : Option D), (∀ r ∈ rs, okS r) → ∃ x' y', loopF (sSeq (sIf (fNotT (fTst (fCall F_is_list (fCons (fVar 2) fNil)))) (sRet (fC (.bl false))) sSkip)
      (sFor 3 (fSeq (fVar 2)) (sIf (fTst (f2 ninE (fVar 3) (fVar 1))) (sRet (fC (.bl false))) sSkip))) 2 (rs.map (mkD b)) [some d, some e, x, y] = if rowsIn ns rs = true then .nx [some d, some e, x', y'] else .ret (.bl false) := fun rs => by
    induction rs with
    | nil => intro x y _; exact ⟨x, y, rfl⟩
    | cons r rs ih =>
      intro x y h
      obtain ⟨y1, e1⟩ := inner r (mkD b r) y (h r List.mem_cons_self)
      have e0 : (sSeq (sIf (fNotT (fTst (fCall F_is_list (fCons (fVar 2) fNil)))) (sRet (fC (.bl false))) sSkip)
        (sFor 3 (fSeq (fVar 2)) (sIf (fTst (f2 ninE (fVar 3) (fVar 1))) (sRet (fC (.bl false))) sSkip))) ([some d, some e, x, y].set 2 (some (mkD b r))) = if (r.all fun x => decide (x ∈ ns)) = true then .nx [some d, some e, some (mkD b r), y1] else .ret (.bl false) := by
        simp only [x_sSeq, x_sIf, x_fNotT, x_fTst, x_fCall, x_fCons, x_fNil, x_fVar, List.set_cons_succ, List.set_cons_zero, List.getElem?_cons_succ, List.getElem?_cons_zero, R.bind_ok, is_list_mk, x_asB, Bool.not_true, Bool.false_eq_true, if_false, x_sSkip, x_sFor, x_fSeq, (mkD_seq b r).of, e1]
      unfold rowsIn at ih ⊢
      rw [List.map_cons, loopF, e0, List.all_cons]
      cases q : r.all fun x => decide (x ∈ ns) with
      | true =>
        obtain ⟨x', y', e2⟩ := ih (some (mkD b r)) y1 fun r' hr' => h r' (List.mem_cons_of_mem _ hr')
        exact ⟨x', y', by simpa using e2⟩
      | false => exact ⟨x, y, by simp⟩
  obtain ⟨x', y', e2⟩ := loop rows none none hr
  by_cases h64 : rows.length ≤ 64
  · have i1 : ¬ (64 : Int) < (rows.length : Int) := by omega
    simp only [F_are_rows_of, G_are_rows_of, x_runF, x_sSeq, x_sIf, x_fOrT, x_fNotT, x_fTst, x_f2, x_fC, x_fCall, x_fCons, x_fNil, x_sFor, x_fSeq, x_fVar, List.map_cons, List.map_nil, List.length_cons, List.length_nil, List.replicate, List.cons_append, List.nil_append, List.getElem?_cons_succ, List.getElem?_cons_zero, R.bind_ok, hi, x_asB, hlen, gt_int, i1, decide_false, Bool.not_true, Bool.false_eq_true, if_false, x_sSkip, hs, e2, h64, decide_true, Bool.true_and]
    cases rowsIn ns rows <;> simp
  · have i1 : (64 : Int) < (rows.length : Int) := by omega
    simp [F_are_rows_of, G_are_rows_of, hi, hlen, gt_int, i1, h64]
/-! sorted -/
theorem alike_strs : ∀ xs ys : List Str, PySem.W.alikeAll (D.pys (xs.map .str)) (D.pys (ys.map .str)) = true
  | [], _ => by simp [D.pys, PySem.W.alikeAll]
  | _ :: _, [] => by simp [D.pys, PySem.W.alikeAll]
  | x :: xs, y :: ys => by
    rw [List.map_cons, List.map_cons, D.pys, D.pys, PySem.W.alikeAll, alike_strs xs ys]
    simp [D.py, PySem.W.alike]
def leS (a b : Str) : Bool := PySem.W.dataLe false (fun w : Str => PyData.str w) a b
def sortS (ns : List Str) : List Str := ns.mergeSort leS
theorem srt_strs {ns : List Str} (h : okS ns) : srtB (D.pys (ns.map .str)) = true := by
  have e : D.pys (ns.map .str) = ns.map PyData.str := by
    rw [pys_map, List.map_map]
    rfl
  unfold srtB
  rw [Bool.and_eq_true, Bool.and_eq_true, Bool.and_eq_true]
  refine ⟨⟨⟨?_, ?_⟩, ?_⟩, lay_strs h⟩
  · rw [e, List.all_map]
    simp [PySem.W.alike]
  · rw [e, Bool.or_eq_true]
    right
    rw [List.all_map]
    simp
  · rw [e, List.all_map]
    simp [PyData.depth]
theorem sorted_eq {d : D} {ns : List Str} (hd : seqS d ns) (h : okS ns) : sortedD [d] = .ok (.lst ((sortS ns).map .str)) := by
  have e : (ns.map D.str).mergeSort (PySem.W.dataLe false D.py) = (sortS ns).map .str := by
    unfold sortS
    rw [List.map_mergeSort (s := PySem.W.dataLe false D.py)]
    intro a _ b _
    rfl
  rcases hd with rfl | rfl <;> simp only [sortedD, sortD, srt_strs h, if_true, e]
def leL (a b : List Str) : Bool := PySem.W.dataLe false (fun l : List Str => lenK (tupD l)) a b
def sortL (ls : List (List Str)) : List (List Str) := ls.mergeSort leL
theorem srt_lots {ls : List (List Str)} (h : ∀ l ∈ ls, okS l) : srtB ((ls.map tupD).map lenK) = true := by
  have e : (ls.map tupD).map lenK = ls.map fun l => PyData.tuple [.int l.length, .tuple (D.pys (l.map .str))] := by
    rw [List.map_map]
    refine List.map_congr_left fun l _ => ?_
    simp [tupD, lenK]
  unfold srtB
  rw [e, Bool.and_eq_true, Bool.and_eq_true, Bool.and_eq_true]
  refine ⟨⟨⟨?_, ?_⟩, ?_⟩, ?_⟩
  · rw [List.all_map]
    simp [PySem.W.alike, PySem.W.alikeAll, alike_strs]
  · rw [Bool.or_eq_true]
    left
    rw [List.all_map]
    simp
  · rw [List.all_map]
    simp [PyData.depth, PyData.depthAll, dep_strs]
  · clear e
    induction ls with
    | nil => simp [PyData.canLayAll0]
    | cons l r ih =>
      rw [List.map_cons, PyData.canLayAll0, ih fun x hx => h x (List.mem_cons_of_mem _ hx)]
      simp [PyData.canLay0, PyData.canLayAll0, lay_strs (h l List.mem_cons_self)]
theorem sortK_eq {ls : List (List Str)} (h : ∀ l ∈ ls, okS l) : sortKD (.lst (ls.map tupD)) = .ok (.lst ((sortL ls).map tupD)) := by
  have e : (ls.map tupD).mergeSort (PySem.W.dataLe false lenK) = (sortL ls).map tupD := by
    unfold sortL
    rw [List.map_mergeSort (s := PySem.W.dataLe false lenK)]
    intro a _ b _
    rfl
  have e1 : (ls.map tupD).all tupStr = true := by
    rw [List.all_map]
    simp [tupStr, tupD]
  simp only [sortKD, e1, srt_lots h, and_self, if_true, e]
end M55
end
section
set_option maxRecDepth 100000
set_option maxHeartbeats 2000000
open PySem PySem.Spec L2 T2
namespace M55
theorem sl_big : (1000000 : Nat) ≤ sizeLine := by rw [sizeLine_eq]; omega
/-- all lots over these names, by numbers -/
def dbl (acc : List (List Str)) (w : Str) : List (List Str) := acc ++ acc.map (· ++ [w])
def subsF (L : List Str) : List (List Str) := L.foldl dbl [[]]
theorem dbl_len (acc : List (List Str)) (w : Str) : (dbl acc w).length = 2 * acc.length := by
  unfold dbl
  rw [List.length_append, List.length_map]
  omega
theorem subsF_len : ∀ (L : List Str) (acc : List (List Str)), (L.foldl dbl acc).length = 2 ^ L.length * acc.length
  | [], acc => by simp
  | w :: L, acc => by
    rw [List.foldl_cons, subsF_len L, dbl_len, List.length_cons, Nat.pow_succ]
    rw [Nat.mul_assoc]
theorem subsF_snoc (L : List Str) (w : Str) : subsF (L ++ [w]) = dbl (subsF L) w := by
  unfold subsF
  rw [List.foldl_append]
  rfl
/-- a lot is a part of the row -/
theorem subsF_mem (L : List Str) : ∀ l : List Str, l ∈ subsF L ↔ l.Sublist L := by
  have key : ∀ n (L : List Str), L.length = n → ∀ l : List Str, l ∈ subsF L ↔ l.Sublist L := fun n => by
    induction n with
    | zero =>
      intro L hL l
      have : L = [] := List.length_eq_zero_iff.mp hL
      subst this
      simp [subsF]
    | succ n ih =>
      intro L hL l
      have hne : L ≠ [] := by intro z; rw [z] at hL; cases hL
      have e := List.dropLast_concat_getLast hne
      have hlen : L.dropLast.length = n := by rw [List.length_dropLast, hL]; rfl
      rw [← e, subsF_snoc]
      unfold dbl
      rw [List.mem_append, List.mem_map, ih _ hlen]
      constructor
      · rintro (h | ⟨a, h, rfl⟩)
        · exact h.trans (List.sublist_append_left _ _)
        · exact ((ih _ hlen a).mp h).append (List.Sublist.refl _)
      · intro h
        rw [List.sublist_append_iff] at h
        obtain ⟨a, b, rfl, h1, h2⟩ := h
        cases h2 with
        | cons _ h3 =>
          have := List.sublist_nil.mp h3
          subst this
          left; simpa using h1
        | cons_cons _ h3 =>
          have := List.sublist_nil.mp h3
          subst this
          right; exact ⟨a, (ih _ hlen a).mpr h1, rfl⟩
  exact key L.length L rfl
theorem all_lots_loop (e : D) : ∀ (L : List Str) (acc : List (List Str)) (x y : Option D), 2 ^ L.length * acc.length ≤ 1000000 → (∀ l ∈ acc, l.length + L.length ≤ 1000) → ∃ x' y', loopF (sAsg 1 (f2 addD (fVar 1) (fComp 3 (fSeq (fVar 1)) fYes (f2 addD (fVar 3) (fTup (fCons (fVar 2) fNil)))))) 2 (L.map .str) [some e, some (.lst (acc.map tupD)), x, y] =
    .nx [some e, some (.lst ((L.foldl dbl acc).map tupD)), x', y']
  | [], acc, x, y, _, _ => ⟨x, y, rfl⟩
  | w :: L, acc, x, y, hz, hb => by
    have hp : 1 ≤ 2 ^ L.length := Nat.one_le_two_pow
    have hacc : acc.length ≤ 500000 := by
      rw [List.length_cons, Nat.pow_succ] at hz
      have : 2 * acc.length ≤ 2 ^ L.length * 2 * acc.length := by
        rw [Nat.mul_assoc]
        exact Nat.le_mul_of_pos_left _ hp
      omega
    have big := sl_big
    have comp : fComp 3 (fSeq (fVar 1)) fYes (f2 addD (fVar 3) (fTup (fCons (fVar 2) fNil))) [some e, some (.lst (acc.map tupD)), some (.str w), y] = .ok (.lst ((acc.map (· ++ [w])).map tupD)) := by
      have key : ∀ ls : List (List Str), (∀ l ∈ ls, l.length ≤ 1000) → compL 3 fYes (f2 addD (fVar 3) (fTup (fCons (fVar 2) fNil))) [some e, some (.lst (acc.map tupD)), some (.str w), y] (ls.map tupD) = .ok ((ls.map (· ++ [w])).map tupD) := fun ls => by
        induction ls with
        | nil => intro _; rfl
        | cons l r ih =>
          intro h
          have hl := h l List.mem_cons_self
          have e1 : addD (tupD l) (.tup [.str w]) = .ok (tupD (l ++ [w])) := by
            unfold tupD
            simp only [addD, List.length_map, List.length_cons, List.length_nil]
            rw [if_pos (by omega)]
            simp
          have e2 : (1 : Nat) ≤ sizeLine := by omega
          rw [List.map_cons, compL, ih fun l' hl' => h l' (List.mem_cons_of_mem _ hl')]
          simp [R.safe, e1, e2]
      unfold fComp
      simp only [x_fSeq, x_fVar, List.getElem?_cons_succ, List.getElem?_cons_zero, R.bind_ok, x_seq_lst]
      rw [if_pos (by rw [List.length_map]; omega), key acc fun l hl => by have := hb l hl; omega]
      rfl
    have step : (sAsg 1 (f2 addD (fVar 1) (fComp 3 (fSeq (fVar 1)) fYes (f2 addD (fVar 3) (fTup (fCons (fVar 2) fNil)))))) ([some e, some (.lst (acc.map tupD)), x, y].set 2 (some (.str w))) = .nx [some e, some (.lst ((dbl acc w).map tupD)), some (.str w), y] := by
      have e1 : addD (.lst (acc.map tupD)) (.lst ((acc.map (· ++ [w])).map tupD)) = .ok (.lst ((dbl acc w).map tupD)) := by
        simp only [addD, List.length_map]
        rw [if_pos (by omega)]
        unfold dbl
        rw [List.map_append]
      simp only [x_sAsg, x_sDo, x_f2, x_fVar, List.set_cons_succ, List.set_cons_zero, List.getElem?_cons_succ, List.getElem?_cons_zero, R.bind_ok, comp, e1]
    obtain ⟨x', y', e2⟩ := all_lots_loop e L (dbl acc w) (some (.str w)) y (by rw [dbl_len]; rw [List.length_cons, Nat.pow_succ, Nat.mul_assoc] at hz; exact hz) (fun l hl => by
      unfold dbl at hl
      rcases List.mem_append.mp hl with hl | hl
      · have := hb l hl
        simp only [List.length_cons] at this
        omega
      · obtain ⟨a, ha, rfl⟩ := List.mem_map.mp hl
        have := hb a ha
        simp only [List.length_cons] at this
        simp only [List.length_append, List.length_cons, List.length_nil]
        omega)
    exact ⟨x', y', by rw [List.map_cons, loopF, step]; exact e2⟩
/-- the lots in order -/
def lotsS (ns : List Str) : List (List Str) := sortL (subsF (sortS ns))
theorem okS_sub {l L : List Str} (h : l.Sublist L) (hL : okS L) : okS l := fun w hw => hL w (h.subset hw)
theorem sortS_perm (ns : List Str) : (sortS ns).Perm ns := List.mergeSort_perm _ _
theorem okS_sort {ns : List Str} (h : okS ns) : okS (sortS ns) := fun w hw => h w ((sortS_perm ns).mem_iff.mp hw)
theorem all_lots_eq {e : D} {ns : List Str} (he : seqS e ns) (hn : okS ns) (hl : ns.length ≤ 6) : F_all_lots [e] = .ok (.lst ((lotsS ns).map tupD)) := by
  have hL : (sortS ns).length = ns.length := (sortS_perm ns).length_eq
  have h2 : 2 ^ (sortS ns).length ≤ 64 := by
    rw [hL]
    exact Nat.pow_le_pow_right (by omega) hl
  obtain ⟨x', y', e2⟩ := all_lots_loop e (sortS ns) [[]] none none (by simp; omega) (fun l hl' => by simp at hl'; subst hl'; simp; omega)
  have big := sl_big
  have e1 : (1 : Nat) ≤ sizeLine := by omega
  have e3 : [tupD []] = ([[]] : List (List Str)).map tupD := rfl
  have e4 : sortKD (.lst ((subsF (sortS ns)).map tupD)) = .ok (.lst ((lotsS ns).map tupD)) := sortK_eq fun l hl' => okS_sub ((subsF_mem _ l).mp hl') (okS_sort hn)
  have e2 : loopF (sAsg 1 (f2 addD (fVar 1) (fComp 3 (fSeq (fVar 1)) fYes (f2 addD (fVar 3) (fTup (fCons (fVar 2) fNil)))))) 2 ((sortS ns).map .str) [some e, some (.lst [.tup []]), none, none] = .nx [some e, some (.lst ((subsF (sortS ns)).map tupD)), x', y'] := e2
  simp only [F_all_lots, G_all_lots, x_runF, x_sSeq, x_sAsg, x_sDo, x_sRet, x_f1, x_sFor, x_fSeq, x_fCall, x_fLst, x_fTup, x_fCons, x_fNil, x_fVar, List.map_cons, List.map_nil, List.length_cons, List.length_nil, List.replicate, List.cons_append, List.nil_append, List.set_cons_succ, List.set_cons_zero, List.getElem?_cons_succ, List.getElem?_cons_zero, R.bind_ok, sorted_eq he hn, x_seq_lst, Nat.zero_le, if_true, e1, Nat.zero_add, e2, e4]

/-! least_hitting -/
theorem lh_names {d e : D} {bw : Bool} {n : Nat} (h1 : F_is_words [e] = .ok (.bl bw)) (h2 : lenD [e] = .ok (.int n)) (h : bw = false ∨ 6 < n) : F_least_hitting [d, e] = .exc "BadLot" [("why", .str "names")] := by
  rcases h with rfl | h
  · simp [F_least_hitting, G_least_hitting, h1]
  · have i1 : (6 : Int) < (n : Int) := by omega
    cases bw
    · simp [F_least_hitting, G_least_hitting, h1]
    · simp [F_least_hitting, G_least_hitting, h1, h2, gt_int, i1]
theorem lh_rows {d e : D} {n : Nat} (h1 : F_is_words [e] = .ok (.bl true)) (h2 : lenD [e] = .ok (.int n)) (hn : n ≤ 6) (h3 : F_are_rows_of [d, e] = .ok (.bl false)) : F_least_hitting [d, e] = .exc "BadLot" [("why", .str "rows")] := by
  have i1 : ¬ (6 : Int) < (n : Int) := by omega
  simp [F_least_hitting, G_least_hitting, h1, h2, gt_int, i1, h3]
def hits (rows : List (List Str)) (l : List Str) : Bool := rows.all (hit1 l)
theorem lh_ok {d e : D} {b : Bool} {ns : List Str} {rows : List (List Str)} (hd : d = .lst (rows.map (mkD b)) ∨ d = .tup (rows.map (mkD b))) (he : seqS e ns) (hn : okS ns) (hl : ns.length ≤ 6) (hr : ∀ r ∈ rows, okS r ∧ r.length ≤ sizeLine) (hz : rows.length ≤ 64)
    (h1 : F_is_words [e] = .ok (.bl true)) (h3 : F_are_rows_of [d, e] = .ok (.bl true)) : F_least_hitting [d, e] = .ok (.lst ((((lotsS ns).filter (hits rows)).filter (leastB ((lotsS ns).filter (hits rows)))).map tupD)) := by
  have hs : seqOf d = .ok (rows.map (mkD b)) := by rcases hd with rfl | rfl <;> rfl
  have h2 : lenD [e] = .ok (.int ns.length) := len_seq he
  have i1 : ¬ (6 : Int) < (ns.length : Int) := by omega
  have big := sl_big
  have okl : ∀ l ∈ lotsS ns, okS l ∧ l.length ≤ 6 := fun l hl' => by
    have hm := (subsF_mem (sortS ns) l).mp ((List.mergeSort_perm _ _).mem_iff.mp hl')
    refine ⟨okS_sub hm (okS_sort hn), ?_⟩
    have := hm.length_le
    have := (sortS_perm ns).length_eq
    omega
  have lenL : (lotsS ns).length ≤ 64 := by
    have e1 : (lotsS ns).length = (subsF (sortS ns)).length := (List.mergeSort_perm _ _).length_eq
    have e2 : (subsF (sortS ns)).length = 2 ^ (sortS ns).length * 1 := subsF_len (sortS ns) [[]]
    have e3 : 2 ^ (sortS ns).length ≤ 64 := by
      rw [(sortS_perm ns).length_eq]
      exact Nat.pow_le_pow_right (by omega) hl
    omega
  have mkinj : ∀ x y, mkD b x = mkD b y → x = y := fun x y h => by
    cases b
    · exact strs_inj (D.lst.inj h)
    · exact strs_inj (D.tup.inj h)
  have body : ∀ (l : List Str) (acc : List (List Str)) (x : Option D), okS l → acc.length < 1000 → (sIf (fTst (f2 eqD (fCall lenD (fCons (fComp 4 (fSeq (fVar 0)) (fNotT (fTst (fCall F_meets (fCons (fVar 3) (fCons (fVar 4) fNil))))) (fVar 4)) fNil)) (fC (.int 0)))) (sApp 2 (fVar 3)) sSkip)
      ([some d, some e, some (.lst (acc.map tupD)), x, none].set 3 (some (tupD l))) = .nx [some d, some e, some (.lst ((if hits rows l = true then acc ++ [l] else acc).map tupD)), some (tupD l), none] := fun l acc x hl' ha => by
    have c := comp_map (mkD b) (i := 4) (src := fSeq (fVar 0)) (t := fNotT (fTst (fCall F_meets (fCons (fVar 3) (fCons (fVar 4) fNil))))) (ρ := [some d, some e, some (.lst (acc.map tupD)), some (tupD l), none]) (xs := rows) (fun r => !hit1 l r) (by simp [hs]) (by omega) (by simp)
      (fun r hr' => by
        have m := meets_eq (tupD_seq l) (mkD_seq b r) hl' (hr r hr').1 (hr r hr').2
        simp only [x_fNotT, x_fTst, x_fCall, x_fCons, x_fNil, x_fVar, List.set_cons_succ, List.set_cons_zero, List.getElem?_cons_succ, List.getElem?_cons_zero, R.bind_ok, m, x_asB]) mkinj
    have e0 : (!rows.any fun r => !hit1 l r) = hits rows l := by
      unfold hits
      rw [List.any_eq_not_all_not]
      simp
    simp only [List.set_cons_succ, List.set_cons_zero, x_sIf, x_fTst, x_f2, x_fCall, x_fCons, x_fNil, x_fC, c, R.bind_ok, len_lst, List.length_map, eq_int, x_asB, len0_any, e0]
    have a1 : acc.length < sizeLine := by omega
    cases hits rows l with
    | true => simp [sApp, a1]
    | false => simp
  have loop : ∀ (ls acc : List (List Str)) (x : Option D), (∀ l ∈ ls, okS l) → acc.length + ls.length ≤ 100 → ∃ x', loopF (sIf (fTst (f2 eqD (fCall lenD (fCons (fComp 4 (fSeq (fVar 0)) (fNotT (fTst (fCall F_meets (fCons (fVar 3) (fCons (fVar 4) fNil))))) (fVar 4)) fNil)) (fC (.int 0)))) (sApp 2 (fVar 3)) sSkip) 3 (ls.map tupD) [some d, some e, some (.lst (acc.map tupD)), x, none] =
      .nx [some d, some e, some (.lst ((acc ++ ls.filter (hits rows)).map tupD)), x', none] := fun ls => by
    induction ls with
    | nil => intro acc x _ _; exact ⟨x, by simp [loopF]⟩
    | cons l r ih =>
      intro acc x h ha
      simp only [List.length_cons] at ha
      have b1 := body l acc x (h l List.mem_cons_self) (by omega)
      rw [List.map_cons, loopF, b1]
      obtain ⟨x', e2⟩ := ih (if hits rows l = true then acc ++ [l] else acc) (some (tupD l)) (fun l' hl' => h l' (List.mem_cons_of_mem _ hl')) (by
        split
        · simp only [List.length_append, List.length_cons, List.length_nil]; omega
        · omega)
      refine ⟨x', ?_⟩
      rw [List.filter_cons]
      cases q : hits rows l with
      | true =>
        rw [q] at e2
        simpa using e2
      | false =>
        rw [q] at e2
        simpa using e2
  obtain ⟨x', e2⟩ := loop (lotsS ns) [] none (fun l hl' => (okl l hl').1) (by simp; omega)
  rw [List.nil_append] at e2
  have e2 : loopF (sIf (fTst (f2 eqD (fCall lenD (fCons (fComp 4 (fSeq (fVar 0)) (fNotT (fTst (fCall F_meets (fCons (fVar 3) (fCons (fVar 4) fNil))))) (fVar 4)) fNil)) (fC (.int 0)))) (sApp 2 (fVar 3)) sSkip) 3 ((lotsS ns).map tupD) [some d, some e, some (.lst []), none, none] = _ := e2
  have lst := least_lots_eq (lots := (lotsS ns).filter (hits rows)) (fun l hl' => by
    have := okl l (List.mem_filter.mp hl').1
    exact ⟨this.1, by omega⟩) (by have := List.length_filter_le (hits rows) (lotsS ns); omega)
  simp only [F_least_hitting, G_least_hitting, x_runFr, x_sSeq, x_sIf, x_sAsg, x_sDo, x_sRet, x_sFor, x_fOrT, x_fNotT, x_fTst, x_f2, x_fC, x_fSeq, x_fCall, x_fLst, x_fCons, x_fNil, x_fVar, List.map_cons, List.map_nil, List.length_cons, List.length_nil, List.replicate, List.cons_append, List.nil_append, List.set_cons_succ, List.set_cons_zero, List.getElem?_cons_succ, List.getElem?_cons_zero, R.bind_ok, x_asB, h1, h2, h3, gt_int, i1, decide_false, Bool.not_true, Bool.false_eq_true, if_false, x_sSkip, Nat.zero_le, if_true, all_lots_eq he hn hl, x_seq_lst, e2, lst]
end M55
end
section
set_option maxRecDepth 100000
set_option maxHeartbeats 2000000
open PySem PySem.Spec L2 T2
namespace M55
/-- the lot of a number -/
def bits : List Str → Nat → List Str
  | [], _ => []
  | w :: L, m => (if m % 2 = 1 then [w] else []) ++ bits L (m / 2)
theorem range_dbl (n : Nat) : List.range (2 * n) = (List.range n).flatMap fun m => [2 * m, 2 * m + 1] := by
  induction n with
  | zero => rfl
  | succ n ih =>
    rw [show 2 * (n + 1) = 2 * n + 1 + 1 by omega, List.range_succ, List.range_succ, ih, List.range_succ, List.flatMap_append]
    simp
theorem foldl_bits : ∀ (L : List Str) (acc : List (List Str)), L.foldl dbl acc = (List.range (2 ^ L.length)).flatMap fun m => acc.map (· ++ bits L m)
  | [], acc => by simp [bits, List.range_succ]
  | w :: L, acc => by
    rw [List.foldl_cons, foldl_bits L, List.length_cons, Nat.pow_succ, Nat.mul_comm, range_dbl, List.flatMap_assoc]
    congr 1
    funext m
    have e1 : (2 * m) % 2 = 0 := by omega
    have e2 : (2 * m + 1) % 2 = 1 := by omega
    have e3 : (2 * m) / 2 = m := by omega
    have e4 : (2 * m + 1) / 2 = m := by omega
    simp [dbl, bits, e1, e2, e3, e4]
theorem subs_bits (L : List Str) : (List.range (2 ^ L.length)).map (bits L) = subsF L := by
  unfold subsF
  rw [foldl_bits]
  simp [List.flatMap_singleton']
  induction List.range (2 ^ L.length) with
  | nil => rfl
  | cons x r ih => rw [List.map_cons, List.flatMap_cons, ih]; rfl
theorem bits_sub (L : List Str) : ∀ m, (bits L m).Sublist L := by
  induction L with
  | nil => intro m; exact List.Sublist.refl _
  | cons w L ih =>
    intro m
    unfold bits
    split
    · exact (ih _).cons_cons w
    · exact (ih _).cons w
/-- the comprehension over the bits -/
theorem comp_bits {num : Nat} {a0 a1 a3 a5 a6 a7 a8 a10 a11 : Option D} : ∀ (L' pre : List Str) (x : Option D), (pre ++ L').length ≤ 20 →
    compL 9 (fTst (f2 eqD (f2 modD (fCall intD (fCons (f2 divD (fVar 4) (f2 shlD (fC (.int 1)) (fVar 9))) fNil)) (fC (.int 2))) (fC (.int 1)))) (f2 ixD (fVar 2) (fVar 9)) [a0, a1, some (.lst ((pre ++ L').map .str)), a3, some (.int num), a5, a6, a7, a8, x, a10, a11] ((List.range' pre.length L'.length).map fun k : Nat => D.int k) =
      .ok ((bits L' (num / 2 ^ pre.length)).map .str)
  | [], pre, x, _ => rfl
  | w :: L', pre, x, hl => by
    have hp : pre.length < 20 := by simp only [List.length_append, List.length_cons] at hl; omega
    have ih := comp_bits (num := num) (a0 := a0) (a1 := a1) (a3 := a3) (a5 := a5) (a6 := a6) (a7 := a7) (a8 := a8) (a10 := a10) (a11 := a11) L' (pre ++ [w]) x (by simpa using hl)
    rw [List.append_assoc, List.singleton_append, List.length_append, List.length_cons, List.length_nil, Nat.zero_add] at ih
    rw [List.length_cons, List.range'_succ, List.map_cons, compL]
    have e1 : shlD (.int 1) (.int (pre.length : Nat)) = .ok (.int ((2 ^ pre.length : Nat) : Int)) := by
      simp only [shlD]
      rw [if_pos ⟨by omega, by omega, by decide⟩]
      simp
    have b1 : 2 ^ pre.length < 1073741824 := by
      have : 2 ^ pre.length ≤ 2 ^ 20 := Nat.pow_le_pow_right (by omega) (by omega)
      omega
    have b0 : 0 < 2 ^ pre.length := Nat.two_pow_pos _
    have e2 : divD (.int (num : Nat)) (.int ((2 ^ pre.length : Nat) : Int)) = .ok (.int ((num / 2 ^ pre.length : Nat) : Int)) := by
      simp only [divD]
      rw [if_pos ⟨by omega, by omega⟩]
      simp
    have e3 : ∀ i : Int, intD [.int i] = .ok (.int i) := fun i => rfl
    have e4 : modD (.int ((num / 2 ^ pre.length : Nat) : Int)) (.int 2) = .ok (.int ((num / 2 ^ pre.length % 2 : Nat) : Int)) := by
      simp only [modD]
      rw [if_pos (by omega)]
      simp
    have e5 : ixD (.lst ((pre ++ w :: L').map .str)) (.int (pre.length : Nat)) = .ok (.str w) := by
      simp only [ixD, atI, ixN]
      simp
      rw [if_pos (by omega)]
      simp
    have e6 : num / 2 ^ pre.length / 2 = num / 2 ^ (pre.length + 1) := by rw [Nat.div_div_eq_div_mul, Nat.pow_succ]
    have t : (fTst (f2 eqD (f2 modD (fCall intD (fCons (f2 divD (fVar 4) (f2 shlD (fC (.int 1)) (fVar 9))) fNil)) (fC (.int 2))) (fC (.int 1)))) ([a0, a1, some (.lst ((pre ++ w :: L').map .str)), a3, some (.int num), a5, a6, a7, a8, x, a10, a11].set 9 (some (.int (pre.length : Nat)))) = .ok (decide (num / 2 ^ pre.length % 2 = 1)) := by
      simp only [x_fTst, x_f2, x_fCall, x_fCons, x_fNil, x_fC, x_fVar, List.set_cons_succ, List.set_cons_zero, List.getElem?_cons_succ, List.getElem?_cons_zero, R.bind_ok, e1, e2, e3, e4, eq_int, x_asB]
      have e7 : (((num / 2 ^ pre.length % 2 : Nat) : Int) = 1) = (num / 2 ^ pre.length % 2 = 1) := propext ⟨fun h => by omega, fun h => by omega⟩
      simp only [e7]
    have t2 : (f2 ixD (fVar 2) (fVar 9)) ([a0, a1, some (.lst ((pre ++ w :: L').map .str)), a3, some (.int num), a5, a6, a7, a8, x, a10, a11].set 9 (some (.int (pre.length : Nat)))) = .ok (.str w) := by
      simp only [x_f2, x_fVar, List.set_cons_succ, List.set_cons_zero, List.getElem?_cons_succ, List.getElem?_cons_zero, R.bind_ok, e5]
    rw [t, t2, ih, bits, e6]
    by_cases h : num / 2 ^ pre.length % 2 = 1
    · simp [R.safe, h]
    · simp [R.safe, h]
end M55
end
section
set_option maxRecDepth 100000
set_option maxHeartbeats 2000000
open PySem PySem.Spec L2 T2
namespace M55
def pairD (l : List Str) : D := .tup [.int l.length, tupD l]
def without (l : List Str) (w : Str) : List Str := l.filter fun z => decide (z ≠ w)
/-- a least hitting lot, by single names -/
def mn (rows : List (List Str)) (l : List Str) : Bool := hits rows l && l.all fun w => !hits rows (without l w)
theorem ne_str (x y : Str) : neD (.str x) (.str y) = .ok (.bl (decide (x ≠ y))) := by
  by_cases h : x = y <;> simp [neD, eqB, h]
noncomputable def spareF : FS := (sSeq (sAsg 10 (fComp 11 (fSeq (fVar 5)) (fTst (f2 neD (fVar 11) (fVar 7))) (fVar 11)))
  (sAsg 6 (f2 addD (fVar 6) (fCall intD (fCons (fCall F__law_meets (fCons (fVar 10) (fCons (fVar 0) fNil))) fNil)))))
def cnt (rows : List (List Str)) (l : List Str) : List Str → Nat
  | [] => 0
  | w :: r => (if hits rows (without l w) = true then 1 else 0) + cnt rows l r
theorem cnt0 (rows : List (List Str)) (l : List Str) : ∀ ws : List Str, decide (cnt rows l ws = 0) = ws.all fun w => !hits rows (without l w)
  | [] => rfl
  | w :: r => by
    rw [List.all_cons, ← cnt0 rows l r, cnt]
    cases hits rows (without l w) <;> simp
section
variable {d : D} {rows : List (List Str)} {l : List Str} {a1 a2 a3 a4 a8 a9 a11 : Option D}
theorem spare_loop (hd : d = .lst (rows.map (mkD false))) (hl : okS l) (hz : l.length ≤ 1000) (hr : ∀ r ∈ rows, okS r ∧ r.length ≤ sizeLine) : ∀ (ws : List Str) (n : Nat) (x y : Option D), (∀ w ∈ ws, PyData.strOk w = true) → ∃ x' y',
    loopF spareF 7 (ws.map .str) [some d, a1, a2, a3, a4, some (.lst (l.map .str)), some (.int n), x, a8, a9, y, a11] = .nx [some d, a1, a2, a3, a4, some (.lst (l.map .str)), some (.int ((n + cnt rows l ws : Nat) : Int)), x', a8, a9, y', a11]
  | [], n, x, y, _ => ⟨x, y, by simp [loopF, cnt]⟩
  | w :: r, n, x, y, h => by
    have big := sl_big
    have c := comp_strs (i := 11) (f := fVar 5) (t := fTst (f2 neD (fVar 11) (fVar 7))) (ρ := [some d, a1, a2, a3, a4, some (.lst (l.map .str)), some (.int n), some (.str w), a8, a9, y, a11]) (d := .lst (l.map .str)) (ws := l) (fun z => decide (z ≠ w)) (by simp) (.inl rfl) (by omega) (by simp) (fun z hz => by simp [ne_str])
    have m := law_meets_eq (d := .lst ((without l w).map .str)) (e := d) (b := false) (lot := without l w) (rows := rows) (.inl rfl) (.inl hd) (fun z hz => hl z (List.mem_filter.mp hz).1) hr
    have m : F__law_meets [.lst ((l.filter fun z => decide (z ≠ w)).map .str), d] = .ok (.bl (hits rows (without l w))) := m
    have e1 : ∀ b : Bool, intD [.bl b] = .ok (.int (if b = true then 1 else 0)) := fun b => by cases b <;> rfl
    have step : spareF ([some d, a1, a2, a3, a4, some (.lst (l.map .str)), some (.int n), x, a8, a9, y, a11].set 7 (some (.str w))) = .nx [some d, a1, a2, a3, a4, some (.lst (l.map .str)), some (.int ((n + (if hits rows (without l w) = true then 1 else 0) : Nat) : Int)), some (.str w), a8, a9, some (.lst ((l.filter fun z => decide (z ≠ w)).map .str)), a11] := by
      unfold spareF
      simp only [x_sSeq, x_sAsg, x_sDo, x_f2, x_fCall, x_fCons, x_fNil, x_fVar, List.set_cons_succ, List.set_cons_zero, List.getElem?_cons_succ, List.getElem?_cons_zero, R.bind_ok, c, m, e1, addD]
      cases hits rows (without l w) <;> simp
    obtain ⟨x', y', e2⟩ := spare_loop hd hl hz hr r (n + (if hits rows (without l w) = true then 1 else 0)) (some (.str w)) (some (.lst ((l.filter fun z => decide (z ≠ w)).map .str))) fun z hz => h z (List.mem_cons_of_mem _ hz)
    refine ⟨x', y', ?_⟩
    rw [List.map_cons, loopF, step, cnt]
    simp only
    rw [e2, Nat.add_assoc]
end
noncomputable def numG (fc : FE) : FS := (sSeq (sAsg 5 fc)
  (sIf (fTst (fCall F__law_meets (fCons (fVar 5) (fCons (fVar 0) fNil)))) (sSeq (sAsg 6 (fC (.int 0)))
  (sSeq (sFor 7 (fSeq (fVar 5)) spareF)
  (sIf (fTst (f2 eqD (fVar 6) (fC (.int 0)))) (sApp 3 (fTup (fCons (fCall lenD (fCons (fVar 5) fNil)) (fCons (fCall tupleD (fCons (fVar 5) fNil)) fNil)))) sSkip))) sSkip))
def bitF : FE := fComp 9 (fRng (fCons (fCall lenD (fCons (fVar 2) fNil)) fNil)) (fTst (f2 eqD (f2 modD (fCall intD (fCons (f2 divD (fVar 4) (f2 shlD (fC (.int 1)) (fVar 9))) fNil)) (fC (.int 2))) (fC (.int 1)))) (f2 ixD (fVar 2) (fVar 9))
section
variable {d : D} {rows : List (List Str)} {L : List Str} {a1 a8 a9 a11 : Option D}
theorem fComp_ok {i : Nat} {src : FA} {t : FT} {g : FE} {ρ : Rho} {ds ys : List D} (hs : src ρ = .ok ds) (hl : ds.length ≤ sizeLine) (hc : compL i t g ρ ds = .ok ys) : fComp i src t g ρ = .ok (.lst ys) := by
  unfold fComp
  rw [hs, R.bind_ok, if_pos hl, hc, R.bind_ok]
theorem rng_eq (n : Nat) (h : n ≤ 1000) : rangeD [.int (n : Nat)] = .ok ((List.range' 0 n).map fun k : Nat => D.int k) := by
  have nm : nums 0 n = (List.range' 0 n).map fun k : Nat => D.int k := by
    unfold nums
    rw [List.range_eq_range']
    simp
  simp only [rangeD]
  rw [if_pos ⟨by omega, by omega⟩, Int.toNat_natCast, nm]
theorem num_gen {fc : FE} {l : List Str} {x4 x5 x6 x7 x10 : Option D} {acc : List (List Str)} (hc : fc [some d, a1, some (.lst (L.map .str)), some (.lst (acc.map pairD)), x4, x5, x6, x7, a8, a9, x10, a11] = .ok (.lst (l.map .str))) (hd : d = .lst (rows.map (mkD false))) (okb : okS l) (hbl : l.length ≤ 6) (hr : ∀ r ∈ rows, okS r ∧ r.length ≤ sizeLine) (ha : acc.length < 1000) : ∃ y5 y6 y7 y10,
    numG fc [some d, a1, some (.lst (L.map .str)), some (.lst (acc.map pairD)), x4, x5, x6, x7, a8, a9, x10, a11] = .nx [some d, a1, some (.lst (L.map .str)), some (.lst ((if mn rows l = true then acc ++ [l] else acc).map pairD)), x4, y5, y6, y7, a8, a9, y10, a11] := by
  have big := sl_big
  have m := law_meets_eq (d := .lst ((l).map .str)) (e := d) (b := false) (lot := l) (rows := rows) (.inl rfl) (.inl hd) okb hr
  have m : F__law_meets [.lst ((l).map .str), d] = .ok (.bl (hits rows (l))) := m
  cases q : hits rows (l) with
  | false =>
    refine ⟨some (.lst ((l).map .str)), x6, x7, x10, ?_⟩
    have e0 : mn rows (l) = false := by unfold mn; rw [q]; rfl
    unfold numG
    simp only [x_sSeq, x_sAsg, x_sDo, x_sIf, x_fTst, x_fCall, x_fCons, x_fNil, x_fVar, List.set_cons_succ, List.set_cons_zero, List.getElem?_cons_succ, List.getElem?_cons_zero, R.bind_ok, hc, m, q, x_asB, Bool.false_eq_true, if_false, x_sSkip, e0]
  | true =>
    obtain ⟨x', y', lp⟩ := spare_loop (a1 := a1) (a2 := some (.lst (L.map .str))) (a3 := some (.lst (acc.map pairD))) (a4 := x4) (a8 := a8) (a9 := a9) (a11 := a11) hd okb (by omega) hr (l) 0 x7 x10 okb
    rw [Nat.zero_add] at lp
    have e0 : mn rows (l) = decide (cnt rows (l) (l) = 0) := by unfold mn; rw [q, cnt0, Bool.true_and]
    have e1 : (((cnt rows (l) (l) : Nat) : Int) = 0) = (cnt rows (l) (l) = 0) := propext ⟨fun h => by omega, fun h => by omega⟩
    have e2 : (2 : Nat) ≤ sizeLine := by omega
    have e3 : acc.length < sizeLine := by omega
    have e4 : tupleD [.lst ((l).map .str)] = .ok (tupD (l)) := rfl
    refine ⟨some (.lst ((l).map .str)), some (.int ((cnt rows (l) (l) : Nat) : Int)), x', y', ?_⟩
    unfold numG
    simp only [x_sSeq, x_sAsg, x_sDo, x_sIf, x_sFor, x_fSeq, x_fTst, x_f2, x_fC, x_fCall, x_fCons, x_fNil, x_fVar, List.set_cons_succ, List.set_cons_zero, List.getElem?_cons_succ, List.getElem?_cons_zero, R.bind_ok, hc, m, q, x_asB, if_true, x_seq_lst, show (some (D.int 0)) = some (.int ((0 : Nat) : Int)) from rfl, lp, eq_int, Int.natCast_zero]
    rw [e0]
    by_cases h : cnt rows (l) (l) = 0
    · simp [h, sApp, len_lst, e4, e2, e3, pairD]
    · simp [h, e1]
theorem num_step (hd : d = .lst (rows.map (mkD false))) (hL : okS L) (hz : L.length ≤ 6) (hr : ∀ r ∈ rows, okS r ∧ r.length ≤ sizeLine) (num : Nat) (acc : List (List Str)) (ha : acc.length < 1000) (x5 x6 x7 x10 x4 : Option D) : ∃ y5 y6 y7 y10,
    numG bitF ([some d, a1, some (.lst (L.map .str)), some (.lst (acc.map pairD)), x4, x5, x6, x7, a8, a9, x10, a11].set 4 (some (.int num))) = .nx [some d, a1, some (.lst (L.map .str)), some (.lst ((if mn rows (bits L num) = true then acc ++ [bits L num] else acc).map pairD)), some (.int num), y5, y6, y7, a8, a9, y10, a11] := by
  have big := sl_big
  have hb := bits_sub L num
  have hbl := hb.length_le
  have okb : okS (bits L num) := okS_sub hb hL
  have cb := comp_bits (num := num) (a0 := some d) (a1 := a1) (a3 := some (.lst (acc.map pairD))) (a5 := x5) (a6 := x6) (a7 := x7) (a8 := a8) (a10 := x10) (a11 := a11) L [] a9 (by simpa using by omega)
  simp only [List.nil_append, List.length_nil, Nat.pow_zero, Nat.div_one] at cb
  have r1 := rng_eq L.length (by omega)
  have lenLs : (L.map D.str).length = L.length := List.length_map _
  have comp : bitF [some d, a1, some (.lst (L.map .str)), some (.lst (acc.map pairD)), some (.int num), x5, x6, x7, a8, a9, x10, a11] = .ok (.lst ((bits L num).map .str)) := by
    refine fComp_ok (ds := (List.range' 0 L.length).map fun k : Nat => D.int k) ?_ (by rw [List.length_map, List.length_range']; omega) cb
    have e1 : (fCall lenD (fCons (fVar 2) fNil)) [some d, a1, some (.lst (L.map .str)), some (.lst (acc.map pairD)), some (.int num), x5, x6, x7, a8, a9, x10, a11] = .ok (.int (L.length : Nat)) := by
      rw [← lenLs]
      rfl
    rw [x_fRng, x_fCons, e1, R.bind_ok, x_fNil, R.bind_ok, R.bind_ok, r1]
  obtain ⟨y5, y6, y7, y10, e⟩ := num_gen (a8 := a8) (a9 := a9) (a11 := a11) (x6 := x6) (x7 := x7) comp hd okb (by omega) hr ha
  exact ⟨y5, y6, y7, y10, e⟩
end

/-- the loop over the numbers -/
theorem num_loop {d : D} {rows : List (List Str)} {L : List Str} {a1 a8 a9 a11 : Option D} (hd : d = .lst (rows.map (mkD false))) (hL : okS L) (hz : L.length ≤ 6) (hr : ∀ r ∈ rows, okS r ∧ r.length ≤ sizeLine) : ∀ (ms : List Nat) (acc : List (List Str)) (x4 x5 x6 x7 x10 : Option D), acc.length + ms.length ≤ 100 → ∃ y4 y5 y6 y7 y10,
    loopF (numG bitF) 4 (ms.map fun m : Nat => D.int m) [some d, a1, some (.lst (L.map .str)), some (.lst (acc.map pairD)), x4, x5, x6, x7, a8, a9, x10, a11] = .nx [some d, a1, some (.lst (L.map .str)), some (.lst ((acc ++ (ms.map (bits L)).filter (mn rows)).map pairD)), y4, y5, y6, y7, a8, a9, y10, a11]
  | [], acc, x4, x5, x6, x7, x10, _ => ⟨x4, x5, x6, x7, x10, by simp [loopF]⟩
  | m :: ms, acc, x4, x5, x6, x7, x10, hl => by
    simp only [List.length_cons] at hl
    obtain ⟨y5, y6, y7, y10, e1⟩ := num_step (a1 := a1) (a8 := a8) (a9 := a9) (a11 := a11) hd hL hz hr m acc (by omega) x5 x6 x7 x10 x4
    obtain ⟨z4, z5, z6, z7, z10, e2⟩ := num_loop (a1 := a1) (a8 := a8) (a9 := a9) (a11 := a11) hd hL hz hr ms (if mn rows (bits L m) = true then acc ++ [bits L m] else acc) (some (.int m)) y5 y6 y7 y10 (by
      split
      · simp only [List.length_append, List.length_cons, List.length_nil]; omega
      · omega)
    refine ⟨z4, z5, z6, z7, z10, ?_⟩
    rw [List.map_cons, loopF, e1]
    simp only
    rw [e2, List.map_cons, List.filter_cons]
    cases q : mn rows (bits L m) <;> simp
theorem py_pair (l : List Str) : D.py (pairD l) = lenK (tupD l) := by
  simp [pairD, tupD, lenK, D.py, D.pys]
theorem sort_pairs {ls : List (List Str)} (h : ∀ l ∈ ls, okS l) : sortedD [.lst (ls.map pairD)] = .ok (.lst ((sortL ls).map pairD)) := by
  have e0 : D.pys (ls.map pairD) = (ls.map tupD).map lenK := by
    rw [pys_map, List.map_map, List.map_map]
    exact List.map_congr_left fun l _ => py_pair l
  have e : (ls.map pairD).mergeSort (PySem.W.dataLe false D.py) = (sortL ls).map pairD := by
    unfold sortL
    rw [List.map_mergeSort (s := PySem.W.dataLe false D.py)]
    intro a _ b _
    unfold leL
    show (!PySem.W.dataLt (lenK (tupD b)) (lenK (tupD a))) = !PySem.W.dataLt (D.py (pairD b)) (D.py (pairD a))
    rw [py_pair, py_pair]
  simp only [sortedD, sortD, e0, srt_lots h, if_true, e]
theorem seconds {i : Nat} {src : FA} {ρ : Rho} {ls : List (List Str)} (hs : src ρ = .ok (ls.map pairD)) (hi : i < ρ.length) (hl : ls.length ≤ 1000) : fComp i src fYes (f2 ixD (fVar i) (fC (.int 1))) ρ = .ok (.lst (ls.map tupD)) := by
  have big := sl_big
  have e0 : ∀ l : List Str, ixD (pairD l) (.int 1) = .ok (tupD l) := fun l => rfl
  refine fComp_ok hs (by rw [List.length_map]; omega) ?_
  clear hs hl
  induction ls with
  | nil => rfl
  | cons l r ih =>
    rw [List.map_cons, compL, ih]
    simp [R.safe, hi, e0]
/-- the law's own least lots -/
def dueL (rows : List (List Str)) (ns : List Str) : List (List Str) := sortL ((subsF (sortS ns)).filter (mn rows))
theorem law_least_eq {d e : D} {rows : List (List Str)} {ns : List Str} (hd : d = .lst (rows.map (mkD false))) (he : seqS e ns) (hn : okS ns) (hl : ns.length ≤ 6) (hr : ∀ r ∈ rows, okS r ∧ r.length ≤ sizeLine) : F__law_least [d, e] = .ok (.lst ((dueL rows ns).map tupD)) := by
  have hL := (sortS_perm ns).length_eq
  have okL := okS_sort hn
  have p64 : 2 ^ (sortS ns).length ≤ 64 := by
    rw [hL]
    exact Nat.pow_le_pow_right (by omega) hl
  have lenM : (List.range' 0 (2 ^ (sortS ns).length)).length = 2 ^ (sortS ns).length := List.length_range' ..
  obtain ⟨y4, y5, y6, y7, y10, lp⟩ := num_loop (a1 := some e) (a8 := none) (a9 := none) (a11 := none) (L := sortS ns) hd okL (by omega) hr (List.range' 0 (2 ^ (sortS ns).length)) [] none none none none none (by rw [lenM]; simp; omega)
  have hms : (List.range' 0 (2 ^ (sortS ns).length)).map (bits (sortS ns)) = subsF (sortS ns) := by rw [← List.range_eq_range', subs_bits]
  rw [List.nil_append, hms] at lp
  have e1 : shlD (.int 1) (.int ((sortS ns).length : Nat)) = .ok (.int ((2 ^ (sortS ns).length : Nat) : Int)) := by
    simp only [shlD]
    rw [if_pos ⟨by omega, by omega, by decide⟩]
    simp
  have r1 := rng_eq (2 ^ (sortS ns).length) (by omega)
  have okf : ∀ l ∈ (subsF (sortS ns)).filter (mn rows), okS l := fun l hl' => okS_sub ((subsF_mem _ l).mp (List.mem_filter.mp hl').1) okL
  have so := sort_pairs okf
  have lenD' : (dueL rows ns).length ≤ 64 := by
    have e2 : (dueL rows ns).length = ((subsF (sortS ns)).filter (mn rows)).length := (List.mergeSort_perm _ _).length_eq
    have e3 := List.length_filter_le (mn rows) (subsF (sortS ns))
    have e4 : (subsF (sortS ns)).length = 2 ^ (sortS ns).length * 1 := subsF_len (sortS ns) [[]]
    omega
  have st1 : (fRng (fCons (f2 shlD (fC (.int 1)) (fCall lenD (fCons (fVar 2) fNil))) fNil)) [some d, some e, some (.lst ((sortS ns).map .str)), some (.lst []), none, none, none, none, none, none, none, none] = .ok ((List.range' 0 (2 ^ (sortS ns).length)).map fun k : Nat => D.int k) := by
    have e2 : (fCall lenD (fCons (fVar 2) fNil)) [some d, some e, some (.lst ((sortS ns).map .str)), some (.lst []), none, none, none, none, none, none, none, none] = .ok (.int ((sortS ns).length : Nat)) := by
      rw [← List.length_map (f := D.str)]
      rfl
    rw [x_fRng, x_fCons, x_f2, x_fC, R.bind_ok, e2, R.bind_ok, e1, R.bind_ok, x_fNil, R.bind_ok, R.bind_ok, r1]
  have fin : ∀ (z4 z5 z6 z7 z10 : Option D), fComp 8 (fSeq (fCall sortedD (fCons (fVar 3) fNil))) fYes (f2 ixD (fVar 8) (fC (.int 1))) [some d, some e, some (.lst ((sortS ns).map .str)), some (.lst (((subsF (sortS ns)).filter (mn rows)).map pairD)), z4, z5, z6, z7, none, none, z10, none] = .ok (.lst ((dueL rows ns).map tupD)) := fun z4 z5 z6 z7 z10 => by
    refine seconds (ls := dueL rows ns) ?_ (by simp) (by omega)
    have e2 : (fCall sortedD (fCons (fVar 3) fNil)) [some d, some e, some (.lst ((sortS ns).map .str)), some (.lst (((subsF (sortS ns)).filter (mn rows)).map pairD)), z4, z5, z6, z7, none, none, z10, none] = sortedD [.lst (((subsF (sortS ns)).filter (mn rows)).map pairD)] := rfl
    rw [x_fSeq, e2, so]
    rfl
  have whole : G__law_least [some d, some e, none, none, none, none, none, none, none, none, none, none] = .ret (.lst ((dueL rows ns).map tupD)) := by
    have g : G__law_least = sSeq (sAsg 2 (fCall sortedD (fCons (fVar 1) fNil))) (sSeq (sAsg 3 (fLst fNil)) (sSeq (sFor 4 (fRng (fCons (f2 shlD (fC (.int 1)) (fCall lenD (fCons (fVar 2) fNil))) fNil)) (numG bitF)) (sRet (fComp 8 (fSeq (fCall sortedD (fCons (fVar 3) fNil))) fYes (f2 ixD (fVar 8) (fC (.int 1))))))) := rfl
    have s1 : (fCall sortedD (fCons (fVar 1) fNil)) [some d, some e, none, none, none, none, none, none, none, none, none, none] = .ok (.lst ((sortS ns).map .str)) := by
      rw [← sorted_eq he hn]
      rfl
    have s2 : ∀ ρ, (fLst fNil) ρ = .ok (.lst []) := fun ρ => by simp
    rw [g, x_sSeq, x_sAsg, x_sDo, s1]
    show (sSeq (sAsg 3 (fLst fNil)) _) [some d, some e, some (.lst ((sortS ns).map .str)), none, none, none, none, none, none, none, none, none] = _
    rw [x_sSeq, x_sAsg, x_sDo, s2]
    show (sSeq (sFor 4 _ (numG bitF)) _) [some d, some e, some (.lst ((sortS ns).map .str)), some (.lst []), none, none, none, none, none, none, none, none] = _
    rw [x_sSeq, x_sFor, st1]
    have lp' : loopF (numG bitF) 4 ((List.range' 0 (2 ^ (sortS ns).length)).map fun m : Nat => D.int m) [some d, some e, some (.lst ((sortS ns).map .str)), some (.lst []), none, none, none, none, none, none, none, none] = _ := lp
    simp only [lp']
    rw [x_sRet, fin]
  have run : F__law_least [d, e] = (match G__law_least [some d, some e, none, none, none, none, none, none, none, none, none, none] with
    | .ret d => .ok d
    | .nx _ => .ok .non
    | .exc c fs _ => .exc c fs
    | _ => .bad) := by
    show runF .sh 12 G__law_least [d, e] = _
    rw [x_runF]
    rfl
  rw [run, whole]
end M55
end
section
set_option maxRecDepth 100000
set_option maxHeartbeats 2000000
open PySem PySem.Spec L2 T2
namespace M55
theorem lay_tups : ∀ {ls : List (List Str)}, (∀ l ∈ ls, okS l) → PyData.canLayAll0 (D.pys (ls.map tupD)) = true ∧ PyData.depthAll (D.pys (ls.map tupD)) ≤ 1
  | [], _ => by simp [D.pys, PyData.canLayAll0, PyData.depthAll]
  | l :: r, h => by
    obtain ⟨h1, h2⟩ := lay_tups (ls := r) fun x hx => h x (List.mem_cons_of_mem _ hx)
    have hl := lay_strs (h l List.mem_cons_self)
    constructor
    · simp [D.pys, PyData.canLayAll0, h1, tupD, D.py, PyData.canLay0, hl]
    · simp only [List.map_cons, D.pys, PyData.depthAll, tupD, D.py, PyData.depth, dep_strs]
      have h2' : PyData.depthAll (D.pys (r.map fun l => D.tup (l.map .str))) ≤ 1 := h2
      omega
theorem ok_tups {ls : List (List Str)} (h : ∀ l ∈ ls, okS l) : D.ok (.lst (ls.map tupD)) = true := by
  obtain ⟨h1, h2⟩ := lay_tups h
  unfold D.ok SeqAt.shaped
  rw [Bool.and_eq_true]
  constructor
  · simp [D.py, PyData.canLay0, h1]
  · simp only [D.py, PyData.depth, decide_eq_true_eq]
    omega
theorem any_tups {x : List Str} : ∀ (ls : List (List Str)), ((D.pys (ls.map tupD)).any fun z => PyData.eqv z (D.py (tupD x))) = decide (x ∈ ls)
  | [] => rfl
  | l :: r => by
    rw [List.map_cons, D.pys, List.any_cons, any_tups r]
    have e : PyData.eqv (D.py (tupD l)) (D.py (tupD x)) = decide (l = x) := by
      simp only [tupD, D.py, PyData.eqv]
      exact pys_strs_inj
    rw [e]
    by_cases h : l = x
    · subst h; simp
    · have h' : ¬ x = l := fun z => h z.symm
      simp [h, h']
theorem nin_tups {x : List Str} {ls : List (List Str)} (hx : okS x) (h : ∀ l ∈ ls, okS l) : ninE (tupD x) (.lst (ls.map tupD)) = .ok (.bl (!decide (x ∈ ls))) := by
  show ninD (.tup (x.map .str)) (.lst (ls.map tupD)) = _
  have e : ((D.pys (ls.map tupD)).any fun z => PyData.eqv z (D.py (.tup (x.map .str)))) = decide (x ∈ ls) := any_tups ls
  simp only [ninD, inB]
  rw [if_pos ⟨ok_strsT hx, ok_tups h⟩, e]
/-- the rows as sets -/
def rset (L r : List Str) : List Str := L.filter fun x => decide (x ∈ r)
def addU (acc : List (List Str)) (x : List Str) : List (List Str) := if x ∈ acc then acc else acc ++ [x]
noncomputable def uG (fc : FE) : FS := sSeq (sAsg 6 (fCall tupleD (fCons fc fNil))) (sIf (fTst (f2 ninE (fVar 6) (fVar 3))) (sApp 3 (fVar 6)) sSkip)
def uF : FE := fComp 10 (fSeq (fVar 2)) (fTst (f2 inE (fVar 10) (fVar 4))) (fVar 10)
theorem u_gen {fc : FE} {a0 a1 a2 a4 a5 a6 a7 a8 a9 a10 : Option D} {acc : List (List Str)} {x : List Str} (hc : fc [a0, a1, a2, some (.lst (acc.map tupD)), a4, a5, a6, a7, a8, a9, a10] = .ok (.lst (x.map .str))) (hx : okS x) (h : ∀ l ∈ acc, okS l) (hz : acc.length < 1000) :
    uG fc [a0, a1, a2, some (.lst (acc.map tupD)), a4, a5, a6, a7, a8, a9, a10] = .nx [a0, a1, a2, some (.lst ((addU acc x).map tupD)), a4, a5, some (tupD x), a7, a8, a9, a10] := by
  have big := sl_big
  have e4 : tupleD [.lst (x.map .str)] = .ok (tupD x) := rfl
  have e5 := nin_tups hx h
  have e3 : acc.length < sizeLine := by omega
  unfold uG addU
  simp only [x_sSeq, x_sAsg, x_sDo, x_fCall, x_fCons, x_fNil, hc, R.bind_ok, e4, List.set_cons_succ, List.set_cons_zero, x_sIf, x_fTst, x_f2, x_fVar, List.getElem?_cons_succ, List.getElem?_cons_zero, e5, x_asB]
  by_cases hm : x ∈ acc
  · simp [hm]
  · simp [hm, sApp, e3]
theorem u_loop {d e : D} {b : Bool} {L : List Str} (hL : okS L) (hz : L.length ≤ 6) : ∀ (rows acc : List (List Str)) (x4 x6 : Option D), (∀ r ∈ rows, okS r) → (∀ l ∈ acc, okS l) → acc.length + rows.length ≤ 200 → ∃ y4 y6,
    loopF (uG uF) 4 (rows.map (mkD b)) [some d, some e, some (.lst (L.map .str)), some (.lst (acc.map tupD)), x4, none, x6, none, none, none, none] = .nx [some d, some e, some (.lst (L.map .str)), some (.lst ((rows.foldl (fun a r => addU a (rset L r)) acc).map tupD)), y4, none, y6, none, none, none, none]
  | [], acc, x4, x6, _, _, _ => ⟨x4, x6, rfl⟩
  | r :: rows, acc, x4, x6, hr, ha, hl => by
    simp only [List.length_cons] at hl
    have big := sl_big
    have c : uF [some d, some e, some (.lst (L.map .str)), some (.lst (acc.map tupD)), some (mkD b r), none, x6, none, none, none, none] = .ok (.lst ((rset L r).map .str)) := by
      unfold uF rset
      exact comp_strs (d := .lst (L.map .str)) (ws := L) (fun w => decide (w ∈ r)) (by simp) (.inl rfl) (by omega) (by simp) (fun w hw => by simp [in_seq (mkD_seq b r) (hr r List.mem_cons_self) (hL w hw)])
    have okx : okS (rset L r) := fun w hw => hL w (List.mem_filter.mp hw).1
    have st := u_gen c okx ha (by omega)
    have okA : ∀ l ∈ addU acc (rset L r), okS l := fun l hl' => by
      unfold addU at hl'
      split at hl'
      · exact ha l hl'
      · rcases List.mem_append.mp hl' with h | h
        · exact ha l h
        · rw [List.mem_singleton.mp h]; exact okx
    have lenA : (addU acc (rset L r)).length ≤ acc.length + 1 := by
      unfold addU
      split
      · omega
      · simp
    obtain ⟨y4, y6, e2⟩ := u_loop (d := d) (e := e) (b := b) hL hz rows (addU acc (rset L r)) (some (mkD b r)) (some (tupD (rset L r))) (fun r' hr' => hr r' (List.mem_cons_of_mem _ hr')) okA (by omega)
    refine ⟨y4, y6, ?_⟩
    rw [List.map_cons, loopF]
    show (match uG uF [some d, some e, some (.lst (L.map .str)), some (.lst (acc.map tupD)), some (mkD b r), none, x6, none, none, none, none] with
      | .nx ρ' => loopF (uG uF) 4 (rows.map (mkD b)) ρ'
      | .ct ρ' => loopF (uG uF) 4 (rows.map (mkD b)) ρ'
      | .bk ρ' => .nx ρ'
      | .ret r => .ret r
      | .exc c fs ρ' => .exc c fs ρ'
      | .bad => .bad) = _
    rw [st]
    exact e2
/-! how many are less -/
def cntL (lot : List Str) : List (List Str) → Nat
  | [] => 0
  | o :: r => (if lessB lot o = true then 1 else 0) + cntL lot r
theorem cntL0 (lot : List Str) : ∀ ls : List (List Str), decide (cntL lot ls = 0) = !ls.any (lessB lot)
  | [] => rfl
  | o :: r => by
    rw [List.any_cons, cntL]
    have ih := cntL0 lot r
    cases q : lessB lot o with
    | true => simp
    | false => simpa using ih
noncomputable def lG (fc : FE) : FS := sIf (fAndT (fTst (f2 neD (fVar 8) (fVar 6))) (fTst (f2 eqD (fCall lenD (fCons fc fNil)) (fC (.int 0))))) (sAsg 7 (f2 addD (fVar 7) (fC (.int 1)))) sSkip
def lF : FE := fComp 10 (fSeq (fVar 8)) (fTst (f2 ninE (fVar 10) (fVar 6))) (fVar 10)
theorem notIn0 (lot : List Str) : ∀ o : List Str, decide (((o.filter fun x => !decide (x ∈ lot)).length : Int) = 0) = o.all fun x => decide (x ∈ lot) := fun o => by
  induction o with
  | nil => rfl
  | cons x r ih =>
    rw [List.all_cons, List.filter_cons]
    by_cases h : x ∈ lot
    · simp only [h, decide_true, Bool.not_true, Bool.true_and]
      exact ih
    · simp [h]
      omega
theorem l_gen {fc : FE} {a0 a1 a2 a3 a4 a5 a9 a10 : Option D} {lot o : List Str} {n : Nat} (hc : fc [a0, a1, a2, a3, a4, a5, some (tupD lot), some (.int n), some (tupD o), a9, a10] = .ok (.lst ((o.filter fun x => !decide (x ∈ lot)).map .str))) (hl : okS lot) (ho : okS o) :
    lG fc [a0, a1, a2, a3, a4, a5, some (tupD lot), some (.int n), some (tupD o), a9, a10] = .nx [a0, a1, a2, a3, a4, a5, some (tupD lot), some (.int ((n + (if lessB lot o = true then 1 else 0) : Nat) : Int)), some (tupD o), a9, a10] := by
  have e1 : neD (tupD o) (tupD lot) = .ok (.bl (decide (o ≠ lot))) := ne_tup ho hl
  unfold lG lessB
  simp only [x_sIf, x_fAndT, x_fTst, x_f2, x_fC, x_fCall, x_fCons, x_fNil, x_fVar, List.getElem?_cons_succ, List.getElem?_cons_zero, R.bind_ok, e1, x_asB, hc, len_lst, List.length_map, eq_int, notIn0]
  by_cases h : o = lot
  · simp [h]
  · cases q : o.all fun x => decide (x ∈ lot) with
    | true => simp [h, addD]
    | false => simp [h]
theorem l_loop {a0 a1 a2 a3 a4 a5 a9 a10 : Option D} {lot : List Str} (hl : okS lot) : ∀ (os : List (List Str)) (n : Nat) (x8 : Option D), (∀ o ∈ os, okS o ∧ o.length ≤ 1000) → ∃ y8,
    loopF (lG lF) 8 (os.map tupD) [a0, a1, a2, a3, a4, a5, some (tupD lot), some (.int n), x8, a9, a10] = .nx [a0, a1, a2, a3, a4, a5, some (tupD lot), some (.int ((n + cntL lot os : Nat) : Int)), y8, a9, a10]
  | [], n, x8, _ => ⟨x8, by simp [loopF, cntL]⟩
  | o :: os, n, x8, h => by
    have big := sl_big
    obtain ⟨ho, hz⟩ := h o List.mem_cons_self
    have c : lF [a0, a1, a2, a3, a4, a5, some (tupD lot), some (.int n), some (tupD o), a9, a10] = .ok (.lst ((o.filter fun x => !decide (x ∈ lot)).map .str)) := by
      unfold lF
      exact comp_strs (d := tupD o) (ws := o) (fun w => !decide (w ∈ lot)) (by simp) (tupD_seq o) (by omega) (by simp) (fun w hw => by simp [nin_seq (tupD_seq lot) hl (ho w hw)])
    have st := l_gen c hl ho
    obtain ⟨y8, e2⟩ := l_loop (a0 := a0) (a1 := a1) (a2 := a2) (a3 := a3) (a4 := a4) (a5 := a5) (a9 := a9) (a10 := a10) hl os (n + (if lessB lot o = true then 1 else 0)) (some (tupD o)) fun o' ho' => h o' (List.mem_cons_of_mem _ ho')
    refine ⟨y8, ?_⟩
    rw [List.map_cons, loopF]
    show (match lG lF [a0, a1, a2, a3, a4, a5, some (tupD lot), some (.int n), some (tupD o), a9, a10] with
      | .nx ρ' => loopF (lG lF) 8 (os.map tupD) ρ'
      | .ct ρ' => loopF (lG lF) 8 (os.map tupD) ρ'
      | .bk ρ' => .nx ρ'
      | .ret r => .ret r
      | .exc c fs ρ' => .exc c fs ρ'
      | .bad => .bad) = _
    rw [st, cntL, ← Nat.add_assoc]
    exact e2

noncomputable def tG : FS := sSeq (sAsg 7 (fC (.int 0))) (sSeq (sFor 8 (fSeq (fVar 3)) (lG lF)) (sIf (fTst (f2 eqD (fVar 7) (fC (.int 0)))) (sApp 5 (fTup (fCons (fCall lenD (fCons (fVar 6) fNil)) (fCons (fVar 6) fNil)))) sSkip))
theorem t_step {a0 a1 a2 a4 a7 a8 a9 a10 : Option D} {us acc : List (List Str)} {lot : List Str} (hl : okS lot) (hu : ∀ o ∈ us, okS o ∧ o.length ≤ 1000) (ha : acc.length < 1000) : ∃ y7 y8,
    tG [a0, a1, a2, some (.lst (us.map tupD)), a4, some (.lst (acc.map pairD)), some (tupD lot), a7, a8, a9, a10] = .nx [a0, a1, a2, some (.lst (us.map tupD)), a4, some (.lst ((if leastB us lot = true then acc ++ [lot] else acc).map pairD)), some (tupD lot), y7, y8, a9, a10] := by
  have big := sl_big
  obtain ⟨y8, lp⟩ := l_loop (a0 := a0) (a1 := a1) (a2 := a2) (a3 := some (.lst (us.map tupD))) (a4 := a4) (a5 := some (.lst (acc.map pairD))) (a9 := a9) (a10 := a10) hl us 0 a8 hu
  rw [Nat.zero_add] at lp
  have e0 : leastB us lot = decide (cntL lot us = 0) := by unfold leastB; rw [cntL0]
  have e1 : (((cntL lot us : Nat) : Int) = 0) = (cntL lot us = 0) := propext ⟨fun h => by omega, fun h => by omega⟩
  have e2 : (2 : Nat) ≤ sizeLine := by omega
  have e3 : acc.length < sizeLine := by omega
  have e4 : lenD [tupD lot] = .ok (.int lot.length) := len_seq (tupD_seq lot)
  refine ⟨some (.int ((cntL lot us : Nat) : Int)), y8, ?_⟩
  unfold tG
  simp only [x_sSeq, x_sAsg, x_sDo, x_sIf, x_sFor, x_fSeq, x_fTst, x_f2, x_fC, x_fVar, List.set_cons_succ, List.set_cons_zero, List.getElem?_cons_succ, List.getElem?_cons_zero, R.bind_ok, x_seq_lst, show (some (D.int 0)) = some (.int ((0 : Nat) : Int)) from rfl, lp, eq_int, x_asB]
  rw [e0]
  by_cases h : cntL lot us = 0
  · simp [h, sApp, e4, e2, e3, pairD]
  · simp [h, e1]
theorem t_loop {a0 a1 a2 a4 a9 a10 : Option D} {us : List (List Str)} (hu : ∀ o ∈ us, okS o ∧ o.length ≤ 1000) : ∀ (ls acc : List (List Str)) (x6 x7 x8 : Option D), (∀ l ∈ ls, okS l) → acc.length + ls.length ≤ 500 → ∃ y6 y7 y8,
    loopF tG 6 (ls.map tupD) [a0, a1, a2, some (.lst (us.map tupD)), a4, some (.lst (acc.map pairD)), x6, x7, x8, a9, a10] = .nx [a0, a1, a2, some (.lst (us.map tupD)), a4, some (.lst ((acc ++ ls.filter (leastB us)).map pairD)), y6, y7, y8, a9, a10]
  | [], acc, x6, x7, x8, _, _ => ⟨x6, x7, x8, by simp [loopF]⟩
  | l :: ls, acc, x6, x7, x8, h, hz => by
    simp only [List.length_cons] at hz
    obtain ⟨y7, y8, st⟩ := t_step (a0 := a0) (a1 := a1) (a2 := a2) (a4 := a4) (a7 := x7) (a8 := x8) (a9 := a9) (a10 := a10) (acc := acc) (h l List.mem_cons_self) hu (by omega)
    obtain ⟨z6, z7, z8, e2⟩ := t_loop (a0 := a0) (a1 := a1) (a2 := a2) (a4 := a4) (a9 := a9) (a10 := a10) hu ls (if leastB us l = true then acc ++ [l] else acc) (some (tupD l)) y7 y8 (fun l' hl' => h l' (List.mem_cons_of_mem _ hl')) (by
      split
      · simp only [List.length_append, List.length_cons, List.length_nil]; omega
      · omega)
    refine ⟨z6, z7, z8, ?_⟩
    rw [List.map_cons, loopF]
    show (match tG [a0, a1, a2, some (.lst (us.map tupD)), a4, some (.lst (acc.map pairD)), some (tupD l), x7, x8, a9, a10] with
      | .nx ρ' => loopF tG 6 (ls.map tupD) ρ'
      | .ct ρ' => loopF tG 6 (ls.map tupD) ρ'
      | .bk ρ' => .nx ρ'
      | .ret r => .ret r
      | .exc c fs ρ' => .exc c fs ρ'
      | .bad => .bad) = _
    rw [st]
    simp only
    rw [e2, List.filter_cons]
    cases leastB us l <;> simp
def uniq (L : List Str) (rows : List (List Str)) : List (List Str) := rows.foldl (fun a r => addU a (rset L r)) []
def leastR (rows : List (List Str)) (ns : List Str) : List (List Str) := sortL ((uniq (sortS ns) rows).filter (leastB (uniq (sortS ns) rows)))
theorem uniq_len (L : List Str) : ∀ (rows acc : List (List Str)), (rows.foldl (fun a r => addU a (rset L r)) acc).length ≤ acc.length + rows.length
  | [], acc => by simp
  | r :: rows, acc => by
    rw [List.foldl_cons]
    have := uniq_len L rows (addU acc (rset L r))
    have l2 : (addU acc (rset L r)).length ≤ acc.length + 1 := by
      unfold addU
      split
      · omega
      · simp
    simp only [List.length_cons]
    omega
theorem uniq_mem (L : List Str) (x : List Str) : ∀ (rows acc : List (List Str)), x ∈ rows.foldl (fun a r => addU a (rset L r)) acc ↔ x ∈ acc ∨ ∃ r ∈ rows, x = rset L r
  | [], acc => by simp
  | r :: rows, acc => by
    rw [List.foldl_cons, uniq_mem L x rows]
    have h : x ∈ addU acc (rset L r) ↔ x ∈ acc ∨ x = rset L r := by
      unfold addU
      split
      · rename_i hm
        constructor
        · exact .inl
        · rintro (h | rfl)
          · exact h
          · exact hm
      · simp
    rw [h]
    simp only [List.mem_cons, exists_eq_or_imp]
    rw [or_assoc]
theorem uniq_nodup (L : List Str) : ∀ (rows acc : List (List Str)), acc.Nodup → (rows.foldl (fun a r => addU a (rset L r)) acc).Nodup
  | [], acc, h => h
  | r :: rows, acc, h => by
    rw [List.foldl_cons]
    refine uniq_nodup L rows _ ?_
    unfold addU
    split
    · exact h
    · rename_i hm
      rw [List.nodup_append]
      exact ⟨h, by simp, fun a ha b hb => by
        rw [List.mem_singleton.mp hb]
        intro e
        exact hm (e ▸ ha)⟩
theorem law_least_rows_eq {d e : D} {b : Bool} {rows : List (List Str)} {ns : List Str} (hd : d = .lst (rows.map (mkD b))) (he : seqS e ns) (hn : okS ns) (hl : ns.length ≤ 6) (hr : ∀ r ∈ rows, okS r) (hz : rows.length ≤ 64) : F__law_least_rows [d, e] = .ok (.lst ((leastR rows ns).map tupD)) := by
  have hL := (sortS_perm ns).length_eq
  have okL := okS_sort hn
  have okU : ∀ o ∈ uniq (sortS ns) rows, okS o ∧ o.length ≤ 1000 := fun o ho => by
    rcases (uniq_mem (sortS ns) o rows []).mp ho with h | ⟨r, _, rfl⟩
    · cases h
    · refine ⟨fun w hw => okL w (List.mem_filter.mp hw).1, ?_⟩
      have := List.length_filter_le (fun x => decide (x ∈ r)) (sortS ns)
      unfold rset
      omega
  have lenU : (uniq (sortS ns) rows).length ≤ 64 := by
    have := uniq_len (sortS ns) rows []
    simp only [List.length_nil] at this
    unfold uniq
    omega
  obtain ⟨y4, y6, lp1⟩ := u_loop (d := d) (e := e) (b := b) okL (by omega) rows [] none none hr (fun _ h => nomatch h) (by simp; omega)
  obtain ⟨z6, z7, z8, lp2⟩ := t_loop (a0 := some d) (a1 := some e) (a2 := some (.lst ((sortS ns).map .str))) (a4 := y4) (a9 := none) (a10 := none) okU (uniq (sortS ns) rows) [] y6 none none (fun l hl' => (okU l hl').1) (by simp; omega)
  rw [List.nil_append] at lp2
  have okf : ∀ l ∈ (uniq (sortS ns) rows).filter (leastB (uniq (sortS ns) rows)), okS l := fun l hl' => (okU l (List.mem_filter.mp hl').1).1
  have so := sort_pairs okf
  have lenD' : (leastR rows ns).length ≤ 64 := by
    have e2 : (leastR rows ns).length = ((uniq (sortS ns) rows).filter (leastB (uniq (sortS ns) rows))).length := (List.mergeSort_perm _ _).length_eq
    have e3 := List.length_filter_le (leastB (uniq (sortS ns) rows)) (uniq (sortS ns) rows)
    omega
  have fin : fComp 9 (fSeq (fCall sortedD (fCons (fVar 5) fNil))) fYes (f2 ixD (fVar 9) (fC (.int 1))) [some d, some e, some (.lst ((sortS ns).map .str)), some (.lst ((uniq (sortS ns) rows).map tupD)), y4, some (.lst (((uniq (sortS ns) rows).filter (leastB (uniq (sortS ns) rows))).map pairD)), z6, z7, z8, none, none] = .ok (.lst ((leastR rows ns).map tupD)) := by
    refine seconds (ls := leastR rows ns) ?_ (by simp) (by omega)
    have e2 : (fCall sortedD (fCons (fVar 5) fNil)) [some d, some e, some (.lst ((sortS ns).map .str)), some (.lst ((uniq (sortS ns) rows).map tupD)), y4, some (.lst (((uniq (sortS ns) rows).filter (leastB (uniq (sortS ns) rows))).map pairD)), z6, z7, z8, none, none] = sortedD [.lst (((uniq (sortS ns) rows).filter (leastB (uniq (sortS ns) rows))).map pairD)] := rfl
    rw [x_fSeq, e2, so]
    rfl
  have whole : G__law_least_rows [some d, some e, none, none, none, none, none, none, none, none, none] = .ret (.lst ((leastR rows ns).map tupD)) := by
    have g : G__law_least_rows = sSeq (sAsg 2 (fCall sortedD (fCons (fVar 1) fNil))) (sSeq (sAsg 3 (fLst fNil)) (sSeq (sFor 4 (fSeq (fVar 0)) (uG uF)) (sSeq (sAsg 5 (fLst fNil)) (sSeq (sFor 6 (fSeq (fVar 3)) tG) (sRet (fComp 9 (fSeq (fCall sortedD (fCons (fVar 5) fNil))) fYes (f2 ixD (fVar 9) (fC (.int 1))))))))) := rfl
    have s1 : (fCall sortedD (fCons (fVar 1) fNil)) [some d, some e, none, none, none, none, none, none, none, none, none] = .ok (.lst ((sortS ns).map .str)) := by
      rw [← sorted_eq he hn]
      rfl
    have s2 : ∀ ρ, (fLst fNil) ρ = .ok (.lst []) := fun ρ => by simp
    have s3 : ∀ a1 a2 a3 a4 a5 a6 a7 a8 a9 a10 : Option D, (fSeq (fVar 0)) [some d, a1, a2, a3, a4, a5, a6, a7, a8, a9, a10] = .ok (rows.map (mkD b)) := fun _ _ _ _ _ _ _ _ _ _ => by rw [hd]; rfl
    have s4 : ∀ a0 a1 a2 a4 a5 a6 a7 a8 a9 a10 : Option D, (fSeq (fVar 3)) [a0, a1, a2, some (.lst ((uniq (sortS ns) rows).map tupD)), a4, a5, a6, a7, a8, a9, a10] = .ok ((uniq (sortS ns) rows).map tupD) := fun _ _ _ _ _ _ _ _ _ _ => rfl
    have lp1' : loopF (uG uF) 4 (rows.map (mkD b)) [some d, some e, some (.lst ((sortS ns).map .str)), some (.lst []), none, none, none, none, none, none, none] = .nx [some d, some e, some (.lst ((sortS ns).map .str)), some (.lst ((uniq (sortS ns) rows).map tupD)), y4, none, y6, none, none, none, none] := lp1
    have lp2' : loopF tG 6 ((uniq (sortS ns) rows).map tupD) [some d, some e, some (.lst ((sortS ns).map .str)), some (.lst ((uniq (sortS ns) rows).map tupD)), y4, some (.lst []), y6, none, none, none, none] = _ := lp2
    rw [g, x_sSeq, x_sAsg, x_sDo, s1]
    show (sSeq (sAsg 3 (fLst fNil)) _) [some d, some e, some (.lst ((sortS ns).map .str)), none, none, none, none, none, none, none, none] = _
    rw [x_sSeq, x_sAsg, x_sDo, s2]
    show (sSeq (sFor 4 _ (uG uF)) _) [some d, some e, some (.lst ((sortS ns).map .str)), some (.lst []), none, none, none, none, none, none, none] = _
    rw [x_sSeq, x_sFor, s3]
    simp only [lp1']
    rw [x_sSeq, x_sAsg, x_sDo, s2]
    show (sSeq (sFor 6 _ tG) _) [some d, some e, some (.lst ((sortS ns).map .str)), some (.lst ((uniq (sortS ns) rows).map tupD)), y4, some (.lst []), y6, none, none, none, none] = _
    rw [x_sSeq, x_sFor, s4]
    simp only [lp2']
    rw [x_sRet, fin]
  have run : F__law_least_rows [d, e] = (match G__law_least_rows [some d, some e, none, none, none, none, none, none, none, none, none] with
    | .ret d => .ok d
    | .nx _ => .ok .non
    | .exc c fs _ => .exc c fs
    | _ => .bad) := by
    show runF .sh 11 G__law_least_rows [d, e] = _
    rw [x_runF]
    rfl
  rw [run, whole]
end M55
end
section
set_option maxRecDepth 100000
set_option maxHeartbeats 2000000
open PySem PySem.Spec L2 T2
namespace M55
/-! ### the order -/
theorem toks_inj : ∀ (xs ys : List Str) (t u : List (Int ⊕ List Nat)), PySem.W.keyToksAll (D.pys (xs.map .str)) ++ t = PySem.W.keyToksAll (D.pys (ys.map .str)) ++ u → xs = ys
  | [], [], _, _, _ => rfl
  | [], y :: ys, t, u, h => by
    simp only [List.map_nil, List.map_cons, D.pys, PySem.W.keyToksAll, List.cons_append] at h
    injection h with h1
    exact absurd h1 (by decide)
  | x :: xs, [], t, u, h => by
    simp only [List.map_nil, List.map_cons, D.pys, PySem.W.keyToksAll, List.cons_append] at h
    injection h with h1
    exact absurd h1 (by decide)
  | x :: xs, y :: ys, t, u, h => by
    simp only [List.map_cons, D.pys, PySem.W.keyToksAll, D.py, PySem.W.keyToks, List.cons_append, List.nil_append] at h
    injection h with _ h
    injection h with h1 h2
    have h3 : x.cps.toList = y.cps.toList := Sum.inr.inj h1
    rw [PySem.W.str_of_cps h3, toks_inj xs ys t u h2]
theorem keyL_inj {a b : List Str} (h : PySem.W.keyToks (lenK (tupD a)) = PySem.W.keyToks (lenK (tupD b))) : a = b := by
  unfold tupD lenK at h
  simp only [PySem.W.keyToks, PySem.W.keyToksAll, List.cons_append, List.nil_append] at h
  injection h with _ h
  injection h with _ h
  injection h with _ h
  exact toks_inj a b _ _ h
theorem leL_anti {a b : List Str} (h1 : leL a b = true) (h2 : leL b a = true) : a = b := by
  have e1 : PySem.W.dataLt (lenK (tupD b)) (lenK (tupD a)) = false := by simpa [leL, PySem.W.dataLe_eq] using h1
  have e2 : PySem.W.dataLt (lenK (tupD a)) (lenK (tupD b)) = false := by simpa [leL, PySem.W.dataLe_eq] using h2
  exact keyL_inj (PyProof.Rows.lex_total (O := PyProof.Rows.itemOrd) _ _ e2 e1)
theorem leL_total (a b : List Str) : (leL a b || leL b a) = true := by
  cases h : PySem.W.dataLt (lenK (tupD b)) (lenK (tupD a)) with
  | false => simp [leL, PySem.W.dataLe_eq, h]
  | true =>
    cases h2 : PySem.W.dataLt (lenK (tupD a)) (lenK (tupD b)) with
    | false => simp [leL, PySem.W.dataLe_eq, h2]
    | true =>
      have := PyProof.Rows.lex_trans (O := PyProof.Rows.itemOrd) _ _ _ h h2
      rw [PyProof.Rows.lex_irrefl (O := PyProof.Rows.itemOrd)] at this
      cases this
theorem leL_trans (a b c : List Str) (h1 : leL a b = true) (h2 : leL b c = true) : leL a c = true := by
  have e1 : PySem.W.dataLt (lenK (tupD b)) (lenK (tupD a)) = false := by simpa [leL, PySem.W.dataLe_eq] using h1
  have e2 : PySem.W.dataLt (lenK (tupD c)) (lenK (tupD b)) = false := by simpa [leL, PySem.W.dataLe_eq] using h2
  cases h : PySem.W.dataLt (lenK (tupD c)) (lenK (tupD a)) with
  | false => simp [leL, PySem.W.dataLe_eq, h]
  | true =>
    rcases PyProof.Rows.lex_negTrans (O := PyProof.Rows.itemOrd) _ (PySem.W.keyToks (lenK (tupD b))) _ h with h | h
    · exact absurd (show PySem.W.dataLt (lenK (tupD c)) (lenK (tupD b)) = true from h) (by rw [e2]; decide)
    · exact absurd (show PySem.W.dataLt (lenK (tupD b)) (lenK (tupD a)) = true from h) (by rw [e1]; decide)
theorem sortL_pair (ls : List (List Str)) : (sortL ls).Pairwise fun a b => leL a b = true := List.pairwise_mergeSort leL_trans leL_total ls
/-- what is in order and has the same lots is the sorted row -/
theorem sortL_uniq {a b : List (List Str)} (ha : a.Pairwise fun x y => leL x y = true) (p : a.Perm b) : a = sortL b :=
  List.Perm.eq_of_pairwise (le := fun x y => leL x y = true) (fun x y _ _ h1 h2 => leL_anti h1 h2) ha (sortL_pair b) (p.trans (List.mergeSort_perm b leL).symm)
theorem sortL_perm {a b : List (List Str)} (p : a.Perm b) : sortL a = sortL b := sortL_uniq (sortL_pair a) ((List.mergeSort_perm a leL).trans p)
theorem leS_anti {a b : Str} (h1 : leS a b = true) (h2 : leS b a = true) : a = b := by
  have e1 : PySem.W.dataLt (.str b) (.str a) = false := by simpa [leS, PySem.W.dataLe_eq] using h1
  have e2 : PySem.W.dataLt (.str a) (.str b) = false := by simpa [leS, PySem.W.dataLe_eq] using h2
  have := PyProof.Rows.lex_total (O := PyProof.Rows.itemOrd) _ _ e2 e1
  simp only [PySem.W.keyToks, List.cons.injEq, Sum.inr.injEq, and_true] at this
  exact PySem.W.str_of_cps this
theorem leS_total (a b : Str) : (leS a b || leS b a) = true := by
  cases h : PySem.W.dataLt (.str b) (.str a) with
  | false => simp [leS, PySem.W.dataLe_eq, h]
  | true =>
    cases h2 : PySem.W.dataLt (.str a) (.str b) with
    | false => simp [leS, PySem.W.dataLe_eq, h2]
    | true =>
      have := PyProof.Rows.lex_trans (O := PyProof.Rows.itemOrd) _ _ _ h h2
      rw [PyProof.Rows.lex_irrefl (O := PyProof.Rows.itemOrd)] at this
      cases this
theorem leS_trans (a b c : Str) (h1 : leS a b = true) (h2 : leS b c = true) : leS a c = true := by
  have e1 : PySem.W.dataLt (.str b) (.str a) = false := by simpa [leS, PySem.W.dataLe_eq] using h1
  have e2 : PySem.W.dataLt (.str c) (.str b) = false := by simpa [leS, PySem.W.dataLe_eq] using h2
  cases h : PySem.W.dataLt (.str c) (.str a) with
  | false => simp [leS, PySem.W.dataLe_eq, h]
  | true =>
    rcases PyProof.Rows.lex_negTrans (O := PyProof.Rows.itemOrd) _ (PySem.W.keyToks (.str b)) _ h with h | h
    · exact absurd (show PySem.W.dataLt (.str c) (.str b) = true from h) (by rw [e2]; decide)
    · exact absurd (show PySem.W.dataLt (.str b) (.str a) = true from h) (by rw [e1]; decide)
theorem sortS_eq {a b : List Str} (p : a.Perm b) : sortS a = sortS b :=
  List.Perm.eq_of_pairwise (le := fun x y => leS x y = true) (fun x y _ _ h1 h2 => leS_anti h1 h2) (List.pairwise_mergeSort leS_trans leS_total a) (List.pairwise_mergeSort leS_trans leS_total b)
    ((List.mergeSort_perm a leS).trans (p.trans (List.mergeSort_perm b leS).symm))
/-! ### parts of a row -/
theorem filter_sub {a L : List Str} (h : a.Sublist L) (nd : L.Nodup) : L.filter (fun x => decide (x ∈ a)) = a := by
  induction h with
  | slnil => rfl
  | @cons l₁ l₂ x h ih =>
    rw [List.nodup_cons] at nd
    have hx : x ∉ l₁ := fun z => nd.1 (h.subset z)
    rw [List.filter_cons, if_neg (by simpa using hx)]
    exact ih nd.2
  | @cons_cons l₁ l₂ x h ih =>
    rw [List.nodup_cons] at nd
    rw [List.filter_cons, if_pos (by simp)]
    congr 1
    rw [← ih nd.2]
    refine List.filter_congr fun y hy => ?_
    have hne : y ≠ x := fun z => nd.1 (z ▸ hy)
    rw [ih nd.2]
    simp [hne]
theorem sub_ext {a b L : List Str} (ha : a.Sublist L) (hb : b.Sublist L) (nd : L.Nodup) (h : ∀ x, x ∈ a ↔ x ∈ b) : a = b := by
  rw [← filter_sub ha nd, ← filter_sub hb nd]
  exact List.filter_congr fun x _ => by simp [h x]
theorem hit1_iff {l r : List Str} : hit1 l r = true ↔ ∃ x ∈ r, x ∈ l := by
  unfold hit1
  simp
theorem hits_iff {rows : List (List Str)} {l : List Str} : hits rows l = true ↔ ∀ r ∈ rows, ∃ x ∈ r, x ∈ l := by
  unfold hits
  simp only [List.all_eq_true, hit1_iff]
theorem hits_mono {rows : List (List Str)} {a b : List Str} (h : ∀ x ∈ a, x ∈ b) (ha : hits rows a = true) : hits rows b = true := by
  rw [hits_iff] at ha ⊢
  intro r hr
  obtain ⟨x, h1, h2⟩ := ha r hr
  exact ⟨x, h1, h x h2⟩
theorem without_mem {l : List Str} {w x : Str} : x ∈ without l w ↔ x ∈ l ∧ x ≠ w := by
  unfold without
  simp [List.mem_filter]
theorem mn_iff {rows : List (List Str)} {l : List Str} : mn rows l = true ↔ hits rows l = true ∧ ∀ w ∈ l, ¬ hits rows (without l w) = true := by
  unfold mn
  simp [List.all_eq_true]
theorem leastB_iff {ls : List (List Str)} {l : List Str} : leastB ls l = true ↔ ∀ o ∈ ls, (∀ x ∈ o, x ∈ l) → o = l := by
  unfold leastB lessB
  simp only [Bool.not_eq_true', List.any_eq_false, Bool.and_eq_true, decide_eq_true_eq, List.all_eq_true, not_and]
  constructor
  · intro h o ho hs
    by_cases e : o = l
    · exact e
    · exact absurd hs (h o ho e)
  · intro h o ho hne hs
    exact hne (h o ho hs)
/-- one name less is enough -/
theorem least_mn {rows : List (List Str)} {L l : List Str} {S : List (List Str)} (nd : L.Nodup) (hS : ∀ t, t ∈ S ↔ t.Sublist L) (hl : l.Sublist L) : (hits rows l && leastB (S.filter (hits rows)) l) = mn rows l := by
  rw [Bool.eq_iff_iff, Bool.and_eq_true, mn_iff, leastB_iff]
  constructor
  · rintro ⟨h1, h2⟩
    refine ⟨h1, fun w hw h3 => ?_⟩
    have hsub : (without l w).Sublist L := List.filter_sublist.trans hl
    have := h2 (without l w) (List.mem_filter.mpr ⟨(hS _).mpr hsub, h3⟩) (fun x hx => (without_mem.mp hx).1)
    rw [← this] at hw
    exact (without_mem.mp hw).2 rfl
  · rintro ⟨h1, h2⟩
    refine ⟨h1, fun o ho hs => ?_⟩
    obtain ⟨ho1, ho2⟩ := List.mem_filter.mp ho
    have hoL := (hS o).mp ho1
    refine sub_ext hoL hl nd fun x => ⟨hs x, fun hx => ?_⟩
    by_cases q : x ∈ o
    · exact q
    · exact absurd (hits_mono (fun y hy => without_mem.mpr ⟨hs y hy, fun (z : y = x) => q (z ▸ hy)⟩) ho2) (h2 x hx)
/-- THE FIRST: what the program tells is what the law is due -/
theorem told_due {rows : List (List Str)} {ns : List Str} (nd : ns.Nodup) : ((lotsS ns).filter (hits rows)).filter (leastB ((lotsS ns).filter (hits rows))) = dueL rows ns := by
  have ndL : (sortS ns).Nodup := (sortS_perm ns).nodup_iff.mpr nd
  have pm : (lotsS ns).Perm (subsF (sortS ns)) := List.mergeSort_perm _ _
  have hS : ∀ t, t ∈ lotsS ns ↔ t.Sublist (sortS ns) := fun t => by rw [pm.mem_iff]; exact subsF_mem _ t
  rw [List.filter_filter]
  have e : (lotsS ns).filter (fun l => leastB ((lotsS ns).filter (hits rows)) l && hits rows l) = (lotsS ns).filter (mn rows) := by
    refine List.filter_congr fun l hl => ?_
    rw [Bool.and_comm]
    exact least_mn ndL hS ((hS l).mp hl)
  rw [e]
  exact sortL_uniq ((sortL_pair _).sublist List.filter_sublist) (pm.filter _)

/-- in each hitting lot lies a least one -/
theorem least_in {rows : List (List Str)} : ∀ (n : Nat) (c : List Str), c.length ≤ n → hits rows c = true → ∃ m, m.Sublist c ∧ mn rows m = true
  | 0, c, hn, h => by
    have : c = [] := List.length_eq_zero_iff.mp (Nat.le_zero.mp hn)
    subst this
    exact ⟨[], List.Sublist.refl _, mn_iff.mpr ⟨h, fun w hw => nomatch hw⟩⟩
  | n + 1, c, hn, h => by
    by_cases q : ∃ w ∈ c, hits rows (without c w) = true
    · obtain ⟨w, hw, h2⟩ := q
      have hs : (without c w).Sublist c := List.filter_sublist
      have hl : (without c w).length < c.length := by
        rcases Nat.lt_or_ge (without c w).length c.length with z | z
        · exact z
        · have e := hs.eq_of_length_le z
          rw [← e] at hw
          exact absurd rfl (without_mem.mp hw).2
      obtain ⟨m, m1, m2⟩ := least_in n (without c w) (by omega) h2
      exact ⟨m, m1.trans hs, m2⟩
    · exact ⟨c, List.Sublist.refl _, mn_iff.mpr ⟨h, fun w hw h2 => q ⟨w, hw, h2⟩⟩⟩
section
variable {rows : List (List Str)} {ns : List Str}
theorem due_mem (l : List Str) : l ∈ dueL rows ns ↔ l.Sublist (sortS ns) ∧ mn rows l = true := by
  have pm : (dueL rows ns).Perm ((subsF (sortS ns)).filter (mn rows)) := List.mergeSort_perm _ _
  rw [pm.mem_iff, List.mem_filter, subsF_mem]
theorem mem_sortS (x : Str) : x ∈ sortS ns ↔ x ∈ ns := (sortS_perm ns).mem_iff
/-- a lot meets the least lots exactly if it holds a row -/
theorem hits_due (hin : rowsIn ns rows = true) {s : List Str} (hs : s.Sublist (sortS ns)) : hits (dueL rows ns) s = true ↔ ∃ r ∈ rows, ∀ x ∈ r, x ∈ s := by
  have hin : ∀ r ∈ rows, ∀ x ∈ r, x ∈ ns := by simpa [rowsIn] using hin
  rw [hits_iff]
  constructor
  · intro h
    by_cases q : ∃ r ∈ rows, ∀ x ∈ r, x ∈ s
    · exact q
    · exfalso
      have hc : hits rows ((sortS ns).filter fun x => !decide (x ∈ s)) = true := by
        rw [hits_iff]
        intro r hr
        by_cases z : ∃ x ∈ r, x ∉ s
        · obtain ⟨x, h1, h2⟩ := z
          exact ⟨x, h1, List.mem_filter.mpr ⟨(mem_sortS x).mpr (hin r hr x h1), by simpa using h2⟩⟩
        · refine absurd ⟨r, hr, fun x hx => ?_⟩ q
          by_cases y : x ∈ s
          · exact y
          · exact absurd ⟨x, hx, y⟩ z
      obtain ⟨m, m1, m2⟩ := least_in _ _ (Nat.le_refl _) hc
      obtain ⟨x, h1, h2⟩ := h m ((due_mem m).mpr ⟨m1.trans List.filter_sublist, m2⟩)
      have := (List.mem_filter.mp (m1.subset h1)).2
      simp [h2] at this
  · rintro ⟨r, hr, hs2⟩ m hm
    obtain ⟨_, h2⟩ := (due_mem m).mp hm
    obtain ⟨x, h3, h4⟩ := hits_iff.mp (mn_iff.mp h2).1 r hr
    exact ⟨x, h4, hs2 x h3⟩
theorem rset_mem {L r : List Str} {x : Str} : x ∈ rset L r ↔ x ∈ L ∧ x ∈ r := by
  unfold rset
  simp [List.mem_filter]
/-- THE SECOND: the least lots that meet the least lots are the least rows -/
theorem dual (hin : rowsIn ns rows = true) (nd : ns.Nodup) : dueL (dueL rows ns) ns = leastR rows ns := by
  have hin' : ∀ r ∈ rows, ∀ x ∈ r, x ∈ ns := by simpa [rowsIn] using hin
  have ndL : (sortS ns).Nodup := (sortS_perm ns).nodup_iff.mpr nd
  have rs : ∀ r, (rset (sortS ns) r).Sublist (sortS ns) := fun r => List.filter_sublist
  have um : ∀ l, l ∈ uniq (sortS ns) rows ↔ ∃ r ∈ rows, l = rset (sortS ns) r := fun l => by
    unfold uniq
    rw [uniq_mem]
    simp
  have key : ∀ l, (l.Sublist (sortS ns) ∧ mn (dueL rows ns) l = true) ↔ (l ∈ uniq (sortS ns) rows ∧ leastB (uniq (sortS ns) rows) l = true) := fun l => by
    rw [mn_iff, leastB_iff, um]
    constructor
    · rintro ⟨hl, h1, h2⟩
      obtain ⟨r, hr, hs⟩ := (hits_due hin hl).mp h1
      have nolt : ∀ r' ∈ rows, (∀ x ∈ r', x ∈ l) → ∀ w ∈ l, w ∈ r' := fun r' hr' hs' w hw => by
        by_cases q : w ∈ r'
        · exact q
        · exact absurd ((hits_due hin (List.filter_sublist.trans hl)).mpr ⟨r', hr', fun x hx => without_mem.mpr ⟨hs' x hx, fun (z : x = w) => q (z ▸ hx)⟩⟩) (h2 w hw)
      refine ⟨⟨r, hr, sub_ext hl (rs r) ndL fun x => ⟨fun hx => rset_mem.mpr ⟨hl.subset hx, nolt r hr hs x hx⟩, fun hx => hs x (rset_mem.mp hx).2⟩⟩, fun o ho hso => ?_⟩
      obtain ⟨r', hr', rfl⟩ := (um o).mp ho
      refine sub_ext (rs r') hl ndL fun x => ⟨hso x, fun hx => rset_mem.mpr ⟨hl.subset hx, nolt r' hr' (fun y hy => hso y (rset_mem.mpr ⟨(mem_sortS y).mpr (hin' r' hr' y hy), hy⟩)) x hx⟩⟩
    · rintro ⟨⟨r, hr, rfl⟩, h⟩
      refine ⟨rs r, (hits_due hin (rs r)).mpr ⟨r, hr, fun x hx => rset_mem.mpr ⟨(mem_sortS x).mpr (hin' r hr x hx), hx⟩⟩, fun w hw h2 => ?_⟩
      obtain ⟨r', hr', hs'⟩ := (hits_due hin (List.filter_sublist.trans (rs r))).mp h2
      have e := h (rset (sortS ns) r') ((um _).mpr ⟨r', hr', rfl⟩) fun x hx => (without_mem.mp (hs' x (rset_mem.mp hx).2)).1
      rw [← e] at hw
      exact (without_mem.mp (hs' w (rset_mem.mp hw).2)).2 rfl
  unfold leastR
  show sortL _ = _
  refine sortL_perm ?_
  rw [List.perm_ext_iff_of_nodup]
  · intro l
    rw [List.mem_filter, List.mem_filter, subsF_mem]
    exact key l
  · refine List.Nodup.sublist List.filter_sublist ?_
    have pm : (subsF (sortS ns)).Nodup := by
      have : ∀ (L : List Str), L.Nodup → (subsF L).Nodup := fun L => by
        have g : ∀ n (L : List Str), L.length = n → L.Nodup → (subsF L).Nodup := fun n => by
          induction n with
          | zero =>
            intro L hL _
            have : L = [] := List.length_eq_zero_iff.mp hL
            subst this
            simp [subsF]
          | succ n ih =>
            intro L hL hnd
            have hne : L ≠ [] := by intro z; rw [z] at hL; cases hL
            have e := List.dropLast_concat_getLast hne
            have hlen : L.dropLast.length = n := by rw [List.length_dropLast, hL]; rfl
            rw [← e] at hnd ⊢
            rw [List.nodup_append] at hnd
            obtain ⟨n1, _, n3⟩ := hnd
            have hi := ih _ hlen n1
            rw [subsF_snoc]
            unfold dbl
            rw [List.nodup_append]
            refine ⟨hi, ?_, ?_⟩
            · rw [List.nodup_iff_pairwise_ne, List.pairwise_map]
              exact (List.nodup_iff_pairwise_ne.mp hi).imp fun {a b} h z => h (List.append_cancel_right z)
            · intro a ha b hb
              obtain ⟨c, hc, rfl⟩ := List.mem_map.mp hb
              intro z
              have hsub := (subsF_mem _ a).mp ha
              have : L.getLast hne ∈ a := by rw [z]; simp
              exact n3 _ (hsub.subset this) _ (by simp) rfl
        exact g L.length L rfl
      exact this _ ndL
    exact pm
  · exact List.Nodup.sublist List.filter_sublist (uniq_nodup _ _ _ List.nodup_nil)
end
end M55
end
section
set_option maxRecDepth 100000
set_option maxHeartbeats 2000000
open PySem PySem.Spec L2 T2
namespace M55
theorem cut_to {α : Type} (xs : List α) (p : Nat) (h : p ≤ xs.length) : cut xs none (some (p : Int)) = xs.take p := by
  unfold cut
  rw [HT.sIx_none, HT.sIx_nat, List.drop_zero, Nat.sub_zero, Nat.min_eq_left h]
theorem cut_from {α : Type} (xs : List α) (p : Nat) (h : p ≤ xs.length) : cut xs (some (p : Int)) none = xs.drop p := by
  unfold cut
  rw [HT.sIx_none, HT.sIx_nat, Nat.min_eq_left h, List.take_of_length_le (by rw [List.length_drop]; exact Nat.le_refl _)]
theorem put_eq {xs : List D} {t : D} {p : Nat} (h : p ≤ xs.length) (hz : xs.length ≤ 1000) : F__law_put [.lst xs, .int p, t] = .ok (.lst (xs.take p ++ [t] ++ xs.drop p)) := by
  have big := sl_big
  have e1 : (xs.take p).length ≤ 1000 := by rw [List.length_take]; omega
  have e2 : addD (.lst (xs.take p)) (.lst [t]) = .ok (.lst (xs.take p ++ [t])) := by
    simp only [addD, List.length_cons, List.length_nil]
    rw [if_pos (by omega)]
  have e3 : addD (.lst (xs.take p ++ [t])) (.lst (xs.drop p)) = .ok (.lst (xs.take p ++ [t] ++ xs.drop p)) := by
    simp only [addD, List.length_append, List.length_cons, List.length_nil, List.length_drop]
    rw [if_pos (by omega)]
  have e4 : (1 : Nat) ≤ sizeLine := by omega
  simp [F__law_put, G__law_put, sliceD, cut_to xs p h, cut_from xs p h, e2, e3, e4]
theorem handed_eq {d : D} {b t : Bool} {rows : List (List Str)} (hd : d = .lst (rows.map (mkD b)) ∨ d = .tup (rows.map (mkD b))) (hz : rows.length ≤ 1000) : F__law_handed [d, .bl t] = .ok (.lst (rows.map (mkD t))) := by
  have big := sl_big
  have hs : seqOf d = .ok (rows.map (mkD b)) := by rcases hd with rfl | rfl <;> rfl
  have k : ∀ (g : FE) (tt : Bool) (x : Option D), (∀ r x, g [some d, some (.bl t), some (mkD b r)] = .ok (mkD tt r)) → ∀ rs : List (List Str), compL 2 fYes g [some d, some (.bl t), x] (rs.map (mkD b)) = .ok (rs.map (mkD tt)) := fun g tt x hg rs => by
    induction rs with
    | nil => rfl
    | cons r rs ih =>
      rw [List.map_cons, compL, ih]
      have := hg r x
      simp [R.safe, this]
  have c1 : fComp 2 (fSeq (fVar 0)) fYes (fCall tupleD (fCons (fVar 2) fNil)) [some d, some (.bl t), none] = .ok (.lst (rows.map (mkD true))) := fComp_ok (ds := rows.map (mkD b)) (by simp [hs]) (by rw [List.length_map]; omega) (k _ true none (fun r _ => by cases b <;> simp [mkD, tupleD]) rows)
  have c2 : fComp 2 (fSeq (fVar 0)) fYes (fCall listD (fCons (fVar 2) fNil)) [some d, some (.bl t), none] = .ok (.lst (rows.map (mkD false))) := fComp_ok (ds := rows.map (mkD b)) (by simp [hs]) (by rw [List.length_map]; omega) (k _ false none (fun r _ => by cases b <;> simp [mkD, listD]) rows)
  cases t
  · simp [F__law_handed, G__law_handed, c2]
  · simp [F__law_handed, G__law_handed, c1]
theorem refusal_eq {d e : D} {m : Str} (h : F_least_hitting [d, e] = .exc "BadLot" [("why", .str m)]) : F__law_refusal [d, e] = .ok (.lst [.str m]) := by
  have big := sl_big
  have e4 : (1 : Nat) ≤ sizeLine := by omega
  have body : (sTry 2 (fun c => if c = "BadLot" then some true else none) (sExp (fCall F_least_hitting (fCons (fVar 0) (fCons (fVar 1) fNil)))) (fun a dx c => (sSeq (sIf (fOrT (fNotT (fTst (f1 (isED (fun c => if c = "BadLot" then some true else none) a dx c) (fVar 2)))) (fTst (f1 (isED (fun c => if c = "BadLot" then some false else none) a dx c) (fVar 2)))) (sRet (fLst (fCons (fC (.str "another")) (fCons (fC (.str "error")) fNil)))) sSkip)
      (sRet (fLst (fCons (f1 (xfD (fun c => decide (c = "BadLot") || (false)) a dx c "why") (fVar 2)) fNil)))))) [some d, some e, none] = .ret (.lst [.str m]) := by
    unfold sTry
    have e1 : (sExp (fCall F_least_hitting (fCons (fVar 0) (fCons (fVar 1) fNil)))) [some d, some e, none] = .exc "BadLot" [("why", .str m)] [some d, some e, none] := by simp [h]
    rw [e1]
    simp only [if_true]
    refine pick_eq fun a dx => ?_
    have e2 : isED (fun c => if c = "BadLot" then some true else none) a dx "BadLot" (.exn a dx "BadLot" [("why", .str m)]) = .ok (.bl true) := by simp [isED]
    have e3 : isED (fun c => if c = "BadLot" then some false else none) a dx "BadLot" (.exn a dx "BadLot" [("why", .str m)]) = .ok (.bl false) := by simp [isED]
    have e5 : xfD (fun c => decide (c = "BadLot") || (false)) a dx "BadLot" "why" (.exn a dx "BadLot" [("why", .str m)]) = .ok (.str m) := by simp [xfD]
    have e6 : xfD (fun c => decide (c = "BadLot")) a dx "BadLot" "why" (.exn a dx "BadLot" [("why", .str m)]) = .ok (.str m) := by simp [xfD]
    simp [e2, e3, e6, e4, aft]
  simp only [F__law_refusal, G__law_refusal, x_runF, x_sSeq, List.map_cons, List.map_nil, List.length_cons, List.length_nil, List.replicate, List.cons_append, List.nil_append, body]

/-! ### numbers -/
theorem int_int (i : Int) : intD [.int i] = .ok (.int i) := rfl
theorem mod_nat (a m : Nat) (h : 0 < m) : modD (.int (a : Int)) (.int (m : Int)) = .ok (.int ((a % m : Nat) : Int)) := by
  simp only [modD]
  rw [if_pos (by omega)]
  simp
theorem div_nat (a m : Nat) (h : 0 < m) (h2 : m < 1073741824) : divD (.int (a : Int)) (.int (m : Int)) = .ok (.int ((a / m : Nat) : Int)) := by
  simp only [divD]
  rw [if_pos ⟨by omega, by omega⟩]
  simp
theorem ix_lst (xs : List D) (k : Nat) (d : D) (h : xs[k]? = some d) : ixD (.lst xs) (.int (k : Int)) = .ok d := by
  have hk := (List.getElem?_eq_some_iff.mp h).1
  have e : atI xs (k : Int) = some d := by
    unfold atI ixN
    rw [if_pos (by omega)]
    simp [hk]
    exact (List.getElem?_eq_some_iff.mp h).2
  simp only [ixD, e]
/-- a row of draws -/
def natsD (ds : List Nat) : List D := ds.map fun n : Nat => D.int n
theorem ix_nat (ds : List Nat) (k : Nat) (h : k < ds.length) : ixD (.lst (natsD ds)) (.int (k : Int)) = .ok (.int ((ds.getD k 0 : Nat) : Int)) := by
  refine ix_lst _ k _ ?_
  unfold natsD
  rw [List.getElem?_map, List.getElem?_eq_getElem h]
  simp [List.getD, List.getElem?_eq_getElem h]
theorem len_nat (xs : List D) : lenD [.lst xs] = .ok (.int ((xs.length : Nat) : Int)) := rfl
/-- what is wrong with these names -/
def badN (ds : List D) : Prop := (∀ d ∈ ds, okD d) ∧ ds.length ≤ 100 ∧ ((ds.all isWD && !tw [] (strsD ds)) = false ∨ 6 < ds.length)
theorem lh_bad {d : D} {ds : List D} (h : badN ds) : F_least_hitting [d, .lst ds] = .exc "BadLot" [("why", .str "names")] := by
  have big := sl_big
  exact lh_names (is_words_eq (.lst ds) ds (.inl rfl) h.1 (by have := h.2.1; omega)) (len_nat ds) h.2.2
end M55
end
section
set_option maxRecDepth 100000
set_option maxHeartbeats 2000000
open PySem PySem.Spec L2 T2
namespace M55
def oddL : List D := [.str "", .str "A", .str "a b", .str "-a", .str "4b", .str "a_b", .str "abcdefghijklm", .int 7, .non]
def smallB : D → Bool
  | .str z => decide (z.length ≤ 100)
  | .int _ => true
  | .non => true
  | _ => false
theorem small_ok {d : D} (h : smallB d = true) : okD d := by
  have big := sl_big
  cases d with
  | str z =>
    have : z.length ≤ 100 := of_decide_eq_true h
    show z.length ≤ sizeLine
    omega
  | int i => trivial
  | non => trivial
  | _ => exact absurd h Bool.false_ne_true
theorem odd_all : (oddL.all fun o => smallB o && !isWD o) = true := by decide +kernel
theorem odd_is {o : D} (h : o ∈ oddL) : okD o ∧ isWD o = false := by
  have := List.all_eq_true.mp odd_all o h
  rw [Bool.and_eq_true, Bool.not_eq_true'] at this
  exact ⟨small_ok this.1, this.2⟩
theorem odd_fl (ρ : Rho) : (fLst (fCons (fC (.str "")) (fCons (fC (.str "A")) (fCons (fC (.str "a b")) (fCons (fC (.str "-a")) (fCons (fC (.str "4b")) (fCons (fC (.str "a_b")) (fCons (fC (.str "abcdefghijklm")) (fCons (fC (.int 7)) (fCons (fC .non) fNil)))))))))) ρ = .ok (.lst oddL) := by
  have big := sl_big
  have e : (9 : Nat) ≤ sizeLine := by omega
  simp [e, oddL]
theorem badN_odd {ns : List Str} {o : D} {p : Nat} (ho : okD o ∧ isWD o = false) (hn : ∀ w ∈ ns, w.length ≤ 1000) (hl : ns.length ≤ 6) : badN ((ns.map D.str).take p ++ [o] ++ (ns.map D.str).drop p) := by
  have big := sl_big
  have hm : ∀ d ∈ ns.map D.str, okD d := fun d hd => by
    obtain ⟨w, hw, rfl⟩ := List.mem_map.mp hd
    have := hn w hw
    show w.length ≤ sizeLine
    omega
  refine ⟨fun d hd => ?_, ?_, .inl ?_⟩
  · simp only [List.mem_append, List.mem_singleton] at hd
    rcases hd with (h | rfl) | h
    · exact hm d (List.mem_of_mem_take h)
    · exact ho.1
    · exact hm d (List.mem_of_mem_drop h)
  · simp only [List.length_append, List.length_take, List.length_drop, List.length_map, List.length_cons, List.length_nil]
    omega
  · simp [ho.2]
theorem badN_dup {ns : List Str} {x : Str} {p : Nat} (hx : x ∈ ns) (hn : ∀ w ∈ ns, w.length ≤ 1000) (hl : ns.length ≤ 6) : badN ((ns.map D.str).take p ++ [.str x] ++ (ns.map D.str).drop p) := by
  have big := sl_big
  have e : (ns.map D.str).take p ++ [.str x] ++ (ns.map D.str).drop p = (ns.take p ++ [x] ++ ns.drop p).map D.str := by simp [List.map_take, List.map_drop]
  rw [e]
  refine ⟨fun d hd => ?_, ?_, .inl ?_⟩
  · obtain ⟨w, hw, rfl⟩ := List.mem_map.mp hd
    have : w ∈ ns := by
      simp only [List.mem_append, List.mem_singleton] at hw
      rcases hw with (h | rfl) | h
      · exact List.mem_of_mem_take h
      · exact hx
      · exact List.mem_of_mem_drop h
    have := hn w this
    show w.length ≤ sizeLine
    omega
  · simp only [List.length_append, List.length_take, List.length_drop, List.length_map, List.length_cons, List.length_nil]
    omega
  · rw [strsD_str]
    cases q : tw [] (ns.take p ++ [x] ++ ns.drop p) with
    | true => simp
    | false =>
      have nd := ((tw_iff _ []).mp q).2
      have hx2 : x ∈ ns.take p ++ ns.drop p := by rw [List.take_append_drop]; exact hx
      rw [List.append_assoc, List.nodup_append] at nd
      obtain ⟨_, n2, n3⟩ := nd
      rw [List.singleton_append, List.nodup_cons] at n2
      rcases List.mem_append.mp hx2 with h | h
      · exact absurd rfl (n3 x h x (by simp))
      · exact absurd h n2.1
theorem wrong_names_eq {ds : List Nat} {ns ws : List Str} (hd : 3 ≤ ds.length) (hn : ∀ w ∈ ns, w.length ≤ 1000) (hl : ns.length ≤ 6) (hw : ∀ w ∈ ws, w.length ≤ 1000) (h7 : ws.length = 7) :
    ∃ rs, F__law_wrong_names [.lst (natsD ds), .lst (ns.map .str), .lst (ws.map .str)] = .ok (.lst rs) ∧ badN rs := by
  have big := sl_big
  have i1 : ixD (.lst (natsD ds)) (.int 1) = .ok (.int ((ds.getD 1 0 : Nat) : Int)) := ix_nat ds 1 (by omega)
  have i2 : ixD (.lst (natsD ds)) (.int 2) = .ok (.int ((ds.getD 2 0 : Nat) : Int)) := ix_nat ds 2 (by omega)
  have i0 : ixD (.lst (natsD ds)) (.int 0) = .ok (.int ((ds.getD 0 0 : Nat) : Int)) := ix_nat ds 0 (by omega)
  generalize ds.getD 1 0 = d1 at i1
  generalize ds.getD 2 0 = d2 at i2
  generalize ds.getD 0 0 = d0 at i0
  have m1 : modD (.int (d1 : Int)) (.int 9) = .ok (.int ((d1 % 9 : Nat) : Int)) := mod_nat d1 9 (by omega)
  have m0 : modD (.int (d0 : Int)) (.int 3) = .ok (.int ((d0 % 3 : Nat) : Int)) := mod_nat d0 3 (by omega)
  have hk : d1 % 9 < oddL.length := by
    have : oddL.length = 9 := rfl
    omega
  have o1 : ixD (.lst oddL) (.int ((d1 % 9 : Nat) : Int)) = .ok (oddL[d1 % 9]) := ix_lst oddL _ _ (List.getElem?_eq_getElem hk)
  have oi := odd_is (List.getElem_mem hk)
  generalize oddL[d1 % 9] = o at o1 oi
  have ln : lenD [.lst (ns.map D.str)] = .ok (.int ((ns.length : Nat) : Int)) := by
    rw [← List.length_map (f := D.str)]
    rfl
  have a1 : addD (.int ((ns.length : Nat) : Int)) (.int 1) = .ok (.int ((ns.length + 1 : Nat) : Int)) := rfl
  have m2 : modD (.int (d2 : Int)) (.int ((ns.length + 1 : Nat) : Int)) = .ok (.int ((d2 % (ns.length + 1) : Nat) : Int)) := mod_nat d2 _ (by omega)
  have hp : d2 % (ns.length + 1) ≤ (ns.map D.str).length := by
    rw [List.length_map]
    have := Nat.mod_lt d2 (show 0 < ns.length + 1 by omega)
    omega
  have put : ∀ t, F__law_put [.lst (ns.map D.str), .int ((d2 % (ns.length + 1) : Nat) : Int), t] = .ok (.lst ((ns.map D.str).take (d2 % (ns.length + 1)) ++ [t] ++ (ns.map D.str).drop (d2 % (ns.length + 1)))) := fun t => put_eq hp (by rw [List.length_map]; omega)
  generalize d2 % (ns.length + 1) = pl at m2 put
  have of := odd_fl
  have w0 : ((d0 % 3 : Nat) : Int) = 0 ↔ d0 % 3 = 0 := by omega
  have w1 : ((d0 % 3 : Nat) : Int) = 1 ↔ d0 % 3 = 1 := by omega
  have g0 : ∀ b1 b2 b3 : D, ∀ x3 x4 x5 : Option D, True := fun _ _ _ _ _ _ => trivial
  by_cases h0 : d0 % 3 = 0
  · refine ⟨ws.map .str, ?_, ?_⟩
    · simp only [F__law_wrong_names, G__law_wrong_names, x_runF, x_sSeq, x_sAsg, x_sDo, x_sIf, x_sRet, x_f2, x_fTst, x_fC, x_fCall, x_fCons, x_fNil, x_fVar, of, List.map_cons, List.map_nil, List.length_cons, List.length_nil, List.replicate, List.cons_append, List.nil_append, List.set_cons_succ, List.set_cons_zero, List.getElem?_cons_succ, List.getElem?_cons_zero, R.bind_ok, i1, int_int, m1, o1, i2, ln, a1, m2, i0, m0, eq_int, x_asB, h0, Int.natCast_zero, decide_true, if_true, listD]
    · refine ⟨fun d hd' => ?_, by rw [List.length_map]; omega, .inr (by rw [List.length_map]; omega)⟩
      obtain ⟨w, hw', rfl⟩ := List.mem_map.mp hd'
      have := hw w hw'
      show w.length ≤ sizeLine
      omega
  · have nw0 : ¬ ((d0 % 3 : Nat) : Int) = 0 := fun z => h0 (w0.mp z)
    by_cases h1 : d0 % 3 = 1 ∧ 0 < ns.length
    · have yw1 : ((d0 % 3 : Nat) : Int) = 1 := w1.mpr h1.1
      have m3 : modD (.int (d1 : Int)) (.int ((ns.length : Nat) : Int)) = .ok (.int ((d1 % ns.length : Nat) : Int)) := mod_nat d1 _ h1.2
      have hx : d1 % ns.length < ns.length := Nat.mod_lt _ h1.2
      have x1 : ixD (.lst (ns.map D.str)) (.int ((d1 % ns.length : Nat) : Int)) = .ok (.str ns[d1 % ns.length]) := ix_lst _ _ _ (by rw [List.getElem?_map, List.getElem?_eq_getElem hx]; rfl)
      have gt : (0 : Int) < ((ns.length : Nat) : Int) := by omega
      refine ⟨_, ?_, badN_dup (p := pl) (List.getElem_mem hx) hn hl⟩
      simp only [F__law_wrong_names, G__law_wrong_names, x_runF, x_sSeq, x_sAsg, x_sDo, x_sIf, x_sRet, x_f2, x_fTst, x_fAndT, x_fC, x_fCall, x_fCons, x_fNil, x_fVar, of, List.map_cons, List.map_nil, List.length_cons, List.length_nil, List.replicate, List.cons_append, List.nil_append, List.set_cons_succ, List.set_cons_zero, List.getElem?_cons_succ, List.getElem?_cons_zero, R.bind_ok, i1, int_int, m1, o1, i2, ln, a1, m2, i0, m0, eq_int, gt_int, x_asB, nw0, eq_true yw1, decide_false, Bool.false_eq_true, if_false, x_sSkip, decide_true, if_true, gt, m3, x1, put]
    · refine ⟨_, ?_, badN_odd (p := pl) oi hn hl⟩
      by_cases h2 : d0 % 3 = 1
      · have yw1 : ((d0 % 3 : Nat) : Int) = 1 := w1.mpr h2
        have h3 : ns.length = 0 := by
          rcases Nat.eq_zero_or_pos ns.length with z | z
          · exact z
          · exact absurd ⟨h2, z⟩ h1
        have gt : ¬ (0 : Int) < ((ns.length : Nat) : Int) := by omega
        simp only [F__law_wrong_names, G__law_wrong_names, x_runF, x_sSeq, x_sAsg, x_sDo, x_sIf, x_sRet, x_f2, x_fTst, x_fAndT, x_fC, x_fCall, x_fCons, x_fNil, x_fVar, of, List.map_cons, List.map_nil, List.length_cons, List.length_nil, List.replicate, List.cons_append, List.nil_append, List.set_cons_succ, List.set_cons_zero, List.getElem?_cons_succ, List.getElem?_cons_zero, R.bind_ok, i1, int_int, m1, o1, i2, ln, a1, m2, i0, m0, eq_int, gt_int, x_asB, nw0, eq_true yw1, decide_false, Bool.false_eq_true, if_false, x_sSkip, decide_true, if_true, gt, put]
      · have nw1 : ¬ ((d0 % 3 : Nat) : Int) = 1 := fun z => h2 (w1.mp z)
        simp only [F__law_wrong_names, G__law_wrong_names, x_runF, x_sSeq, x_sAsg, x_sDo, x_sIf, x_sRet, x_f2, x_fTst, x_fAndT, x_fC, x_fCall, x_fCons, x_fNil, x_fVar, of, List.map_cons, List.map_nil, List.length_cons, List.length_nil, List.replicate, List.cons_append, List.nil_append, List.set_cons_succ, List.set_cons_zero, List.getElem?_cons_succ, List.getElem?_cons_zero, R.bind_ok, i1, int_int, m1, o1, i2, ln, a1, m2, i0, m0, eq_int, gt_int, x_asB, nw0, nw1, decide_false, Bool.false_eq_true, if_false, x_sSkip, put]
end M55
end
section
set_option maxRecDepth 100000
set_option maxHeartbeats 2000000
open PySem PySem.Spec L2 T2
namespace M55
theorem mul_l (i j : Int) (h : -(2 ^ 64) < i ∧ i < 2 ^ 64) : mulD (.int i) (.int j) = .ok (.int (i * j)) := by
  simp only [mulD]
  rw [if_pos (.inl h)]
theorem mod_int (i m : Int) (h : 0 < m) : modD (.int i) (.int m) = .ok (.int (i % m)) := by
  simp only [modD]
  rw [if_pos h]
theorem div_int (i m : Int) (h : 0 < m) (h2 : m < 1073741824) : divD (.int i) (.int m) = .ok (.int (i / m)) := by
  simp only [divD]
  rw [if_pos ⟨h, h2⟩]
theorem add_int (i j : Int) : addD (.int i) (.int j) = .ok (.int (i + j)) := rfl
theorem mod_to (i : Int) (m : Nat) (h : 0 < m) : ∃ n : Nat, n < m ∧ modD (.int i) (.int (m : Int)) = .ok (.int (n : Int)) := by
  refine ⟨(i % (m : Int)).toNat, ?_, ?_⟩
  · have := Int.emod_lt_of_pos i (show (0 : Int) < (m : Int) by omega)
    have := Int.emod_nonneg i (show (m : Int) ≠ 0 by omega)
    omega
  · rw [mod_int _ _ (by omega), Int.toNat_of_nonneg (Int.emod_nonneg i (by omega))]
theorem ints_map : ∀ ns : List Int, intsOf (ns.map D.int) = some ns
  | [] => rfl
  | n :: r => by rw [List.map_cons, intsOf, ints_map r]; rfl
theorem lst_nil (ρ : Rho) : fLst fNil ρ = .ok (.lst []) := by
  rw [x_fLst, x_fNil, R.bind_ok]
  exact if_pos (Nat.zero_le _)
theorem seq_nx {F G : FS} {ρ ρ' : Rho} (h : F ρ = .nx ρ') : sSeq F G ρ = G ρ' := by
  rw [x_sSeq, h]
theorem asg_nx {i : Nat} {f : FE} {ρ : Rho} {d : D} (h : f ρ = .ok d) : sAsg i f ρ = .nx (ρ.set i (some d)) := by
  rw [x_sAsg, x_sDo, h]
theorem ret_ok {f : FE} {ρ : Rho} {d : D} (h : f ρ = .ok d) : sRet f ρ = .ret d := by
  rw [x_sRet, h]
theorem run_sh {n : Nat} {F : FS} {ds : List D} {d : D} (h : F (ds.map some ++ List.replicate (n - ds.length) none) = .ret d) : runF .sh n F ds = .ok d := by
  rw [x_runF, h]
theorem run_fr {n : Nat} {F : FS} {ds : List D} {d : D} (h : F (ds.map some ++ List.replicate (n - ds.length) none) = .ret d) : runF .fr n F ds = .ok d := by
  rw [x_runFr, h]
theorem for_nx {i : Nat} {as : FA} {F : FS} {ρ : Rho} {ds : List D} {r : Fl} (h : as ρ = .ok ds) (h2 : loopF F i ds ρ = r) : sFor i as F ρ = r := by
  rw [x_sFor, h, ← h2]
theorem rng_fe {f : FE} {ρ : Rho} {m : Nat} (h : f ρ = .ok (.int (m : Int))) (hm : m ≤ 1000) : fRng (fCons f fNil) ρ = .ok ((List.range' 0 m).map fun k : Nat => D.int k) := by
  have r := rng_eq m hm
  rw [x_fRng, x_fCons, h, R.bind_ok, x_fNil, R.bind_ok, R.bind_ok, r]
noncomputable def dB : FS := (sSeq (sAsg 6 (f2 modD (fCall intD (fCons (f2 addD (f2 addD (f2 addD (f2 mulD (fVar 6) (fVar 6)) (f2 mulD (fC (.int 31)) (fVar 6))) (f2 mulD (fC (.int 7919)) (fVar 7))) (fC (.int 12345))) fNil)) (fC (.int 2147483647))))
  (sIf (fTst (f2 gtD (fVar 5) (fC (.int 0)))) (sSeq (sApp 4 (f2 modD (fCall intD (fCons (fVar 5) fNil)) (fC (.int 10000))))
  (sAsg 5 (f2 divD (fVar 5) (fC (.int 10000))))) (sApp 4 (f2 modD (fCall intD (fCons (f2 divD (fVar 6) (fC (.int 64))) fNil)) (fC (.int 10000))))))
theorem draws_step {a0 a1 a2 a3 x7 : Option D} {ds : List Nat} {rest num : Int} {k : Nat} (hr : 0 ≤ rest) (hn : 0 ≤ num ∧ num < 4294967296) (hl : ds.length < 1000) : ∃ (n : Nat) (rest' num' : Int),
    dB ([a0, a1, a2, a3, some (.lst (natsD ds)), some (.int rest), some (.int num), x7].set 7 (some (.int (k : Int)))) = .nx [a0, a1, a2, a3, some (.lst (natsD (ds ++ [n]))), some (.int rest'), some (.int num'), some (.int (k : Int))] ∧ n < 10000 ∧ 0 ≤ rest' ∧ 0 ≤ num' ∧ num' < 4294967296 := by
  have big := sl_big
  have m1 := mul_l num num ⟨by omega, by omega⟩
  have m2 := mul_l 31 num ⟨by omega, by omega⟩
  have m3 := mul_l 7919 k ⟨by omega, by omega⟩
  obtain ⟨num', hn', q1⟩ := mod_to (num * num + 31 * num + 7919 * (k : Int) + 12345) 2147483647 (by omega)
  have q1 : modD (.int (num * num + 31 * num + 7919 * (k : Int) + 12345)) (.int 2147483647) = .ok (.int (num' : Int)) := q1
  have e4 : (natsD ds).length < sizeLine := by
    unfold natsD
    rw [List.length_map]
    omega
  have ap : ∀ n : Nat, natsD ds ++ [.int (n : Int)] = natsD (ds ++ [n]) := fun n => by simp [natsD]
  by_cases h : 0 < rest
  · obtain ⟨n, hn2, q2⟩ := mod_to rest 10000 (by omega)
    have q2 : modD (.int rest) (.int 10000) = .ok (.int (n : Int)) := q2
    have q3 := div_int rest 10000 (by omega) (by omega)
    refine ⟨n, rest / 10000, num', ?_, hn2, by omega, by omega, by omega⟩
    simp only [dB, x_sSeq, x_sAsg, x_sDo, x_sIf, x_f2, x_fTst, x_fC, x_fCall, x_fCons, x_fNil, x_fVar, List.set_cons_succ, List.set_cons_zero, List.getElem?_cons_succ, List.getElem?_cons_zero, R.bind_ok, m1, m2, m3, add_int, int_int, q1, gt_int, x_asB, h, decide_true, if_true, sApp, q2, e4, q3, ap]
  · have q3 := div_int (num' : Int) 64 (by omega) (by omega)
    obtain ⟨n, hn2, q2⟩ := mod_to ((num' : Int) / 64) 10000 (by omega)
    have q2 : modD (.int ((num' : Int) / 64)) (.int 10000) = .ok (.int (n : Int)) := q2
    refine ⟨n, rest, num', ?_, hn2, by omega, by omega, by omega⟩
    simp only [dB, x_sSeq, x_sAsg, x_sDo, x_sIf, x_f2, x_fTst, x_fC, x_fCall, x_fCons, x_fNil, x_fVar, List.set_cons_succ, List.set_cons_zero, List.getElem?_cons_succ, List.getElem?_cons_zero, R.bind_ok, m1, m2, m3, add_int, int_int, q1, gt_int, x_asB, h, decide_false, Bool.false_eq_true, if_false, sApp, q2, e4, if_true, q3, ap]
theorem draws_loop {a0 a1 a2 a3 x7 : Option D} {rest num : Int} (hr : 0 ≤ rest) (hn : 0 ≤ num ∧ num < 4294967296) (many : Nat) (hm : many ≤ 100) : ∃ (ds : List Nat) (y5 y6 y7 : Option D),
    loopF dB 7 ((List.range' 0 many).map fun k : Nat => D.int k) [a0, a1, a2, a3, some (.lst []), some (.int rest), some (.int num), x7] = .nx [a0, a1, a2, a3, some (.lst (natsD ds)), y5, y6, y7] ∧ ds.length = many ∧ ∀ n ∈ ds, n < 10000 := by
  obtain ⟨ρ', e, ds, rest', num', y7, hρ, h1, h2, h3, h4, h5⟩ := loop_inv (F := dB) (i := 7) (fun k ρ => ∃ (ds : List Nat) (rest num : Int) (y7 : Option D), ρ = [a0, a1, a2, a3, some (.lst (natsD ds)), some (.int rest), some (.int num), y7] ∧ ds.length = k ∧ (∀ n ∈ ds, n < 10000) ∧ 0 ≤ rest ∧ 0 ≤ num ∧ num < 4294967296)
    ((List.range' 0 many).map fun k : Nat => D.int k) 0 [a0, a1, a2, a3, some (.lst []), some (.int rest), some (.int num), x7] (fun k d ρ hk ⟨ds, rest, num, y7, hρ, h1, h2, h3, h4, h5⟩ => by
      subst hρ
      have hk1 : k < many := by
        have := (List.getElem?_eq_some_iff.mp hk).1
        simpa using this
      obtain rfl : d = .int ((k : Nat) : Int) := by
        rw [List.getElem?_map, List.getElem?_range' (by omega)] at hk
        simpa using hk.symm
      obtain ⟨n, r', n', e1, e2, e3, e4, e5⟩ := draws_step (a0 := a0) (a1 := a1) (a2 := a2) (a3 := a3) (x7 := y7) (ds := ds) (k := k) h3 ⟨h4, h5⟩ (by omega)
      refine ⟨_, .inl e1, ds ++ [n], r', n', _, rfl, by simp [h1], fun m hm => ?_, e3, e4, e5⟩
      rcases List.mem_append.mp hm with q | q
      · exact h2 m q
      · rw [List.mem_singleton] at q
        omega) ⟨[], rest, num, x7, rfl, rfl, fun _ h => (nomatch h), hr, hn⟩
  subst hρ
  refine ⟨ds, _, _, _, e, ?_, h2⟩
  simpa using h1
theorem draws_eq {ns : List Int} (a m : Nat) (ha : a ≤ 2) (hm : m ≤ 100) : ∃ ds : List Nat, F__law_draws [.scr ns, .int (a : Int), .int (m : Int)] = .ok (.lst (natsD ds)) ∧ ds.length = m ∧ ∀ n ∈ ds, n < 10000 := by
  have big := sl_big
  have sm : sumD [.lst ((cut ns none (some 1)).map D.int)] = .ok (.int (cut ns none (some 1)).sum) := by
    unfold sumD
    simp only [ints_map]
  have m0 := mod_int (cut ns none (some 1)).sum 1000003 (by omega)
  have m1 := mul_l 13 a ⟨by omega, by omega⟩
  have m7 := mul_l 7 a ⟨by omega, by omega⟩
  generalize hc0 : (17 : Int) + 13 * (a : Int) + (cut ns none (some 1)).sum % 1000003 = c0
  have ln : lenD [.scr ns] = .ok (.int ns.length) := rfl
  have lt : ∀ i j : Int, ltD (.int i) (.int j) = .ok (.bl (decide (i < j))) := fun _ _ => rfl
  have ge : ∀ i j : Int, geD (.int i) (.int j) = .ok (.bl (decide (j ≤ i))) := fun _ _ => rfl
  have sl : sliceD (.scr ns) none (some 1) = .ok (.lst ((cut ns none (some 1)).map D.int)) := rfl
  have pw : powD (.int 10) (.int 18) = .ok (.int 1000000000000000000) := by
    unfold powD
    simp only []
    rw [if_pos (by decide)]
    rfl
  have nl : ∀ ρ, fLst fNil ρ = .ok (.lst []) := lst_nil
  obtain ⟨c, hc⟩ : ∃ c : Int, (sIf (fTst (f2 ltD (fVar 1) (fCall lenD (fCons (fVar 0) fNil)))) (sAsg 3 (f2 ixD (fVar 0) (fVar 1))) sSkip) [some (.scr ns), some (.int (a : Int)), some (.int (m : Int)), some (.int c0), none, none, none, none] = .nx [some (.scr ns), some (.int (a : Int)), some (.int (m : Int)), some (.int c), none, none, none, none] := by
    by_cases h : a < ns.length
    · have h' : (a : Int) < (ns.length : Int) := by omega
      have ix : ixD (.scr ns) (.int (a : Int)) = .ok (.int ns[a]) := by
        have e : atI ns (a : Int) = some ns[a] := by
          unfold atI ixN
          rw [if_pos (by omega)]
          simp [h]
        simp only [ixD, e]
      exact ⟨ns[a], by simp only [x_sIf, x_sAsg, x_sDo, x_f2, x_fTst, x_fC, x_fCall, x_fCons, x_fNil, x_fVar, List.set_cons_succ, List.set_cons_zero, List.getElem?_cons_succ, List.getElem?_cons_zero, R.bind_ok, ln, lt, x_asB, h', decide_true, if_true, ix]⟩
    · have h' : ¬ (a : Int) < (ns.length : Int) := by omega
      exact ⟨c0, by simp only [x_sIf, x_sAsg, x_sDo, x_f2, x_fTst, x_fC, x_fCall, x_fCons, x_fNil, x_fVar, List.set_cons_succ, List.set_cons_zero, List.getElem?_cons_succ, List.getElem?_cons_zero, R.bind_ok, ln, lt, x_asB, h', decide_false, Bool.false_eq_true, if_false, x_sSkip]⟩
  obtain ⟨r, hr, hr2⟩ : ∃ r : Int, 0 ≤ r ∧ (sIf (fTst (f2 geD (fCall absD (fCons (fVar 3) fNil)) (f2 powD (fC (.int 10)) (fC (.int 18))))) (sAsg 5 (fCall absD (fCons (fVar 3) fNil))) sSkip) [some (.scr ns), some (.int (a : Int)), some (.int (m : Int)), some (.int c), some (.lst []), some (.int 0), none, none] = .nx [some (.scr ns), some (.int (a : Int)), some (.int (m : Int)), some (.int c), some (.lst []), some (.int r), none, none] := by
    have ab : absD [.int c] = .ok (.int (if c < 0 then -c else c)) := rfl
    by_cases h : 1000000000000000000 ≤ (if c < 0 then -c else c)
    · exact ⟨(if c < 0 then -c else c), by omega, by simp only [x_sIf, x_sAsg, x_sDo, x_f2, x_fTst, x_fC, x_fCall, x_fCons, x_fNil, x_fVar, List.set_cons_succ, List.set_cons_zero, List.getElem?_cons_succ, List.getElem?_cons_zero, R.bind_ok, ab, pw, ge, x_asB, h, decide_true, if_true]⟩
    · exact ⟨0, by omega, by simp only [x_sIf, x_sAsg, x_sDo, x_f2, x_fTst, x_fC, x_fCall, x_fCons, x_fNil, x_fVar, List.set_cons_succ, List.set_cons_zero, List.getElem?_cons_succ, List.getElem?_cons_zero, R.bind_ok, ab, pw, ge, x_asB, h, decide_false, Bool.false_eq_true, if_false, x_sSkip]⟩
  have mc := mod_int c 1000003 (by omega)
  have b1 := Int.emod_lt_of_pos c (show (0 : Int) < 1000003 by omega)
  have b2 := Int.emod_nonneg c (show (1000003 : Int) ≠ 0 by omega)
  obtain ⟨ds, y5, y6, y7, e, h1, h2⟩ := draws_loop (a0 := some (.scr ns)) (a1 := some (.int (a : Int))) (a2 := some (.int (m : Int))) (a3 := some (.int c)) (x7 := none) hr (num := c % 1000003 + 7 * (a : Int)) ⟨by omega, by omega⟩ m hm
  unfold dB at e
  refine ⟨ds, ?_, h1, h2⟩
  refine run_sh ?_
  show G__law_draws [some (.scr ns), some (.int (a : Int)), some (.int (m : Int)), none, none, none, none, none] = _
  unfold G__law_draws
  refine (seq_nx (asg_nx (d := .int c0) ?_)).trans ?_
  · simp only [x_f2, x_fC, x_fCall, x_fCons, x_fNil, x_fVar, x_fSl, x_fNoPart, x_fPart, x_fRng, List.map_cons, List.map_nil, List.length_cons, List.length_nil, List.replicate, List.cons_append, List.nil_append, List.set_cons_succ, List.set_cons_zero, List.getElem?_cons_succ, List.getElem?_cons_zero, R.bind_ok, m1, sl, sm, int_int, m0, add_int, hc0]
  refine (seq_nx hc).trans ?_
  refine (seq_nx (asg_nx (lst_nil _))).trans ?_
  refine (seq_nx (asg_nx (d := .int 0) rfl)).trans ?_
  refine (seq_nx hr2).trans ?_
  refine (seq_nx (asg_nx (d := .int (c % 1000003 + 7 * (a : Int))) ?_)).trans ?_
  · simp only [x_f2, x_fC, x_fCall, x_fCons, x_fNil, x_fVar, x_fSl, x_fNoPart, x_fPart, x_fRng, List.map_cons, List.map_nil, List.length_cons, List.length_nil, List.replicate, List.cons_append, List.nil_append, List.set_cons_succ, List.set_cons_zero, List.getElem?_cons_succ, List.getElem?_cons_zero, R.bind_ok, m7, int_int, mc, add_int]
  refine (seq_nx (for_nx (ds := (List.range' 0 m).map fun k : Nat => D.int k) ?_ e)).trans ?_
  · exact rng_fe rfl (by omega)
  exact ret_ok rfl
end M55
end
section
set_option maxRecDepth 100000
set_option maxHeartbeats 2000000
open PySem PySem.Spec L2 T2
namespace M55
theorem if_tt {t : FT} {F G : FS} {ρ : Rho} (h : t ρ = .ok true) : sIf t F G ρ = F ρ := by
  rw [x_sIf, h]
  rfl
theorem if_ff {t : FT} {F G : FS} {ρ : Rho} (h : t ρ = .ok false) : sIf t F G ρ = G ρ := by
  rw [x_sIf, h]
  rfl
theorem seq_ret {F G : FS} {ρ : Rho} {d : D} (h : F ρ = .ret d) : sSeq F G ρ = .ret d := by
  rw [x_sSeq, h]
theorem seq_assoc (A B C : FS) (ρ : Rho) : sSeq (sSeq A B) C ρ = sSeq A (sSeq B C) ρ := by
  simp only [x_sSeq]
  cases A ρ <;> rfl
theorem lst_one {f : FE} {ρ : Rho} {d : D} (h : f ρ = .ok d) : fLst (fCons f fNil) ρ = .ok (.lst [d]) := by
  have big := sl_big
  rw [x_fLst, x_fCons, h, R.bind_ok, x_fNil, R.bind_ok, R.bind_ok]
  exact if_pos (by show 1 ≤ sizeLine; omega)
theorem add_lst {xs ys : List D} (h : xs.length + ys.length ≤ 1000000) : addD (.lst xs) (.lst ys) = .ok (.lst (xs ++ ys)) := by
  have big := sl_big
  simp only [addD]
  rw [if_pos (by omega)]
theorem mul_lst {xs : List D} (h : xs.length ≤ 1000) : mulD (.lst xs) (.int 67) = .ok (.lst (List.replicate 67 xs).flatten) := by
  have big := sl_big
  simp only [mulD]
  rw [if_pos ⟨by omega, by omega, by have : (67 : Int).toNat = 67 := rfl; rw [this]; omega⟩]
  rfl
theorem rowsIn_no {ns r : List Str} {rows : List (List Str)} {x : Str} (h1 : r ∈ rows) (h2 : x ∈ r) (h3 : x ∉ ns) : rowsIn ns rows = false := by
  unfold rowsIn
  rw [List.all_eq_false]
  refine ⟨r, h1, ?_⟩
  intro h
  have := List.all_eq_true.mp h x h2
  exact h3 (of_decide_eq_true this)
theorem rows_no {ns r : List Str} {rows : List (List Str)} {x : Str} (h1 : r ∈ rows) (h2 : x ∈ r) (h3 : x ∉ ns) : (decide (rows.length ≤ 64) && rowsIn ns rows) = false := by
  rw [rowsIn_no h1 h2 h3, Bool.and_false]
theorem strOk_app {v w : Str} (h1 : PyData.strOk v = true) (h2 : PyData.strOk w = true) : PyData.strOk (v ++ w) = true := by
  unfold PyData.strOk at *
  have : (v ++ w).cps = v.cps ++ w.cps := rfl
  rw [this, Array.all_append, h1, h2]
  rfl
theorem wrong_rows_eq {ds : List Nat} {ns : List Str} {rows : List (List Str)} (hd : 4 ≤ ds.length) (hn : ∀ w ∈ ns, w.length ≤ 1000 ∧ w ++ "0" ∉ ns) (hl : ns.length ≤ 6) (hz : rows.length ≤ 64) (hr : ∀ r ∈ rows, (∀ w ∈ r, w.length ≤ 1000) ∧ r.length ≤ 100) (hok : okS ns) (hrk : ∀ r ∈ rows, okS r) :
    ∃ rs : List (List Str), F__law_wrong_rows [.lst (natsD ds), .lst (ns.map .str), .lst (rows.map (mkD false))] = .ok (.lst (rs.map (mkD false))) ∧ (decide (rs.length ≤ 64) && rowsIn ns rs) = false ∧ (∀ r ∈ rs, ∀ w ∈ r, PyData.strOk w = true) ∧ rs.length ≤ 100 := by
  have big := sl_big
  have i0 : ixD (.lst (natsD ds)) (.int 0) = .ok (.int ((ds.getD 0 0 : Nat) : Int)) := ix_nat ds 0 (by omega)
  have i1 : ixD (.lst (natsD ds)) (.int 1) = .ok (.int ((ds.getD 1 0 : Nat) : Int)) := ix_nat ds 1 (by omega)
  have i2 : ixD (.lst (natsD ds)) (.int 2) = .ok (.int ((ds.getD 2 0 : Nat) : Int)) := ix_nat ds 2 (by omega)
  have i3 : ixD (.lst (natsD ds)) (.int 3) = .ok (.int ((ds.getD 3 0 : Nat) : Int)) := ix_nat ds 3 (by omega)
  generalize ds.getD 0 0 = d0 at i0
  generalize ds.getD 1 0 = d1 at i1
  generalize ds.getD 2 0 = d2 at i2
  generalize ds.getD 3 0 = d3 at i3
  have m0 : modD (.int (d0 : Int)) (.int 3) = .ok (.int ((d0 % 3 : Nat) : Int)) := mod_nat d0 3 (by omega)
  have m1 : modD (.int (d1 : Int)) (.int 3) = .ok (.int ((d1 % 3 : Nat) : Int)) := mod_nat d1 3 (by omega)
  by_cases h0 : d0 % 3 = 0
  · have t0 : ((d0 % 3 : Nat) : Int) = 0 := by omega
    have a1 : addD (.int 65) (.int ((d1 % 3 : Nat) : Int)) = .ok (.int ((65 + d1 % 3 : Nat) : Int)) := by
      rw [add_int]
      simp
    have ad : addD (.lst (rows.map (mkD false))) (.lst [.lst (ns.map .str)]) = .ok (.lst ((rows ++ [ns]).map (mkD false))) := by
      rw [add_lst (by simp; omega), List.map_append]
      rfl
    have ml : mulD (.lst ((rows ++ [ns]).map (mkD false))) (.int 67) = .ok (.lst ((List.replicate 67 (rows ++ [ns])).flatten.map (mkD false))) := by
      rw [mul_lst (by simp; omega), List.map_flatten, List.map_replicate]
    have ll : 65 + d1 % 3 ≤ (List.replicate 67 (rows ++ [ns])).flatten.length := by
      rw [List.length_flatten, List.map_replicate, List.sum_replicate_nat, List.length_append, List.length_cons, List.length_nil]
      omega
    have sl : sliceD (.lst ((List.replicate 67 (rows ++ [ns])).flatten.map (mkD false))) none (some ((65 + d1 % 3 : Nat) : Int)) = .ok (.lst (((List.replicate 67 (rows ++ [ns])).flatten.take (65 + d1 % 3)).map (mkD false))) := by
      rw [List.map_take]
      simp only [sliceD]
      rw [cut_to _ _ (by rw [List.length_map]; exact ll)]
    generalize hfl : (List.replicate 67 (rows ++ [ns])).flatten = fl at ml ll sl
    refine ⟨fl.take (65 + d1 % 3), ?_, ?_, fun r hr' w hw => ?_, by rw [List.length_take]; omega⟩
    · refine run_sh ?_
      show G__law_wrong_rows [some (.lst (natsD ds)), some (.lst (ns.map .str)), some (.lst (rows.map (mkD false))), none, none, none, none] = _
      unfold G__law_wrong_rows
      refine seq_ret ?_
      refine (if_tt ?_).trans ?_
      · simp only [x_f2, x_fTst, x_fC, x_fCall, x_fCons, x_fNil, x_fVar, x_fSl, x_fNoPart, x_fPart, x_asB, List.map_cons, List.map_nil, List.length_cons, List.length_nil, List.replicate, List.cons_append, List.nil_append, List.set_cons_succ, List.set_cons_zero, List.getElem?_cons_succ, List.getElem?_cons_zero, R.bind_ok, i0, int_int, m0, eq_int, eq_true t0, decide_true]
      refine (seq_nx (asg_nx (d := .lst (fl.map (mkD false))) ?_)).trans (ret_ok ?_)
      · have l1 : ∀ ρ : Rho, ρ[1]? = some (some (.lst (ns.map .str))) → fLst (fCons (fCall listD (fCons (fVar 1) fNil)) fNil) ρ = .ok (.lst [.lst (ns.map .str)]) := fun ρ h => lst_one (by simp [h, listD])
        have l2 := l1 [some (.lst (natsD ds)), some (.lst (ns.map .str)), some (.lst (rows.map (mkD false))), none, none, none, none] rfl
        simp only [x_f2, l2, x_fVar, x_fC, List.getElem?_cons_succ, List.getElem?_cons_zero, R.bind_ok, ad, ml]
      · simp only [x_f2, x_fTst, x_fC, x_fCall, x_fCons, x_fNil, x_fVar, x_fSl, x_fNoPart, x_fPart, x_asB, List.map_cons, List.map_nil, List.length_cons, List.length_nil, List.replicate, List.cons_append, List.nil_append, List.set_cons_succ, List.set_cons_zero, List.getElem?_cons_succ, List.getElem?_cons_zero, R.bind_ok, i1, int_int, m1, a1, sl]
    · have : ¬ (fl.take (65 + d1 % 3)).length ≤ 64 := by
        rw [List.length_take]
        omega
      rw [decide_eq_false this, Bool.false_and]
    · have hm := List.mem_of_mem_take hr'
      rw [← hfl, List.mem_flatten] at hm
      obtain ⟨l, hl1, hl2⟩ := hm
      have := (List.mem_replicate.mp hl1).2
      subst this
      rcases List.mem_append.mp hl2 with q | q
      · exact hrk r q w hw
      · rw [List.mem_singleton] at q
        subst q
        exact hok w hw
  · have t0 : ¬ ((d0 % 3 : Nat) : Int) = 0 := by omega
    have lnr : lenD [.lst (rows.map (mkD false))] = .ok (.int ((rows.length : Nat) : Int)) := by
      rw [← List.length_map (f := mkD false)]
      rfl
    have pre : ∃ o : Str, (sSeq (sAsg 3 (fC (.str "a"))) (sIf (fTst (f2 gtD (fCall lenD (fCons (fVar 1) fNil)) (fC (.int 0)))) (sAsg 3 (f2 addD (f2 ixD (fVar 1) (f2 modD (fCall intD (fCons (f2 ixD (fVar 0) (fC (.int 1))) fNil)) (fCall lenD (fCons (fVar 1) fNil)))) (fC (.str "0")))) sSkip)) [some (.lst (natsD ds)), some (.lst (ns.map .str)), some (.lst (rows.map (mkD false))), none, none, none, none] = .nx [some (.lst (natsD ds)), some (.lst (ns.map .str)), some (.lst (rows.map (mkD false))), some (.str o), none, none, none] ∧ o ∉ ns ∧ PyData.strOk o = true := by
      have ln : lenD [.lst (ns.map D.str)] = .ok (.int ((ns.length : Nat) : Int)) := by
        rw [← List.length_map (f := D.str)]
        rfl
      by_cases h : 0 < ns.length
      · have h' : (0 : Int) < ((ns.length : Nat) : Int) := by omega
        have mm : modD (.int (d1 : Int)) (.int ((ns.length : Nat) : Int)) = .ok (.int ((d1 % ns.length : Nat) : Int)) := mod_nat d1 _ h
        have hx : d1 % ns.length < ns.length := Nat.mod_lt _ h
        have x1 : ixD (.lst (ns.map D.str)) (.int ((d1 % ns.length : Nat) : Int)) = .ok (.str ns[d1 % ns.length]) := ix_lst _ _ _ (by rw [List.getElem?_map, List.getElem?_eq_getElem hx]; rfl)
        have hw := hn _ (List.getElem_mem hx)
        have hwk := hok _ (List.getElem_mem hx)
        generalize ns[d1 % ns.length] = w at x1 hw hwk
        have e1 : ("0" : Str).length = 1 := by kernel_rfl
        have a1 : addD (.str w) (.str "0") = .ok (.str (w ++ "0")) := by
          have := hw.1
          simp only [addD, e1]
          rw [if_pos (by omega)]
        refine ⟨w ++ "0", ?_, hw.2, ?_⟩
        · refine (seq_nx (asg_nx (d := .str "a") rfl)).trans ?_
          refine (if_tt ?_).trans (asg_nx ?_)
          · simp only [x_f2, x_fTst, x_fC, x_fCall, x_fCons, x_fNil, x_fVar, x_fSl, x_fNoPart, x_fPart, x_asB, List.map_cons, List.map_nil, List.length_cons, List.length_nil, List.replicate, List.cons_append, List.nil_append, List.set_cons_succ, List.set_cons_zero, List.getElem?_cons_succ, List.getElem?_cons_zero, R.bind_ok, ln, gt_int, eq_true h', decide_true]
          · simp only [x_f2, x_fTst, x_fC, x_fCall, x_fCons, x_fNil, x_fVar, x_fSl, x_fNoPart, x_fPart, x_asB, List.map_cons, List.map_nil, List.length_cons, List.length_nil, List.replicate, List.cons_append, List.nil_append, List.set_cons_succ, List.set_cons_zero, List.getElem?_cons_succ, List.getElem?_cons_zero, R.bind_ok, ln, i1, int_int, mm, x1, a1]
        · exact strOk_app hwk (by decide +kernel)
      · have h' : ¬ (0 : Int) < ((ns.length : Nat) : Int) := by omega
        have hns : ns = [] := List.length_eq_zero_iff.mp (by omega)
        refine ⟨"a", ?_, by rw [hns]; exact List.not_mem_nil, ?_⟩
        · refine (seq_nx (asg_nx (d := .str "a") rfl)).trans ?_
          refine (if_ff ?_).trans rfl
          simp only [x_f2, x_fTst, x_fC, x_fCall, x_fCons, x_fNil, x_fVar, x_fSl, x_fNoPart, x_fPart, x_asB, List.map_cons, List.map_nil, List.length_cons, List.length_nil, List.replicate, List.cons_append, List.nil_append, List.set_cons_succ, List.set_cons_zero, List.getElem?_cons_succ, List.getElem?_cons_zero, R.bind_ok, ln, gt_int, eq_false h', decide_false]
        · decide +kernel
    obtain ⟨o, ho, ho2, ho3⟩ := pre
    have run : ∀ (rs : List (List Str)), (sSeq (sIf (fTst (f2 eqD (fCall lenD (fCons (fVar 2) fNil)) (fC (.int 0)))) (sRet (fLst (fCons (fLst (fCons (fVar 3) fNil)) fNil))) sSkip)
  (sSeq (sAsg 4 (f2 modD (fCall intD (fCons (f2 ixD (fVar 0) (fC (.int 2))) fNil)) (fCall lenD (fCons (fVar 2) fNil))))
  (sSeq (sAsg 5 (f2 modD (fCall intD (fCons (f2 ixD (fVar 0) (fC (.int 3))) fNil)) (f2 addD (fCall lenD (fCons (f2 ixD (fVar 2) (fVar 4)) fNil)) (fC (.int 1)))))
  (sRet (f2 addD (f2 addD (fSl sliceD (fVar 2) fNoPart (fPart (fVar 4))) (fLst (fCons (fCall F__law_put (fCons (f2 ixD (fVar 2) (fVar 4)) (fCons (fVar 5) (fCons (fVar 3) fNil)))) fNil))) (fSl sliceD (fVar 2) (fPart (f2 addD (fVar 4) (fC (.int 1)))) fNoPart)))))) [some (.lst (natsD ds)), some (.lst (ns.map .str)), some (.lst (rows.map (mkD false))), some (.str o), none, none, none] = .ret (.lst (rs.map (mkD false))) → F__law_wrong_rows [.lst (natsD ds), .lst (ns.map .str), .lst (rows.map (mkD false))] = .ok (.lst (rs.map (mkD false))) := fun rs hrs => by
      refine run_sh ?_
      show G__law_wrong_rows [some (.lst (natsD ds)), some (.lst (ns.map .str)), some (.lst (rows.map (mkD false))), none, none, none, none] = _
      unfold G__law_wrong_rows
      refine (seq_nx (ρ' := [some (.lst (natsD ds)), some (.lst (ns.map .str)), some (.lst (rows.map (mkD false))), none, none, none, none]) ((if_ff ?_).trans rfl)).trans ?_
      · simp only [x_f2, x_fTst, x_fC, x_fCall, x_fCons, x_fNil, x_fVar, x_fSl, x_fNoPart, x_fPart, x_asB, List.map_cons, List.map_nil, List.length_cons, List.length_nil, List.replicate, List.cons_append, List.nil_append, List.set_cons_succ, List.set_cons_zero, List.getElem?_cons_succ, List.getElem?_cons_zero, R.bind_ok, i0, int_int, m0, eq_int, eq_false t0, decide_false]
      exact (seq_assoc _ _ _ _).symm.trans ((seq_nx ho).trans hrs)
    by_cases hz0 : rows.length = 0
    · have z' : ((rows.length : Nat) : Int) = 0 := by omega
      refine ⟨[[o]], run _ ?_, rows_no List.mem_cons_self List.mem_cons_self ho2, fun r hr' w hw => ?_, by simp⟩
      · refine seq_ret ((if_tt ?_).trans (ret_ok (lst_one (lst_one rfl))))
        simp only [x_f2, x_fTst, x_fC, x_fCall, x_fCons, x_fNil, x_fVar, x_fSl, x_fNoPart, x_fPart, x_asB, List.map_cons, List.map_nil, List.length_cons, List.length_nil, List.replicate, List.cons_append, List.nil_append, List.set_cons_succ, List.set_cons_zero, List.getElem?_cons_succ, List.getElem?_cons_zero, R.bind_ok, lnr, eq_int, eq_true z', decide_true]
      · rw [List.mem_singleton] at hr'
        subst hr'
        rw [List.mem_singleton] at hw
        subst hw
        exact ho3
    · have z' : ¬ ((rows.length : Nat) : Int) = 0 := by omega
      have m2 : modD (.int (d2 : Int)) (.int ((rows.length : Nat) : Int)) = .ok (.int ((d2 % rows.length : Nat) : Int)) := mod_nat d2 _ (by omega)
      have hx : d2 % rows.length < rows.length := Nat.mod_lt _ (by omega)
      have x1 : ixD (.lst (rows.map (mkD false))) (.int ((d2 % rows.length : Nat) : Int)) = .ok (.lst (rows[d2 % rows.length].map .str)) := ix_lst _ _ _ (by rw [List.getElem?_map, List.getElem?_eq_getElem hx]; rfl)
      have hrr := hr _ (List.getElem_mem hx)
      have hrrk := hrk _ (List.getElem_mem hx)
      generalize rows[d2 % rows.length] = r at x1 hrr hrrk
      generalize d2 % rows.length = at' at m2 hx x1
      have lr : lenD [.lst (r.map D.str)] = .ok (.int ((r.length : Nat) : Int)) := by
        rw [← List.length_map (f := D.str)]
        rfl
      have a1 : addD (.int ((r.length : Nat) : Int)) (.int 1) = .ok (.int ((r.length + 1 : Nat) : Int)) := rfl
      have a2 : addD (.int ((at' : Nat) : Int)) (.int 1) = .ok (.int ((at' + 1 : Nat) : Int)) := rfl
      have m3 : modD (.int (d3 : Int)) (.int ((r.length + 1 : Nat) : Int)) = .ok (.int ((d3 % (r.length + 1) : Nat) : Int)) := mod_nat d3 _ (by omega)
      have hp : d3 % (r.length + 1) ≤ r.length := by
        have := Nat.mod_lt d3 (show 0 < r.length + 1 by omega)
        omega
      generalize d3 % (r.length + 1) = pl at m3 hp
      have pu : F__law_put [.lst (r.map .str), .int (pl : Int), .str o] = .ok (.lst ((r.take pl ++ [o] ++ r.drop pl).map .str)) := by
        have := put_eq (xs := r.map D.str) (t := .str o) (p := pl) (by rw [List.length_map]; exact hp) (by rw [List.length_map]; omega)
        rw [this]
        simp [List.map_take, List.map_drop]
      have s1 : sliceD (.lst (rows.map (mkD false))) none (some ((at' : Nat) : Int)) = .ok (.lst ((rows.take at').map (mkD false))) := by
        rw [List.map_take]
        simp only [sliceD]
        rw [cut_to _ _ (by rw [List.length_map]; omega)]
      have s2 : sliceD (.lst (rows.map (mkD false))) (some ((at' + 1 : Nat) : Int)) none = .ok (.lst ((rows.drop (at' + 1)).map (mkD false))) := by
        rw [List.map_drop]
        simp only [sliceD]
        rw [cut_from _ _ (by rw [List.length_map]; omega)]
      have b1 : addD (.lst ((rows.take at').map (mkD false))) (.lst [.lst ((r.take pl ++ [o] ++ r.drop pl).map .str)]) = .ok (.lst ((rows.take at' ++ [r.take pl ++ [o] ++ r.drop pl]).map (mkD false))) := by
        rw [add_lst (by simp; omega)]
        simp [mkD]
      have b2 : addD (.lst ((rows.take at' ++ [r.take pl ++ [o] ++ r.drop pl]).map (mkD false))) (.lst ((rows.drop (at' + 1)).map (mkD false))) = .ok (.lst ((rows.take at' ++ [r.take pl ++ [o] ++ r.drop pl] ++ rows.drop (at' + 1)).map (mkD false))) := by
        rw [add_lst (by simp; omega), ← List.map_append]
      refine ⟨rows.take at' ++ [r.take pl ++ [o] ++ r.drop pl] ++ rows.drop (at' + 1), run _ ?_, rows_no (r := r.take pl ++ [o] ++ r.drop pl) (by simp) (x := o) (by simp) ho2, fun q hq w hw => ?_, by simp; omega⟩
      · refine (seq_nx (ρ' := [some (.lst (natsD ds)), some (.lst (ns.map .str)), some (.lst (rows.map (mkD false))), some (.str o), none, none, none]) ((if_ff ?_).trans rfl)).trans ?_
        · simp only [x_f2, x_fTst, x_fC, x_fCall, x_fCons, x_fNil, x_fVar, x_fSl, x_fNoPart, x_fPart, x_asB, List.map_cons, List.map_nil, List.length_cons, List.length_nil, List.replicate, List.cons_append, List.nil_append, List.set_cons_succ, List.set_cons_zero, List.getElem?_cons_succ, List.getElem?_cons_zero, R.bind_ok, lnr, eq_int, eq_false z', decide_false]
        refine (seq_nx (asg_nx (d := .int (at' : Int)) ?_)).trans ?_
        · simp only [x_f2, x_fTst, x_fC, x_fCall, x_fCons, x_fNil, x_fVar, x_fSl, x_fNoPart, x_fPart, x_asB, List.map_cons, List.map_nil, List.length_cons, List.length_nil, List.replicate, List.cons_append, List.nil_append, List.set_cons_succ, List.set_cons_zero, List.getElem?_cons_succ, List.getElem?_cons_zero, R.bind_ok, i2, int_int, lnr, m2]
        refine (seq_nx (asg_nx (d := .int (pl : Int)) ?_)).trans (ret_ok ?_)
        · simp only [x_f2, x_fTst, x_fC, x_fCall, x_fCons, x_fNil, x_fVar, x_fSl, x_fNoPart, x_fPart, x_asB, List.map_cons, List.map_nil, List.length_cons, List.length_nil, List.replicate, List.cons_append, List.nil_append, List.set_cons_succ, List.set_cons_zero, List.getElem?_cons_succ, List.getElem?_cons_zero, R.bind_ok, i3, int_int, x1, lr, a1, m3]
        · have l1 : ∀ (f : FE) (ρ : Rho) (d : D), f ρ = .ok d → fLst (fCons f fNil) ρ = .ok (.lst [d]) := fun _ _ _ h => lst_one h
          have l2 : ∀ ρ : Rho, ρ[2]? = some (some (.lst (rows.map (mkD false)))) → ρ[4]? = some (some (.int (at' : Int))) → ρ[5]? = some (some (.int (pl : Int))) → ρ[3]? = some (some (.str o)) → fLst (fCons (fCall F__law_put (fCons (f2 ixD (fVar 2) (fVar 4)) (fCons (fVar 5) (fCons (fVar 3) fNil)))) fNil) ρ = .ok (.lst [.lst ((r.take pl ++ [o] ++ r.drop pl).map .str)]) := fun ρ h1 h2 h3 h4 => l1 _ _ _ (by simp only [x_fCall, x_fCons, x_f2, x_fVar, h1, h2, h3, h4, R.bind_ok, x1, x_fNil, pu])
          have l3 := l2 [some (.lst (natsD ds)), some (.lst (ns.map .str)), some (.lst (rows.map (mkD false))), some (.str o), some (.int (at' : Int)), some (.int (pl : Int)), none] rfl rfl rfl rfl
          simp only [x_f2, x_fTst, x_fC, x_fCall, x_fCons, x_fNil, x_fVar, x_fSl, x_fNoPart, x_fPart, x_asB, List.map_cons, List.map_nil, List.length_cons, List.length_nil, List.replicate, List.cons_append, List.nil_append, List.set_cons_succ, List.set_cons_zero, List.getElem?_cons_succ, List.getElem?_cons_zero, R.bind_ok, l3, s1, b1, a2, s2, b2]
      · simp only [List.mem_append, List.mem_singleton] at hq
        rcases hq with (hq | rfl) | hq
        · exact hrk q (List.mem_of_mem_take hq) w hw
        · simp only [List.mem_append, List.mem_singleton] at hw
          rcases hw with (hw | rfl) | hw
          · exact hrrk w (List.mem_of_mem_take hw)
          · exact ho3
          · exact hrrk w (List.mem_of_mem_drop hw)
        · exact hrk q (List.mem_of_mem_drop hq) w hw
end M55
end
section
set_option maxRecDepth 100000
set_option maxHeartbeats 2000000
open PySem PySem.Spec L2 T2
namespace M55
theorem compL_ex {i : Nat} {ft : FT} {g : FE} {ρ : Rho} (Q : D → Prop) : ∀ ds : List D, (∀ d ∈ ds, ∃ b, ft (ρ.set i (some d)) = .ok b ∧ ∃ y, g (ρ.set i (some d)) = .ok y ∧ Q y) → ∃ ys, compL i ft g ρ ds = .ok ys ∧ (∀ y ∈ ys, Q y) ∧ ys.length ≤ ds.length
  | [], _ => ⟨[], rfl, fun _ h => (nomatch h), Nat.le_refl _⟩
  | d :: ds, h => by
    obtain ⟨ys, e, q, l⟩ := compL_ex Q ds fun d' hd' => h d' (List.mem_cons_of_mem _ hd')
    obtain ⟨b, e1, y, e2, q2⟩ := h d List.mem_cons_self
    rw [compL, e1, e]
    cases b with
    | true =>
      rw [e2]
      refine ⟨y :: ys, by simp [R.safe], fun z hz => ?_, by simpa using l⟩
      rcases List.mem_cons.mp hz with rfl | hz
      · exact q2
      · exact q z hz
    | false => exact ⟨ys, by simp [R.safe], q, by simp only [List.length_cons]; omega⟩
theorem strs_of {ns : List Str} : ∀ ys : List D, (∀ y ∈ ys, ∃ w ∈ ns, y = .str w) → ∃ r : List Str, ys = r.map .str ∧ ∀ w ∈ r, w ∈ ns
  | [], _ => ⟨[], rfl, fun _ h => (nomatch h)⟩
  | y :: ys, h => by
    obtain ⟨r, e, q⟩ := strs_of ys fun y' hy => h y' (List.mem_cons_of_mem _ hy)
    obtain ⟨w, hw, rfl⟩ := h y List.mem_cons_self
    refine ⟨w :: r, by rw [e]; rfl, fun z hz => ?_⟩
    rcases List.mem_cons.mp hz with rfl | hz
    · exact hw
    · exact q z hz
theorem len_strs (ns : List Str) : lenD [.lst (ns.map D.str)] = .ok (.int ((ns.length : Nat) : Int)) := by
  rw [← List.length_map (f := D.str)]
  rfl
theorem ix_str {ns : List Str} {k : Nat} (h : k < ns.length) : ixD (.lst (ns.map D.str)) (.int (k : Int)) = .ok (.str ns[k]) := ix_lst _ _ _ (by rw [List.getElem?_map, List.getElem?_eq_getElem h]; rfl)
variable {ds : List Nat} {ns : List Str} {a2 a3 a4 a5 a6 a7 : Option D} {n : Nat}
theorem row_comp (hl : ns.length ≤ 6) : ∃ r : List Str, (fComp 7 (fRng (fCons (fCall lenD (fCons (fVar 1) fNil)) fNil)) (fTst (f2 eqD (f2 modD (fCall intD (fCons (f2 divD (fVar 5) (f2 shlD (fC (.int 1)) (fVar 7))) fNil)) (fC (.int 2))) (fC (.int 1)))) (f2 ixD (fVar 1) (fVar 7))) [some (.lst (natsD ds)), some (.lst (ns.map .str)), a2, a3, a4, some (.int (n : Int)), a6, a7] = .ok (.lst (r.map .str)) ∧ (∀ w ∈ r, w ∈ ns) ∧ r.length ≤ 6 := by
  have big := sl_big
  have hs : ((List.range' 0 ns.length).map fun k : Nat => D.int k).length = ns.length := by simp
  obtain ⟨ys, e, q, l⟩ := compL_ex (i := 7) (ft := (fTst (f2 eqD (f2 modD (fCall intD (fCons (f2 divD (fVar 5) (f2 shlD (fC (.int 1)) (fVar 7))) fNil)) (fC (.int 2))) (fC (.int 1))))) (g := (f2 ixD (fVar 1) (fVar 7))) (ρ := [some (.lst (natsD ds)), some (.lst (ns.map .str)), a2, a3, a4, some (.int (n : Int)), a6, a7]) (fun y => ∃ w ∈ ns, y = .str w) ((List.range' 0 ns.length).map fun k : Nat => D.int k) (fun d hd => by
    obtain ⟨j, hj, rfl⟩ := List.mem_map.mp hd
    have hj : j < ns.length := by simpa using hj
    have sh : shlD (.int 1) (.int (j : Int)) = .ok (.int ((2 ^ j : Nat) : Int)) := by
      simp only [shlD]
      rw [if_pos ⟨by omega, by omega, by decide⟩]
      simp
    have pj : 2 ^ j ≤ 2 ^ 6 := Nat.pow_le_pow_right (by omega) (by omega)
    have dv := div_nat n (2 ^ j) (Nat.pos_of_ne_zero (by simp)) (by omega)
    have md := mod_nat (n / 2 ^ j) 2 (by omega)
    have md : modD (.int ((n / 2 ^ j : Nat) : Int)) (.int 2) = .ok (.int ((n / 2 ^ j % 2 : Nat) : Int)) := md
    generalize n / 2 ^ j % 2 = m at md
    generalize n / 2 ^ j = q at dv md
    generalize 2 ^ j = p at sh dv
    refine ⟨decide ((m : Int) = 1), ?_, .str ns[j], ?_, ns[j], List.getElem_mem hj, rfl⟩
    · simp only [x_f2, x_f1, x_fTst, x_fAndT, x_fC, x_fCall, x_fCons, x_fNil, x_fVar, x_asB, List.map_cons, List.map_nil, List.length_cons, List.length_nil, List.replicate, List.cons_append, List.nil_append, List.set_cons_succ, List.set_cons_zero, List.getElem?_cons_succ, List.getElem?_cons_zero, R.bind_ok, sh, dv, int_int, md, eq_int]
    · simp only [x_f2, x_f1, x_fTst, x_fAndT, x_fC, x_fCall, x_fCons, x_fNil, x_fVar, x_asB, List.map_cons, List.map_nil, List.length_cons, List.length_nil, List.replicate, List.cons_append, List.nil_append, List.set_cons_succ, List.set_cons_zero, List.getElem?_cons_succ, List.getElem?_cons_zero, R.bind_ok, ix_str hj])
  obtain ⟨r, rfl, hr⟩ := strs_of ys q
  refine ⟨r, fComp_ok (rng_fe ?_ (by omega)) (by rw [hs]; omega) e, hr, ?_⟩
  · simp only [x_f2, x_f1, x_fTst, x_fAndT, x_fC, x_fCall, x_fCons, x_fNil, x_fVar, x_asB, List.map_cons, List.map_nil, List.length_cons, List.length_nil, List.replicate, List.cons_append, List.nil_append, List.set_cons_succ, List.set_cons_zero, List.getElem?_cons_succ, List.getElem?_cons_zero, R.bind_ok, len_strs]
  · rw [List.length_map, hs] at l
    omega
theorem row_if1 {r : List Str} (hr : ∀ w ∈ r, w ∈ ns) (h6 : r.length ≤ 6) : ∃ r' : List Str, (sIf (fAndT (fTst (f2 eqD (fCall lenD (fCons (fVar 6) fNil)) (fC (.int 0)))) (fAndT (fTst (f2 gtD (fCall lenD (fCons (fVar 1) fNil)) (fC (.int 0)))) (fTst (f2 gtD (f2 modD (fVar 5) (fC (.int 5))) (fC (.int 0)))))) (sAsg 6 (fLst (fCons (f2 ixD (fVar 1) (f2 modD (fVar 5) (fCall lenD (fCons (fVar 1) fNil)))) fNil))) sSkip) [some (.lst (natsD ds)), some (.lst (ns.map .str)), a2, a3, a4, some (.int (n : Int)), some (.lst (r.map .str)), a7] = .nx [some (.lst (natsD ds)), some (.lst (ns.map .str)), a2, a3, a4, some (.int (n : Int)), some (.lst (r'.map .str)), a7] ∧ (∀ w ∈ r', w ∈ ns) ∧ r'.length ≤ 6 := by
  by_cases h : ((r.length : Nat) : Int) = 0 ∧ (0 : Int) < ((ns.length : Nat) : Int) ∧ (0 : Int) < ((n % 5 : Nat) : Int)
  · have hx : n % ns.length < ns.length := Nat.mod_lt _ (by omega)
    have md := mod_nat n ns.length (by omega)
    have m5 : modD (.int (n : Int)) (.int 5) = .ok (.int ((n % 5 : Nat) : Int)) := mod_nat n 5 (by omega)
    have ix := ix_str hx
    refine ⟨[ns[n % ns.length]], (if_tt ?_).trans (asg_nx (lst_one ?_)), fun w hw => ?_, by simp⟩
    · simp only [x_f2, x_f1, x_fTst, x_fAndT, x_fC, x_fCall, x_fCons, x_fNil, x_fVar, x_asB, List.map_cons, List.map_nil, List.length_cons, List.length_nil, List.replicate, List.cons_append, List.nil_append, List.set_cons_succ, List.set_cons_zero, List.getElem?_cons_succ, List.getElem?_cons_zero, R.bind_ok, len_strs, eq_int, gt_int, m5, eq_true h.1, eq_true h.2.1, eq_true h.2.2, decide_true, if_true]
    · simp only [x_f2, x_f1, x_fTst, x_fAndT, x_fC, x_fCall, x_fCons, x_fNil, x_fVar, x_asB, List.map_cons, List.map_nil, List.length_cons, List.length_nil, List.replicate, List.cons_append, List.nil_append, List.set_cons_succ, List.set_cons_zero, List.getElem?_cons_succ, List.getElem?_cons_zero, R.bind_ok, len_strs, md, ix]
    · rw [List.mem_singleton] at hw
      subst hw
      exact List.getElem_mem hx
  · have m5 : modD (.int (n : Int)) (.int 5) = .ok (.int ((n % 5 : Nat) : Int)) := mod_nat n 5 (by omega)
    refine ⟨r, (if_ff ?_).trans rfl, hr, h6⟩
    by_cases h1 : ((r.length : Nat) : Int) = 0
    · by_cases h2 : (0 : Int) < ((ns.length : Nat) : Int)
      · have h3 : ¬ (0 : Int) < ((n % 5 : Nat) : Int) := fun h3 => h ⟨h1, h2, h3⟩
        simp only [x_f2, x_f1, x_fTst, x_fAndT, x_fC, x_fCall, x_fCons, x_fNil, x_fVar, x_asB, List.map_cons, List.map_nil, List.length_cons, List.length_nil, List.replicate, List.cons_append, List.nil_append, List.set_cons_succ, List.set_cons_zero, List.getElem?_cons_succ, List.getElem?_cons_zero, R.bind_ok, len_strs, eq_int, gt_int, m5, eq_true h1, eq_true h2, eq_false h3, decide_true, if_true, decide_false]
      · simp only [x_f2, x_f1, x_fTst, x_fAndT, x_fC, x_fCall, x_fCons, x_fNil, x_fVar, x_asB, List.map_cons, List.map_nil, List.length_cons, List.length_nil, List.replicate, List.cons_append, List.nil_append, List.set_cons_succ, List.set_cons_zero, List.getElem?_cons_succ, List.getElem?_cons_zero, R.bind_ok, len_strs, eq_int, gt_int, m5, eq_true h1, eq_false h2, decide_true, if_true, decide_false, Bool.false_eq_true, if_false]
    · simp only [x_f2, x_f1, x_fTst, x_fAndT, x_fC, x_fCall, x_fCons, x_fNil, x_fVar, x_asB, List.map_cons, List.map_nil, List.length_cons, List.length_nil, List.replicate, List.cons_append, List.nil_append, List.set_cons_succ, List.set_cons_zero, List.getElem?_cons_succ, List.getElem?_cons_zero, R.bind_ok, len_strs, eq_int, eq_false h1, decide_false, Bool.false_eq_true, if_false]
theorem row_if2 {r : List Str} (hr : ∀ w ∈ r, w ∈ ns) (h6 : r.length ≤ 6) : ∃ r' : List Str, (sIf (fTst (f2 eqD (f2 modD (fCall intD (fCons (f2 divD (fVar 5) (fC (.int 128))) fNil)) (fC (.int 2))) (fC (.int 1)))) (sAsg 6 (f1 revD (fVar 6))) sSkip) [some (.lst (natsD ds)), some (.lst (ns.map .str)), a2, a3, a4, some (.int (n : Int)), some (.lst (r.map .str)), a7] = .nx [some (.lst (natsD ds)), some (.lst (ns.map .str)), a2, a3, a4, some (.int (n : Int)), some (.lst (r'.map .str)), a7] ∧ (∀ w ∈ r', w ∈ ns) ∧ r'.length ≤ 6 := by
  have dv : divD (.int (n : Int)) (.int 128) = .ok (.int ((n / 128 : Nat) : Int)) := div_nat n 128 (by omega) (by omega)
  have md : modD (.int ((n / 128 : Nat) : Int)) (.int 2) = .ok (.int ((n / 128 % 2 : Nat) : Int)) := mod_nat _ 2 (by omega)
  by_cases h : ((n / 128 % 2 : Nat) : Int) = 1
  · refine ⟨r.reverse, (if_tt ?_).trans (asg_nx ?_), fun w hw => hr w (List.mem_reverse.mp hw), by rw [List.length_reverse]; exact h6⟩
    · simp only [x_f2, x_f1, x_fTst, x_fAndT, x_fC, x_fCall, x_fCons, x_fNil, x_fVar, x_asB, List.map_cons, List.map_nil, List.length_cons, List.length_nil, List.replicate, List.cons_append, List.nil_append, List.set_cons_succ, List.set_cons_zero, List.getElem?_cons_succ, List.getElem?_cons_zero, R.bind_ok, dv, int_int, md, eq_int, eq_true h, decide_true]
    · simp only [x_f2, x_f1, x_fTst, x_fAndT, x_fC, x_fCall, x_fCons, x_fNil, x_fVar, x_asB, List.map_cons, List.map_nil, List.length_cons, List.length_nil, List.replicate, List.cons_append, List.nil_append, List.set_cons_succ, List.set_cons_zero, List.getElem?_cons_succ, List.getElem?_cons_zero, R.bind_ok, revD, List.map_reverse]
  · refine ⟨r, (if_ff ?_).trans rfl, hr, h6⟩
    simp only [x_f2, x_f1, x_fTst, x_fAndT, x_fC, x_fCall, x_fCons, x_fNil, x_fVar, x_asB, List.map_cons, List.map_nil, List.length_cons, List.length_nil, List.replicate, List.cons_append, List.nil_append, List.set_cons_succ, List.set_cons_zero, List.getElem?_cons_succ, List.getElem?_cons_zero, R.bind_ok, dv, int_int, md, eq_int, eq_false h, decide_false]
theorem row_if3 {r : List Str} (hr : ∀ w ∈ r, w ∈ ns) (h6 : r.length ≤ 6) : ∃ r' : List Str, (sIf (fAndT (fTst (f2 eqD (f2 modD (fCall intD (fCons (f2 divD (fVar 5) (fC (.int 256))) fNil)) (fC (.int 4))) (fC (.int 1)))) (fTst (f2 gtD (fCall lenD (fCons (fVar 6) fNil)) (fC (.int 0))))) (sAsg 6 (f2 addD (fVar 6) (fLst (fCons (f2 ixD (fVar 6) (fC (.int 0))) fNil)))) sSkip) [some (.lst (natsD ds)), some (.lst (ns.map .str)), a2, a3, a4, some (.int (n : Int)), some (.lst (r.map .str)), a7] = .nx [some (.lst (natsD ds)), some (.lst (ns.map .str)), a2, a3, a4, some (.int (n : Int)), some (.lst (r'.map .str)), a7] ∧ (∀ w ∈ r', w ∈ ns) ∧ r'.length ≤ 7 := by
  have dv : divD (.int (n : Int)) (.int 256) = .ok (.int ((n / 256 : Nat) : Int)) := div_nat n 256 (by omega) (by omega)
  have md : modD (.int ((n / 256 : Nat) : Int)) (.int 4) = .ok (.int ((n / 256 % 4 : Nat) : Int)) := mod_nat _ 4 (by omega)
  by_cases h : ((n / 256 % 4 : Nat) : Int) = 1
  · by_cases h2 : (0 : Int) < ((r.length : Nat) : Int)
    · have hx : 0 < r.length := by omega
      have ix : ixD (.lst (r.map D.str)) (.int 0) = .ok (.str r[0]) := ix_str hx
      have ad : addD (.lst (r.map D.str)) (.lst [.str r[0]]) = .ok (.lst ((r ++ [r[0]]).map .str)) := by
        rw [add_lst (by simp; omega)]
        simp
      have l1 : ∀ ρ : Rho, ρ[6]? = some (some (.lst (r.map D.str))) → fLst (fCons (f2 ixD (fVar 6) (fC (.int 0))) fNil) ρ = .ok (.lst [.str r[0]]) := fun ρ h => lst_one (by simp only [x_f2, x_fVar, h, R.bind_ok, x_fC, ix])
      have l2 := l1 [some (.lst (natsD ds)), some (.lst (ns.map .str)), a2, a3, a4, some (.int (n : Int)), some (.lst (r.map .str)), a7] rfl
      refine ⟨r ++ [r[0]], (if_tt ?_).trans (asg_nx ?_), fun w hw => ?_, by simp; omega⟩
      · simp only [x_f2, x_f1, x_fTst, x_fAndT, x_fC, x_fCall, x_fCons, x_fNil, x_fVar, x_asB, List.map_cons, List.map_nil, List.length_cons, List.length_nil, List.replicate, List.cons_append, List.nil_append, List.set_cons_succ, List.set_cons_zero, List.getElem?_cons_succ, List.getElem?_cons_zero, R.bind_ok, dv, int_int, md, eq_int, gt_int, len_strs, eq_true h, eq_true h2, decide_true, if_true]
      · simp only [x_f2, x_f1, x_fTst, x_fAndT, x_fC, x_fCall, x_fCons, x_fNil, x_fVar, x_asB, List.map_cons, List.map_nil, List.length_cons, List.length_nil, List.replicate, List.cons_append, List.nil_append, List.set_cons_succ, List.set_cons_zero, List.getElem?_cons_succ, List.getElem?_cons_zero, R.bind_ok, l2, ad]
      · rcases List.mem_append.mp hw with hw | hw
        · exact hr w hw
        · rw [List.mem_singleton] at hw
          subst hw
          exact hr _ (List.getElem_mem hx)
    · refine ⟨r, (if_ff ?_).trans rfl, hr, by omega⟩
      simp only [x_f2, x_f1, x_fTst, x_fAndT, x_fC, x_fCall, x_fCons, x_fNil, x_fVar, x_asB, List.map_cons, List.map_nil, List.length_cons, List.length_nil, List.replicate, List.cons_append, List.nil_append, List.set_cons_succ, List.set_cons_zero, List.getElem?_cons_succ, List.getElem?_cons_zero, R.bind_ok, dv, int_int, md, eq_int, gt_int, len_strs, eq_true h, eq_false h2, decide_true, if_true, decide_false]
  · refine ⟨r, (if_ff ?_).trans rfl, hr, by omega⟩
    simp only [x_f2, x_f1, x_fTst, x_fAndT, x_fC, x_fCall, x_fCons, x_fNil, x_fVar, x_asB, List.map_cons, List.map_nil, List.length_cons, List.length_nil, List.replicate, List.cons_append, List.nil_append, List.set_cons_succ, List.set_cons_zero, List.getElem?_cons_succ, List.getElem?_cons_zero, R.bind_ok, dv, int_int, md, eq_int, eq_false h, decide_false, Bool.false_eq_true, if_false]
noncomputable def rB : FS := (sSeq (sAsg 5 (fCall intD (fCons (f2 ixD (fVar 0) (fVar 4)) fNil)))
  (sSeq (sAsg 6 (fComp 7 (fRng (fCons (fCall lenD (fCons (fVar 1) fNil)) fNil)) (fTst (f2 eqD (f2 modD (fCall intD (fCons (f2 divD (fVar 5) (f2 shlD (fC (.int 1)) (fVar 7))) fNil)) (fC (.int 2))) (fC (.int 1)))) (f2 ixD (fVar 1) (fVar 7))))
  (sSeq (sIf (fAndT (fTst (f2 eqD (fCall lenD (fCons (fVar 6) fNil)) (fC (.int 0)))) (fAndT (fTst (f2 gtD (fCall lenD (fCons (fVar 1) fNil)) (fC (.int 0)))) (fTst (f2 gtD (f2 modD (fVar 5) (fC (.int 5))) (fC (.int 0)))))) (sAsg 6 (fLst (fCons (f2 ixD (fVar 1) (f2 modD (fVar 5) (fCall lenD (fCons (fVar 1) fNil)))) fNil))) sSkip)
  (sSeq (sIf (fTst (f2 eqD (f2 modD (fCall intD (fCons (f2 divD (fVar 5) (fC (.int 128))) fNil)) (fC (.int 2))) (fC (.int 1)))) (sAsg 6 (f1 revD (fVar 6))) sSkip)
  (sSeq (sIf (fAndT (fTst (f2 eqD (f2 modD (fCall intD (fCons (f2 divD (fVar 5) (fC (.int 256))) fNil)) (fC (.int 4))) (fC (.int 1)))) (fTst (f2 gtD (fCall lenD (fCons (fVar 6) fNil)) (fC (.int 0))))) (sAsg 6 (f2 addD (fVar 6) (fLst (fCons (f2 ixD (fVar 6) (fC (.int 0))) fNil)))) sSkip)
  (sApp 3 (fVar 6)))))))
theorem rows_step {acc : List (List Str)} {k : Nat} (hl : ns.length ≤ 6) (hk : k < ds.length) (ha : acc.length < 1000) : ∃ (r : List Str) (y5 y6 : Option D), rB [some (.lst (natsD ds)), some (.lst (ns.map .str)), a2, some (.lst (acc.map (mkD false))), some (.int (k : Int)), a5, a6, a7] = .nx [some (.lst (natsD ds)), some (.lst (ns.map .str)), a2, some (.lst ((acc ++ [r]).map (mkD false))), some (.int (k : Int)), y5, y6, a7] ∧ (∀ w ∈ r, w ∈ ns) ∧ r.length ≤ 7 := by
  have big := sl_big
  have ix := ix_nat ds k hk
  generalize ds.getD k 0 = n at ix
  obtain ⟨r1, c1, q1, l1⟩ := row_comp (ds := ds) (ns := ns) (a2 := a2) (a3 := some (.lst (acc.map (mkD false)))) (a4 := some (.int (k : Int))) (a6 := a6) (a7 := a7) (n := n) hl
  obtain ⟨r2, c2, q2, l2⟩ := row_if1 (ds := ds) (ns := ns) (a2 := a2) (a3 := some (.lst (acc.map (mkD false)))) (a4 := some (.int (k : Int))) (a7 := a7) (n := n) q1 l1
  obtain ⟨r3, c3, q3, l3⟩ := row_if2 (ds := ds) (ns := ns) (a2 := a2) (a3 := some (.lst (acc.map (mkD false)))) (a4 := some (.int (k : Int))) (a7 := a7) (n := n) q2 l2
  obtain ⟨r4, c4, q4, l4⟩ := row_if3 (ds := ds) (ns := ns) (a2 := a2) (a3 := some (.lst (acc.map (mkD false)))) (a4 := some (.int (k : Int))) (a7 := a7) (n := n) q3 l3
  refine ⟨r4, some (.int (n : Int)), some (.lst (r4.map .str)), ?_, q4, l4⟩
  unfold rB
  refine (seq_nx (asg_nx (d := .int (n : Int)) ?_)).trans ?_
  · simp only [x_f2, x_f1, x_fTst, x_fAndT, x_fC, x_fCall, x_fCons, x_fNil, x_fVar, x_asB, List.map_cons, List.map_nil, List.length_cons, List.length_nil, List.replicate, List.cons_append, List.nil_append, List.set_cons_succ, List.set_cons_zero, List.getElem?_cons_succ, List.getElem?_cons_zero, R.bind_ok, ix, int_int]
  refine (seq_nx (asg_nx c1)).trans ((seq_nx c2).trans ((seq_nx c3).trans ((seq_nx c4).trans ?_)))
  have e4 : (acc.map (mkD false)).length < sizeLine := by
    rw [List.length_map]
    omega
  have ap : acc.map (mkD false) ++ [.lst (r4.map .str)] = (acc ++ [r4]).map (mkD false) := by simp [mkD]
  simp only [sApp, x_sDo, x_fVar, List.set_cons_succ, List.set_cons_zero, List.getElem?_cons_succ, List.getElem?_cons_zero, e4, if_true, ap]
theorem rows_eq (many : Nat) (hm : many ≤ 64) (hd : many ≤ ds.length) (hl : ns.length ≤ 6) : ∃ rows : List (List Str), F__law_rows [.lst (natsD ds), .lst (ns.map .str), .int (many : Int)] = .ok (.lst (rows.map (mkD false))) ∧ rows.length = many ∧ ∀ r ∈ rows, (∀ w ∈ r, w ∈ ns) ∧ r.length ≤ 7 := by
  obtain ⟨ρ', e, rows, y4, y5, y6, y7, hρ, h1, h2⟩ := loop_inv (F := rB) (i := 4) (fun k ρ => ∃ (rows : List (List Str)) (y4 y5 y6 y7 : Option D), ρ = [some (.lst (natsD ds)), some (.lst (ns.map .str)), some (.int (many : Int)), some (.lst (rows.map (mkD false))), y4, y5, y6, y7] ∧ rows.length = k ∧ ∀ r ∈ rows, (∀ w ∈ r, w ∈ ns) ∧ r.length ≤ 7)
    ((List.range' 0 many).map fun k : Nat => D.int k) 0 [some (.lst (natsD ds)), some (.lst (ns.map .str)), some (.int (many : Int)), some (.lst []), none, none, none, none] (fun k d ρ hk ⟨rows, y4, y5, y6, y7, hρ, h1, h2⟩ => by
      subst hρ
      have hk1 : k < many := by
        have := (List.getElem?_eq_some_iff.mp hk).1
        simpa using this
      obtain rfl : d = .int ((k : Nat) : Int) := by
        rw [List.getElem?_map, List.getElem?_range' (by omega)] at hk
        simpa using hk.symm
      obtain ⟨r, z5, z6, e1, e2, e3⟩ := rows_step (ds := ds) (ns := ns) (a2 := some (.int (many : Int))) (a5 := y5) (a6 := y6) (a7 := y7) (acc := rows) (k := k) hl (by omega) (by omega)
      refine ⟨_, .inl e1, rows ++ [r], _, _, _, _, rfl, by simp [h1], fun q hq => ?_⟩
      rcases List.mem_append.mp hq with q' | q'
      · exact h2 q q'
      · rw [List.mem_singleton] at q'
        subst q'
        exact ⟨e2, e3⟩) ⟨[], none, none, none, none, rfl, rfl, fun _ h => (nomatch h)⟩
  subst hρ
  refine ⟨rows, ?_, by simpa using h1, h2⟩
  unfold rB at e
  refine run_sh ?_
  show G__law_rows [some (.lst (natsD ds)), some (.lst (ns.map .str)), some (.int (many : Int)), none, none, none, none, none] = _
  unfold G__law_rows
  refine (seq_nx (asg_nx (lst_nil _))).trans ((seq_nx (for_nx (rng_fe rfl (by omega)) e)).trans ?_)
  exact ret_ok rfl
end M55
end
section
set_option maxRecDepth 100000
set_option maxHeartbeats 2000000
open PySem PySem.Spec L2 T2
namespace M55
/-- a text of these codes -/
def enc (l : List Nat) : Str := ⟨l.toArray⟩
theorem enc_len (l : List Nat) : (enc l).length = l.length := by simp [enc, Str.length]
theorem enc_app (l m : List Nat) : enc l ++ enc m = enc (l ++ m) := by
  show (⟨l.toArray ++ m.toArray⟩ : Str) = ⟨(l ++ m).toArray⟩
  simp
theorem enc_inj {l m : List Nat} (h : enc l = enc m) : l = m := by
  have : (enc l).cps.toList = (enc m).cps.toList := by rw [h]
  simpa [enc] using this
theorem enc_toList (l : List Nat) : (enc l).cps.toList = l := by simp [enc]
theorem abc_at : ∀ i < 26, (("abcdefghijklmnopqrstuvwxyz" : Str).cps.toList)[i]? = some (97 + i) := by decide +kernel
theorem ix_abc {i : Nat} (h : i < 26) : ixD (.str "abcdefghijklmnopqrstuvwxyz") (.int (i : Int)) = .ok (.str (enc [97 + i])) := by
  have big := sl_big
  have hl : ("abcdefghijklmnopqrstuvwxyz" : Str).length = 26 := by kernel_rfl
  have hl2 : (("abcdefghijklmnopqrstuvwxyz" : Str).cps.toList).length = 26 := by kernel_rfl
  have e : atI (("abcdefghijklmnopqrstuvwxyz" : Str).cps.toList) (i : Int) = some (97 + i) := by
    have hs : ("abcdefghijklmnopqrstuvwxyz" : Str).cps.size = 26 := by kernel_rfl
    have := abc_at i h
    have hi : (i : Int) < 26 := by omega
    simp [atI, ixN, hs, hi]
    simpa using this
  simp only [ixD]
  rw [if_pos (by rw [hl]; omega), e]
  rfl
theorem str_dig {j : Nat} (h : j < 10) : strD [.int (j : Int)] = .ok (.str (enc [48 + j])) := by
  have k : ∀ j : Nat, j < 10 → ((j : Int).natAbs.log2 < 1920) := fun j hj => by
    rcases j with _|_|_|_|_|_|_|_|_|_|j <;> first | decide | omega
  simp only [strD]
  rw [if_pos (k j h)]
  rcases j with _|_|_|_|_|_|_|_|_|_|j <;> first | rfl | omega
/-- a good word: a small letter, then letters, digits, hyphens; the last is no hyphen; a last 0 has a hyphen before it -/
def goodC (l : List Nat) : Prop := (∃ c r, l = c :: r ∧ 97 ≤ c ∧ c ≤ 122) ∧ (∀ c ∈ l, (97 ≤ c ∧ c ≤ 122) ∨ (48 ≤ c ∧ c ≤ 57) ∨ c = 45) ∧ l.getLast? ≠ some 45 ∧ (l.getLast? = some 48 → l.dropLast.getLast? = some 45)
theorem abc_mem : ∀ c < 128, 97 ≤ c ∧ c ≤ 122 → c ∈ abc := by decide +kernel
theorem oth_mem : ∀ c < 128, ((97 ≤ c ∧ c ≤ 122) ∨ (48 ≤ c ∧ c ≤ 57) ∨ c = 45) → c ∈ oth := by decide +kernel
theorem good_isW {l : List Nat} (h : goodC l) (hl : l.length ≤ 12) : isW (enc l) = true := by
  obtain ⟨⟨c, r, rfl, h1⟩, h2, -, -⟩ := h
  unfold isW
  rw [enc_len, enc_toList]
  have a1 : c ∈ abc := abc_mem c (by omega) h1
  have a2 : (c :: r).all (fun d => decide (d ∈ oth)) = true := List.all_eq_true.mpr fun d hd => decide_eq_true (oth_mem d (by have := h2 d hd; omega) (h2 d hd))
  have a3 : 1 ≤ (c :: r).length ∧ (c :: r).length ≤ 12 := ⟨by simp, hl⟩
  rw [decide_eq_true a3]
  simp only [a2, decide_eq_true a1, Bool.and_true]
theorem good_app {l : List Nat} {c : Nat} (h : goodC l) (hc : 97 ≤ c ∧ c ≤ 122) : goodC (l ++ [c]) := by
  obtain ⟨⟨x, r, rfl, h1⟩, h2, -, -⟩ := h
  refine ⟨⟨x, r ++ [c], rfl, h1⟩, fun d hd => ?_, ?_, fun e => ?_⟩
  · rcases List.mem_append.mp hd with q | q
    · exact h2 d q
    · rw [List.mem_singleton] at q
      omega
  · rw [List.getLast?_concat]
    intro e
    have := Option.some.inj e
    omega
  · rw [List.getLast?_concat] at e
    have := Option.some.inj e
    omega
theorem good_one {c : Nat} (hc : 97 ≤ c ∧ c ≤ 122) : goodC [c] := by
  refine ⟨⟨c, [], rfl, hc⟩, fun d hd => ?_, ?_, fun e => ?_⟩
  · rw [List.mem_singleton] at hd
    omega
  · intro e
    have : c = 45 := Option.some.inj e
    omega
  · have : c = 48 := Option.some.inj e
    omega
theorem good_dig {c j : Nat} (hc : 97 ≤ c ∧ c ≤ 122) (hj : j < 10) : goodC [c, 45, 48 + j] := by
  refine ⟨⟨c, [45, 48 + j], rfl, hc⟩, fun d hd => ?_, ?_, fun e => rfl⟩
  · simp only [List.mem_cons, List.not_mem_nil, or_false] at hd
    omega
  · intro e
    have : 48 + j = 45 := Option.some.inj e
    omega
theorem good_no0 {l m : List Nat} (h : goodC l) (hm : goodC m) : enc l ++ "0" ≠ enc m := by
  intro e
  have z : ("0" : Str) = enc [48] := by kernel_rfl
  rw [z, enc_app] at e
  have e := enc_inj e
  subst e
  have := hm.2.2.2 List.getLast?_concat
  rw [List.dropLast_concat] at this
  exact h.2.2.1 this
/-- how many of these are shorter -/
theorem cnt_short : ∀ (told : List (List Nat)) (l : List Nat), l ∈ told → told.countP (fun x => decide (x.length < l.length)) + 1 ≤ told.countP (fun x => decide (x.length < l.length + 1))
  | [], l, h => (nomatch h)
  | x :: r, l, h => by
    have mono : ∀ r : List (List Nat), r.countP (fun x => decide (x.length < l.length)) ≤ r.countP (fun x => decide (x.length < l.length + 1)) := fun r => List.countP_mono_left fun y _ hy => by
      simp only [decide_eq_true_eq] at hy ⊢
      omega
    rw [List.countP_cons, List.countP_cons]
    rcases List.mem_cons.mp h with rfl | h
    · have := mono r
      simp
      exact this
    · have := cnt_short r l h
      by_cases q : x.length < l.length
      · have q2 : x.length < l.length + 1 := by omega
        simp only [q, q2, decide_true, if_true]
        omega
      · simp only [q, decide_false, Bool.false_eq_true, if_false]
        omega
end M55
end
section
set_option maxRecDepth 100000
set_option maxHeartbeats 2000000
open PySem PySem.Spec L2 T2
namespace M55
variable {ds : List Nat} {a1 : Option D} {told : List (List Nat)} {k : Nat}
theorem good_ok {l : List Nat} (h : goodC l) : PyData.strOk (enc l) = true := by
  unfold PyData.strOk
  have : (enc l).cps = l.toArray := rfl
  rw [this, List.all_toArray]
  refine List.all_eq_true.mpr fun c hc => decide_eq_true ?_
  have := h.2.1 c hc
  omega
theorem okS_enc {told : List (List Nat)} (h : ∀ l ∈ told, goodC l) : okS (told.map enc) := fun w hw => by
  obtain ⟨l, hl, rfl⟩ := List.mem_map.mp hw
  exact good_ok (h l hl)
theorem mem_enc {told : List (List Nat)} {l : List Nat} : enc l ∈ told.map enc ↔ l ∈ told := by
  refine ⟨fun h => ?_, fun h => List.mem_map.mpr ⟨l, h, rfl⟩⟩
  obtain ⟨m, hm, e⟩ := List.mem_map.mp h
  rw [← enc_inj e]
  exact hm
noncomputable def tB : FS := (sIf (fTst (f2 inE (fVar 5) (fVar 3))) (sAsg 5 (f2 addD (fVar 5) (f2 ixD (fVar 2) (f2 modD (fCall intD (fCons (f2 addD (f2 ixD (fVar 0) (fVar 4)) (fVar 6)) fNil)) (fC (.int 26)))))) sSkip)
theorem turn_step {l : List Nat} {t : Nat} (hk : k < ds.length) (ht : ∀ l ∈ told, goodC l) (hg : goodC l) (hl : l.length ≤ 1000) : (l ∉ told ∧ tB [some (.lst (natsD ds)), a1, some (.str "abcdefghijklmnopqrstuvwxyz"), some (.lst ((told.map enc).map .str)), some (.int (k : Int)), some (.str (enc l)), some (.int (t : Int))] = .nx [some (.lst (natsD ds)), a1, some (.str "abcdefghijklmnopqrstuvwxyz"), some (.lst ((told.map enc).map .str)), some (.int (k : Int)), some (.str (enc l)), some (.int (t : Int))]) ∨ (l ∈ told ∧ ∃ c, (97 ≤ c ∧ c ≤ 122) ∧ tB [some (.lst (natsD ds)), a1, some (.str "abcdefghijklmnopqrstuvwxyz"), some (.lst ((told.map enc).map .str)), some (.int (k : Int)), some (.str (enc l)), some (.int (t : Int))] = .nx [some (.lst (natsD ds)), a1, some (.str "abcdefghijklmnopqrstuvwxyz"), some (.lst ((told.map enc).map .str)), some (.int (k : Int)), some (.str (enc (l ++ [c]))), some (.int (t : Int))]) := by
  have big := sl_big
  have ie : inE (.str (enc l)) (.lst ((told.map enc).map .str)) = .ok (.bl (decide (l ∈ told))) := by
    rw [in_seq (.inl rfl) (okS_enc ht) (good_ok hg)]
    simp only [mem_enc]
  unfold tB
  by_cases h : l ∈ told
  · refine .inr ⟨h, 97 + (ds.getD k 0 + t) % 26, by omega, ?_⟩
    have ix := ix_nat ds k hk
    generalize ds.getD k 0 = n at ix
    have ad : addD (.int (n : Int)) (.int (t : Int)) = .ok (.int ((n + t : Nat) : Int)) := by
      rw [add_int]
      simp
    have md : modD (.int ((n + t : Nat) : Int)) (.int 26) = .ok (.int (((n + t) % 26 : Nat) : Int)) := mod_nat _ 26 (by omega)
    have ia := ix_abc (Nat.mod_lt (n + t) (show 0 < 26 by omega))
    have ap : addD (.str (enc l)) (.str (enc [97 + (n + t) % 26])) = .ok (.str (enc (l ++ [97 + (n + t) % 26]))) := by
      simp only [addD]
      rw [if_pos (by rw [enc_len, enc_len]; simp; omega), enc_app]
    refine (if_tt ?_).trans (asg_nx ?_)
    · simp only [x_f2, x_f1, x_fTst, x_fAndT, x_fC, x_fCall, x_fCons, x_fNil, x_fVar, x_asB, List.map_cons, List.map_nil, List.length_cons, List.length_nil, List.replicate, List.cons_append, List.nil_append, List.set_cons_succ, List.set_cons_zero, List.getElem?_cons_succ, List.getElem?_cons_zero, R.bind_ok, ie, eq_true h, decide_true]
    · simp only [x_f2, x_f1, x_fTst, x_fAndT, x_fC, x_fCall, x_fCons, x_fNil, x_fVar, x_asB, List.map_cons, List.map_nil, List.length_cons, List.length_nil, List.replicate, List.cons_append, List.nil_append, List.set_cons_succ, List.set_cons_zero, List.getElem?_cons_succ, List.getElem?_cons_zero, R.bind_ok, ix, int_int, ad, md, ia, ap]
  · refine .inl ⟨h, (if_ff ?_).trans rfl⟩
    simp only [x_f2, x_f1, x_fTst, x_fAndT, x_fC, x_fCall, x_fCons, x_fNil, x_fVar, x_asB, List.map_cons, List.map_nil, List.length_cons, List.length_nil, List.replicate, List.cons_append, List.nil_append, List.set_cons_succ, List.set_cons_zero, List.getElem?_cons_succ, List.getElem?_cons_zero, R.bind_ok, ie, eq_false h, decide_false]
theorem turns (hk : k < ds.length) (ht : ∀ l ∈ told, goodC l) (h6 : told.length ≤ 6) {l0 : List Nat} (hg : goodC l0) (h3 : l0.length ≤ 3) {x6 : Option D} : ∃ (l : List Nat) (y6 : Option D), loopF tB 6 ((List.range' 0 9).map fun k : Nat => D.int k) [some (.lst (natsD ds)), a1, some (.str "abcdefghijklmnopqrstuvwxyz"), some (.lst ((told.map enc).map .str)), some (.int (k : Int)), some (.str (enc l0)), x6] = .nx [some (.lst (natsD ds)), a1, some (.str "abcdefghijklmnopqrstuvwxyz"), some (.lst ((told.map enc).map .str)), some (.int (k : Int)), some (.str (enc l)), y6] ∧ goodC l ∧ l ∉ told ∧ l.length ≤ 9 := by
  obtain ⟨ρ', e, l, y6, hρ, g1, g2, g3, g4⟩ := loop_inv (F := tB) (i := 6) (fun t ρ => ∃ (l : List Nat) (y6 : Option D), ρ = [some (.lst (natsD ds)), a1, some (.str "abcdefghijklmnopqrstuvwxyz"), some (.lst ((told.map enc).map .str)), some (.int (k : Int)), some (.str (enc l)), y6] ∧ goodC l ∧ 0 ≤ t ∧ l.length ≤ 3 + told.countP (fun x => decide (x.length < l.length)) ∧ (l ∉ told ∨ t ≤ told.countP (fun x => decide (x.length < l.length))))
    ((List.range' 0 9).map fun k : Nat => D.int k) 0 [some (.lst (natsD ds)), a1, some (.str "abcdefghijklmnopqrstuvwxyz"), some (.lst ((told.map enc).map .str)), some (.int (k : Int)), some (.str (enc l0)), x6] (fun t d ρ htd ⟨l, y6, hρ, g1, g2, g3, g4⟩ => by
      subst hρ
      have ht1 : t < 9 := by
        have := (List.getElem?_eq_some_iff.mp htd).1
        simpa using this
      obtain rfl : d = .int ((t : Nat) : Int) := by
        rw [List.getElem?_map, List.getElem?_range' (by omega)] at htd
        simpa using htd.symm
      have c6 : told.countP (fun x => decide (x.length < l.length)) ≤ told.length := List.countP_le_length
      rcases turn_step (ds := ds) (a1 := a1) (k := k) (t := t) hk ht g1 (by omega) with ⟨n1, e1⟩ | ⟨n1, c, hc, e1⟩
      · exact ⟨_, .inl e1, l, _, rfl, g1, by omega, g3, .inl n1⟩
      · have cs := cnt_short told l n1
        have ll : (l ++ [c]).length = l.length + 1 := by simp
        refine ⟨_, .inl e1, l ++ [c], _, rfl, good_app g1 hc, by omega, by rw [ll]; omega, .inr ?_⟩
        rcases g4 with g4 | g4
        · exact absurd n1 g4
        · rw [ll]
          omega) ⟨l0, x6, rfl, hg, by omega, by omega, .inr (by omega)⟩
  subst hρ
  have c6 : told.countP (fun x => decide (x.length < l.length)) ≤ told.length := List.countP_le_length
  refine ⟨l, y6, e, g1, ?_, by omega⟩
  rcases g4 with g4 | g4
  · exact g4
  · simp at g4
    omega
end M55
end
section
set_option maxRecDepth 100000
set_option maxHeartbeats 2000000
open PySem PySem.Spec L2 T2
namespace M55
variable {ds : List Nat} {a1 x5 x6 : Option D} {told : List (List Nat)} {k : Nat}
noncomputable def wB : FS := (sSeq (sAsg 5 (f2 ixD (fVar 2) (f2 modD (fCall intD (fCons (f2 ixD (fVar 0) (fVar 4)) fNil)) (fC (.int 26)))))
  (sSeq (sIf (fTst (f2 eqD (f2 modD (fCall intD (fCons (f2 divD (f2 ixD (fVar 0) (fVar 4)) (fC (.int 26))) fNil)) (fC (.int 3))) (fC (.int 1)))) (sAsg 5 (f2 addD (fVar 5) (f2 ixD (fVar 2) (f2 modD (fCall intD (fCons (f2 divD (f2 ixD (fVar 0) (fVar 4)) (fC (.int 78))) fNil)) (fC (.int 26)))))) sSkip)
  (sSeq (sIf (fTst (f2 eqD (f2 modD (fCall intD (fCons (f2 divD (f2 ixD (fVar 0) (fVar 4)) (fC (.int 26))) fNil)) (fC (.int 3))) (fC (.int 2)))) (sAsg 5 (f2 addD (f2 addD (fVar 5) (fC (.str "-"))) (fCall strD (fCons (f2 modD (fCall intD (fCons (f2 divD (f2 ixD (fVar 0) (fVar 4)) (fC (.int 78))) fNil)) (fC (.int 10))) fNil)))) sSkip)
  (sSeq (sFor 6 (fRng (fCons (fC (.int 9)) fNil)) (sIf (fTst (f2 inE (fVar 5) (fVar 3))) (sAsg 5 (f2 addD (fVar 5) (f2 ixD (fVar 2) (f2 modD (fCall intD (fCons (f2 addD (f2 ixD (fVar 0) (fVar 4)) (fVar 6)) fNil)) (fC (.int 26)))))) sSkip))
  (sApp 3 (fVar 5))))))
theorem word_step (hk : k < ds.length) (ht : ∀ l ∈ told, goodC l) (h6 : told.length ≤ 6) : ∃ (l : List Nat) (y5 y6 : Option D), wB [some (.lst (natsD ds)), a1, some (.str "abcdefghijklmnopqrstuvwxyz"), some (.lst ((told.map enc).map .str)), some (.int (k : Int)), x5, x6] = .nx [some (.lst (natsD ds)), a1, some (.str "abcdefghijklmnopqrstuvwxyz"), some (.lst (((told ++ [l]).map enc).map .str)), some (.int (k : Int)), y5, y6] ∧ goodC l ∧ l ∉ told ∧ l.length ≤ 9 := by
  have big := sl_big
  have ix := ix_nat ds k hk
  generalize hn : ds.getD k 0 = n at ix
  have m26 : modD (.int (n : Int)) (.int 26) = .ok (.int ((n % 26 : Nat) : Int)) := mod_nat n 26 (by omega)
  have d26 : divD (.int (n : Int)) (.int 26) = .ok (.int ((n / 26 : Nat) : Int)) := div_nat n 26 (by omega) (by omega)
  have d78 : divD (.int (n : Int)) (.int 78) = .ok (.int ((n / 78 : Nat) : Int)) := div_nat n 78 (by omega) (by omega)
  have m3 : modD (.int ((n / 26 : Nat) : Int)) (.int 3) = .ok (.int ((n / 26 % 3 : Nat) : Int)) := mod_nat _ 3 (by omega)
  have m2 : modD (.int ((n / 78 : Nat) : Int)) (.int 26) = .ok (.int ((n / 78 % 26 : Nat) : Int)) := mod_nat _ 26 (by omega)
  have m10 : modD (.int ((n / 78 : Nat) : Int)) (.int 10) = .ok (.int ((n / 78 % 10 : Nat) : Int)) := mod_nat _ 10 (by omega)
  have i1 := ix_abc (Nat.mod_lt n (show 0 < 26 by omega))
  have i2 := ix_abc (Nat.mod_lt (n / 78) (show 0 < 26 by omega))
  have sd := str_dig (Nat.mod_lt (n / 78) (show 0 < 10 by omega))
  have hy : ("-" : Str) = enc [45] := by kernel_rfl
  have ad : ∀ l m : List Nat, l.length + m.length ≤ 100 → addD (.str (enc l)) (.str (enc m)) = .ok (.str (enc (l ++ m))) := fun l m h => by
    simp only [addD]
    rw [if_pos (by rw [enc_len, enc_len]; omega), enc_app]
  have g1 : 97 ≤ 97 + n % 26 ∧ 97 + n % 26 ≤ 122 := by omega
  have g2 : 97 ≤ 97 + n / 78 % 26 ∧ 97 + n / 78 % 26 ≤ 122 := by omega
  have g3 : n / 78 % 10 < 10 := by omega
  obtain ⟨l0, e0, q0, q3⟩ : ∃ l0 : List Nat, (sSeq (sIf (fTst (f2 eqD (f2 modD (fCall intD (fCons (f2 divD (f2 ixD (fVar 0) (fVar 4)) (fC (.int 26))) fNil)) (fC (.int 3))) (fC (.int 1)))) (sAsg 5 (f2 addD (fVar 5) (f2 ixD (fVar 2) (f2 modD (fCall intD (fCons (f2 divD (f2 ixD (fVar 0) (fVar 4)) (fC (.int 78))) fNil)) (fC (.int 26)))))) sSkip) (sIf (fTst (f2 eqD (f2 modD (fCall intD (fCons (f2 divD (f2 ixD (fVar 0) (fVar 4)) (fC (.int 26))) fNil)) (fC (.int 3))) (fC (.int 2)))) (sAsg 5 (f2 addD (f2 addD (fVar 5) (fC (.str "-"))) (fCall strD (fCons (f2 modD (fCall intD (fCons (f2 divD (f2 ixD (fVar 0) (fVar 4)) (fC (.int 78))) fNil)) (fC (.int 10))) fNil)))) sSkip)) [some (.lst (natsD ds)), a1, some (.str "abcdefghijklmnopqrstuvwxyz"), some (.lst ((told.map enc).map .str)), some (.int (k : Int)), some (.str (enc [97 + n % 26])), x6] = .nx [some (.lst (natsD ds)), a1, some (.str "abcdefghijklmnopqrstuvwxyz"), some (.lst ((told.map enc).map .str)), some (.int (k : Int)), some (.str (enc l0)), x6] ∧ goodC l0 ∧ l0.length ≤ 3 := by
    by_cases h1 : n / 26 % 3 = 1
    · have t1 : ((n / 26 % 3 : Nat) : Int) = 1 := by omega
      have t2 : ¬ ((n / 26 % 3 : Nat) : Int) = 2 := by omega
      refine ⟨[97 + n % 26] ++ [97 + n / 78 % 26], (seq_nx ((if_tt ?_).trans (asg_nx ?_))).trans ((if_ff ?_).trans rfl), good_app (good_one g1) g2, by simp⟩
      · simp only [x_f2, x_f1, x_fTst, x_fAndT, x_fC, x_fCall, x_fCons, x_fNil, x_fVar, x_asB, List.map_cons, List.map_nil, List.length_cons, List.length_nil, List.replicate, List.cons_append, List.nil_append, List.set_cons_succ, List.set_cons_zero, List.getElem?_cons_succ, List.getElem?_cons_zero, R.bind_ok, ix, d26, int_int, m3, eq_int, eq_true t1, decide_true]
      · simp only [x_f2, x_f1, x_fTst, x_fAndT, x_fC, x_fCall, x_fCons, x_fNil, x_fVar, x_asB, List.map_cons, List.map_nil, List.length_cons, List.length_nil, List.replicate, List.cons_append, List.nil_append, List.set_cons_succ, List.set_cons_zero, List.getElem?_cons_succ, List.getElem?_cons_zero, R.bind_ok, ix, d78, int_int, m2, i2, ad [97 + n % 26] [97 + n / 78 % 26] (by simp)]
      · simp only [x_f2, x_f1, x_fTst, x_fAndT, x_fC, x_fCall, x_fCons, x_fNil, x_fVar, x_asB, List.map_cons, List.map_nil, List.length_cons, List.length_nil, List.replicate, List.cons_append, List.nil_append, List.set_cons_succ, List.set_cons_zero, List.getElem?_cons_succ, List.getElem?_cons_zero, R.bind_ok, ix, d26, int_int, m3, eq_int, eq_false t2, decide_false]
    · have t1 : ¬ ((n / 26 % 3 : Nat) : Int) = 1 := by omega
      by_cases h2 : n / 26 % 3 = 2
      · have t2 : ((n / 26 % 3 : Nat) : Int) = 2 := by omega
        refine ⟨[97 + n % 26] ++ [45] ++ [48 + n / 78 % 10], (seq_nx ((if_ff ?_).trans rfl)).trans ((if_tt ?_).trans (asg_nx ?_)), good_dig g1 g3, by simp⟩
        · simp only [x_f2, x_f1, x_fTst, x_fAndT, x_fC, x_fCall, x_fCons, x_fNil, x_fVar, x_asB, List.map_cons, List.map_nil, List.length_cons, List.length_nil, List.replicate, List.cons_append, List.nil_append, List.set_cons_succ, List.set_cons_zero, List.getElem?_cons_succ, List.getElem?_cons_zero, R.bind_ok, ix, d26, int_int, m3, eq_int, eq_false t1, decide_false]
        · simp only [x_f2, x_f1, x_fTst, x_fAndT, x_fC, x_fCall, x_fCons, x_fNil, x_fVar, x_asB, List.map_cons, List.map_nil, List.length_cons, List.length_nil, List.replicate, List.cons_append, List.nil_append, List.set_cons_succ, List.set_cons_zero, List.getElem?_cons_succ, List.getElem?_cons_zero, R.bind_ok, ix, d26, int_int, m3, eq_int, eq_true t2, decide_true]
        · simp only [x_f2, x_f1, x_fTst, x_fAndT, x_fC, x_fCall, x_fCons, x_fNil, x_fVar, x_asB, List.map_cons, List.map_nil, List.length_cons, List.length_nil, List.replicate, List.cons_append, List.nil_append, List.set_cons_succ, List.set_cons_zero, List.getElem?_cons_succ, List.getElem?_cons_zero, R.bind_ok, ix, d78, int_int, m10, hy, sd, ad [97 + n % 26] [45] (by simp), ad [97 + n % 26, 45] [48 + n / 78 % 10] (by simp)]
      · have t2 : ¬ ((n / 26 % 3 : Nat) : Int) = 2 := by omega
        refine ⟨[97 + n % 26], (seq_nx ((if_ff ?_).trans rfl)).trans ((if_ff ?_).trans rfl), good_one g1, by simp⟩
        · simp only [x_f2, x_f1, x_fTst, x_fAndT, x_fC, x_fCall, x_fCons, x_fNil, x_fVar, x_asB, List.map_cons, List.map_nil, List.length_cons, List.length_nil, List.replicate, List.cons_append, List.nil_append, List.set_cons_succ, List.set_cons_zero, List.getElem?_cons_succ, List.getElem?_cons_zero, R.bind_ok, ix, d26, int_int, m3, eq_int, eq_false t1, decide_false]
        · simp only [x_f2, x_f1, x_fTst, x_fAndT, x_fC, x_fCall, x_fCons, x_fNil, x_fVar, x_asB, List.map_cons, List.map_nil, List.length_cons, List.length_nil, List.replicate, List.cons_append, List.nil_append, List.set_cons_succ, List.set_cons_zero, List.getElem?_cons_succ, List.getElem?_cons_zero, R.bind_ok, ix, d26, int_int, m3, eq_int, eq_false t2, decide_false]
  obtain ⟨l, y6, e1, q1, q2, q4⟩ := turns (a1 := a1) (x6 := x6) hk ht h6 q0 q3
  unfold tB at e1
  refine ⟨l, some (.str (enc l)), y6, ?_, q1, q2, q4⟩
  unfold wB
  refine (seq_nx (asg_nx (d := .str (enc [97 + n % 26])) ?_)).trans ?_
  · simp only [x_f2, x_f1, x_fTst, x_fAndT, x_fC, x_fCall, x_fCons, x_fNil, x_fVar, x_asB, List.map_cons, List.map_nil, List.length_cons, List.length_nil, List.replicate, List.cons_append, List.nil_append, List.set_cons_succ, List.set_cons_zero, List.getElem?_cons_succ, List.getElem?_cons_zero, R.bind_ok, ix, int_int, m26, i1]
  refine (seq_assoc _ _ _ _).symm.trans ((seq_nx e0).trans ((seq_nx (for_nx (rng_fe (m := 9) rfl (by omega)) e1)).trans ?_))
  have e4 : ((told.map enc).map D.str).length < sizeLine := by
    rw [List.length_map, List.length_map]
    omega
  have ap : (told.map enc).map D.str ++ [.str (enc l)] = ((told ++ [l]).map enc).map .str := by simp
  simp only [sApp, x_sDo, x_fVar, List.getElem?_cons_succ, List.getElem?_cons_zero, List.set_cons_succ, List.set_cons_zero, e4, if_true, ap]
theorem words_eq (hd : 7 ≤ ds.length) : ∃ ws : List (List Nat), F__law_words [.lst (natsD ds), .int 7] = .ok (.lst ((ws.map enc).map .str)) ∧ ws.length = 7 ∧ (∀ l ∈ ws, goodC l ∧ l.length ≤ 9) ∧ ws.Nodup := by
  obtain ⟨ρ', e, ws, y4, y5, y6, hρ, h1, h2, h3⟩ := loop_inv (F := wB) (i := 4) (fun k ρ => ∃ (ws : List (List Nat)) (y4 y5 y6 : Option D), ρ = [some (.lst (natsD ds)), some (.int 7), some (.str "abcdefghijklmnopqrstuvwxyz"), some (.lst ((ws.map enc).map .str)), y4, y5, y6] ∧ ws.length = k ∧ (∀ l ∈ ws, goodC l ∧ l.length ≤ 9) ∧ ws.Nodup)
    ((List.range' 0 7).map fun k : Nat => D.int k) 0 [some (.lst (natsD ds)), some (.int 7), some (.str "abcdefghijklmnopqrstuvwxyz"), some (.lst ((([] : List (List Nat)).map enc).map .str)), none, none, none] (fun k d ρ hk ⟨ws, y4, y5, y6, hρ, h1, h2, h3⟩ => by
      subst hρ
      have hk1 : k < 7 := by
        have := (List.getElem?_eq_some_iff.mp hk).1
        simpa using this
      obtain rfl : d = .int ((k : Nat) : Int) := by
        rw [List.getElem?_map, List.getElem?_range' (by omega)] at hk
        simpa using hk.symm
      obtain ⟨l, z5, z6, e1, q1, q2, q3⟩ := word_step (ds := ds) (a1 := some (.int 7)) (x5 := y5) (x6 := y6) (told := ws) (k := k) (by omega) (fun l hl => (h2 l hl).1) (by omega)
      refine ⟨_, .inl e1, ws ++ [l], _, _, _, rfl, by simp [h1], fun q hq => ?_, ?_⟩
      · rcases List.mem_append.mp hq with q' | q'
        · exact h2 q q'
        · rw [List.mem_singleton] at q'
          subst q'
          exact ⟨q1, q3⟩
      · rw [List.nodup_append]
        refine ⟨h3, by simp, fun a ha b hb e => ?_⟩
        rw [List.mem_singleton] at hb
        subst hb
        subst e
        exact q2 ha) ⟨[], none, none, none, rfl, rfl, fun _ h => (nomatch h), List.nodup_nil⟩
  subst hρ
  refine ⟨ws, ?_, by simpa using h1, h2, h3⟩
  unfold wB at e
  refine run_fr ?_
  show G__law_words [some (.lst (natsD ds)), some (.int 7), none, none, none, none, none] = _
  unfold G__law_words
  refine (seq_nx (asg_nx (d := .str "abcdefghijklmnopqrstuvwxyz") rfl)).trans ((seq_nx (asg_nx (lst_nil _))).trans ((seq_nx (for_nx (rng_fe (m := 7) rfl (by omega)) e)).trans ?_))
  exact ret_ok rfl
end M55
end
section
set_option maxRecDepth 100000
set_option maxHeartbeats 2000000
open PySem PySem.Spec L2 T2
namespace M55
theorem eq_lst {xs : List D} (h : D.ok (.lst xs) = true) : eqD (.lst xs) (.lst xs) = .ok (.bl true) := by
  unfold eqD
  simp only [eqB, h, _root_.PySem.SeqAt.eqv_refl _ (D.ok_lay h), and_self, if_true]
theorem ne_lst {xs : List D} (h : D.ok (.lst xs) = true) : neD (.lst xs) (.lst xs) = .ok (.bl false) := by
  unfold neD
  simp only [eqB, h, _root_.PySem.SeqAt.eqv_refl _ (D.ok_lay h), and_self, if_true, Bool.not_true]
theorem lay_rows {b : Bool} : ∀ {ls : List (List Str)}, (∀ l ∈ ls, okS l) → PyData.canLayAll0 (D.pys (ls.map (mkD b))) = true ∧ PyData.depthAll (D.pys (ls.map (mkD b))) ≤ 1
  | [], _ => ⟨by simp [D.pys, PyData.canLayAll0], by simp [D.pys, PyData.depthAll]⟩
  | l :: r, h => by
    have ih := lay_rows (b := b) (ls := r) fun x hx => h x (List.mem_cons_of_mem _ hx)
    have hl := h l List.mem_cons_self
    cases b
    · exact ⟨by simp [mkD, D.pys, PyData.canLayAll0, PyData.canLay0, D.py, lay_strs hl, ih.1], by have := ih.2; simp [mkD, D.pys, PyData.depthAll, PyData.depth, D.py, dep_strs]; omega⟩
    · exact ⟨by simp [mkD, D.pys, PyData.canLayAll0, PyData.canLay0, D.py, lay_strs hl, ih.1], by have := ih.2; simp [mkD, D.pys, PyData.depthAll, PyData.depth, D.py, dep_strs]; omega⟩
theorem ok_rows {b : Bool} {ls : List (List Str)} (h : ∀ l ∈ ls, okS l) : D.ok (.lst (ls.map (mkD b))) = true := by
  obtain ⟨h1, h2⟩ := lay_rows (b := b) h
  unfold D.ok SeqAt.shaped
  rw [Bool.and_eq_true]
  constructor
  · simp [D.py, PyData.canLay0, h1]
  · simp only [D.py, PyData.depth, decide_eq_true_eq]
    omega
theorem due_len {rows : List (List Str)} {ns : List Str} (hl : ns.length ≤ 6) : (dueL rows ns).length ≤ 64 := by
  have pm : (dueL rows ns).Perm ((subsF (sortS ns)).filter (mn rows)) := List.mergeSort_perm _ _
  rw [pm.length_eq]
  have a := List.length_filter_le (mn rows) (subsF (sortS ns))
  have b : (subsF (sortS ns)).length = 2 ^ (sortS ns).length * 1 := subsF_len (sortS ns) [[]]
  have c := (sortS_perm ns).length_eq
  have d : 2 ^ (sortS ns).length ≤ 2 ^ 6 := Nat.pow_le_pow_right (by omega) (by omega)
  omega
theorem due_in {rows : List (List Str)} {ns : List Str} : ∀ l ∈ dueL rows ns, (∀ w ∈ l, w ∈ ns) ∧ l.length ≤ ns.length := fun l hl => by
  have h := ((due_mem (rows := rows) (ns := ns) l).mp hl).1
  exact ⟨fun w hw => (mem_sortS w).mp (h.subset hw), by have := h.length_le; rw [(sortS_perm ns).length_eq] at this; exact this⟩
theorem mul12 (c : Nat) : mulD (.str (enc [c])) (.int 12) = .ok (.str (enc (List.replicate 12 c))) := by
  simp only [mulD]
  rw [if_pos ⟨by rw [enc_len]; simp, by omega, by omega⟩]
  rfl
theorem good_rep {c : Nat} (hc : 97 ≤ c ∧ c ≤ 122) : goodC (List.replicate 12 c) := by
  have e : List.replicate 12 c = c :: (List.replicate 10 c ++ [c]) := rfl
  refine ⟨⟨c, _, e, hc⟩, fun d hd => ?_, ?_, fun q => ?_⟩
  · have := (List.mem_replicate.mp hd).2
    omega
  · intro q
    have : c = 45 := Option.some.inj q
    omega
  · have : c = 48 := Option.some.inj q
    omega
theorem nodup_set {α : Type} {x : α} : ∀ (l : List α) (p : Nat), l.Nodup → x ∉ l → (l.set p x).Nodup
  | [], _, _, _ => List.nodup_nil
  | a :: l, 0, nd, hx => by
    rw [List.set_cons_zero, List.nodup_cons]
    exact ⟨fun h => hx (List.mem_cons_of_mem _ h), (List.nodup_cons.mp nd).2⟩
  | a :: l, p + 1, nd, hx => by
    rw [List.set_cons_succ, List.nodup_cons]
    have n2 := List.nodup_cons.mp nd
    refine ⟨fun h => ?_, nodup_set l p n2.2 fun h => hx (List.mem_cons_of_mem _ h)⟩
    rcases List.mem_or_eq_of_mem_set h with h | h
    · exact n2.1 h
    · exact hx (h ▸ List.mem_cons_self)
theorem set_good {ws : List (List Nat)} {c p : Nat} (hc : 97 ≤ c ∧ c ≤ 122) (h : ∀ l ∈ ws, goodC l ∧ l.length ≤ 9) (nd : ws.Nodup) : (∀ l ∈ ws.set p (List.replicate 12 c), goodC l ∧ l.length ≤ 12) ∧ (ws.set p (List.replicate 12 c)).Nodup := by
  refine ⟨fun l hl => ?_, nodup_set ws p nd fun hx => ?_⟩
  · rcases List.mem_or_eq_of_mem_set hl with q | q
    · have := h l q
      exact ⟨this.1, by omega⟩
    · subst q
      exact ⟨good_rep hc, by simp⟩
  · have := (h _ hx).2
    simp at this
end M55
end
section
set_option maxRecDepth 100000
set_option maxHeartbeats 2000000
open PySem PySem.Spec L2 T2
namespace M55
noncomputable def rest7 : FS := (sSeq (sAsg 7 (fCall F__law_least (fCons (fVar 6) (fCons (fVar 4) fNil))))
  (sSeq (sAsg 8 (fCall F__law_handed (fCons (fVar 6) (fCons (f2 eqD (f2 modD (fCall intD (fCons (f2 ixD (fVar 1) (fC (.int 6))) fNil)) (fC (.int 2))) (fC (.int 0))) fNil))))
  (sSeq (sAsg 9 (fCall listD (fCons (fVar 4) fNil)))
  (sSeq (sAsg 10 (fCall F_least_hitting (fCons (fVar 8) (fCons (fVar 9) fNil))))
  (sSeq (sIf (fOrT (fNotT (fTst (f1 (isTy ["list"]) (fVar 10)))) (fTst (f2 neD (fVar 10) (fVar 7)))) (sRet (fC (.bl false))) sSkip)
  (sSeq (sIf (fOrT (fTst (f2 neD (fCall F__law_handed (fCons (fVar 8) (fCons (fC (.bl false)) fNil))) (fVar 6))) (fTst (f2 neD (fVar 9) (fVar 4)))) (sRet (fC (.bl false))) sSkip)
  (sSeq (sApp 10 (fTup fNil))
  (sSeq (sIf (fTst (f2 neD (fCall F_least_hitting (fCons (fCall tupleD (fCons (fVar 8) fNil)) (fCons (fCall tupleD (fCons (fVar 4) fNil)) fNil))) (fVar 7))) (sRet (fC (.bl false))) sSkip)
  (sSeq (sIf (fTst (f2 neD (fCall F_least_hitting (fCons (fCall F__law_handed (fCons (fVar 7) (fCons (f2 eqD (f2 modD (fCall intD (fCons (f2 ixD (fVar 1) (fC (.int 7))) fNil)) (fC (.int 2))) (fC (.int 0))) fNil))) (fCons (f1 revD (fVar 4)) fNil))) (fCall F__law_least_rows (fCons (fVar 6) (fCons (fVar 4) fNil))))) (sRet (fC (.bl false))) sSkip)
  (sSeq (sAsg 11 (f2 modD (fCall intD (fCons (f2 ixD (fVar 1) (fC (.int 8))) fNil)) (fC (.int 5))))
  (sSeq (sIf (fTst (f2 ltD (fVar 11) (fC (.int 2)))) (sRet (f2 eqD (fCall F__law_refusal (fCons (fVar 8) (fCons (fCall F__law_wrong_names (fCons (fSl sliceD (fVar 1) (fPart (fC (.int 9))) fNoPart) (fCons (fVar 4) (fCons (fVar 2) fNil)))) fNil))) (fLst (fCons (fC (.str "names")) fNil)))) sSkip)
  (sSeq (sAsg 12 (fCall F__law_wrong_rows (fCons (fSl sliceD (fVar 1) (fPart (fC (.int 9))) fNoPart) (fCons (fVar 4) (fCons (fVar 6) fNil)))))
  (sSeq (sIf (fTst (f2 ltD (fVar 11) (fC (.int 4)))) (sRet (f2 eqD (fCall F__law_refusal (fCons (fCall F__law_handed (fCons (fVar 12) (fCons (f2 eqD (fVar 11) (fC (.int 2))) fNil))) (fCons (fCall listD (fCons (fVar 4) fNil)) fNil))) (fLst (fCons (fC (.str "rows")) fNil)))) sSkip)
  (sRet (f2 eqD (fCall F__law_refusal (fCons (fVar 12) (fCons (fCall F__law_wrong_names (fCons (fSl sliceD (fVar 1) (fPart (fC (.int 12))) fNoPart) (fCons (fVar 4) (fCons (fVar 2) fNil)))) fNil))) (fLst (fCons (fC (.str "names")) fNil)))))))))))))))))
theorem law_set {zs : List Int} {ds : List Nat} {m n2 n3 : Nat} {w0 : List (List Nat)} (i2 : ixD (.lst (natsD ds)) (.int 2) = .ok (.int (n2 : Int))) (i3 : ixD (.lst (natsD ds)) (.int 3) = .ok (.int (n3 : Int))) (wl : w0.length = 7) (wg : ∀ l ∈ w0, goodC l ∧ l.length ≤ 9) (wn : w0.Nodup) :
    ∃ ws : List (List Nat), (sIf (fTst (f2 eqD (f2 modD (fCall intD (fCons (f2 ixD (fVar 1) (fC (.int 2))) fNil)) (fC (.int 5))) (fC (.int 0)))) (sSetE 2 (f2 modD (fCall intD (fCons (f2 divD (f2 ixD (fVar 1) (fC (.int 2))) (fC (.int 5))) fNil)) (fC (.int 7))) (f2 mulD (f2 ixD (fC (.str "abcdefghijklmnopqrstuvwxyz")) (f2 modD (fCall intD (fCons (f2 ixD (fVar 1) (fC (.int 3))) fNil)) (fC (.int 26)))) (fC (.int 12)))) sSkip) [some (.scr zs), some (.lst (natsD ds)), some (.lst ((w0.map enc).map .str)), some (.int ((m : Nat) : Int)), none, none, none, none, none, none, none, none, none] = .nx [some (.scr zs), some (.lst (natsD ds)), some (.lst ((ws.map enc).map .str)), some (.int ((m : Nat) : Int)), none, none, none, none, none, none, none, none, none] ∧ ws.length = 7 ∧ (∀ l ∈ ws, goodC l ∧ l.length ≤ 12) ∧ ws.Nodup := by
  have m25 : modD (.int (n2 : Int)) (.int 5) = .ok (.int ((n2 % 5 : Nat) : Int)) := mod_nat _ 5 (by omega)
  have q25 : divD (.int (n2 : Int)) (.int 5) = .ok (.int ((n2 / 5 : Nat) : Int)) := div_nat _ 5 (by omega) (by omega)
  have m27 : modD (.int ((n2 / 5 : Nat) : Int)) (.int 7) = .ok (.int ((n2 / 5 % 7 : Nat) : Int)) := mod_nat _ 7 (by omega)
  have m326 : modD (.int (n3 : Int)) (.int 26) = .ok (.int ((n3 % 26 : Nat) : Int)) := mod_nat _ 26 (by omega)
  have ia := ix_abc (Nat.mod_lt n3 (show 0 < 26 by omega))
  by_cases h : ((n2 % 5 : Nat) : Int) = 0
  · have sg := set_good (ws := w0) (c := 97 + n3 % 26) (p := n2 / 5 % 7) (by omega) wg wn
    refine ⟨_, (if_tt ?_).trans ?_, by rw [List.length_set]; exact wl, sg⟩
    · simp only [x_f2, x_f1, x_fTst, x_fAndT, x_fOrT, x_fNotT, x_fC, x_fCall, x_fCons, x_fNil, x_fVar, x_fSl, x_fNoPart, x_fPart, x_asB, List.map_cons, List.map_nil, List.length_cons, List.length_nil, List.replicate, List.cons_append, List.nil_append, List.set_cons_succ, List.set_cons_zero, List.getElem?_cons_succ, List.getElem?_cons_zero, R.bind_ok, i2, int_int, m25, eq_int, eq_true h, decide_true]
    · have ixn : ixN ((w0.map enc).map D.str).length ((n2 / 5 % 7 : Nat) : Int) = some (n2 / 5 % 7) := by
        have : n2 / 5 % 7 < 7 := Nat.mod_lt _ (by omega)
        unfold ixN
        rw [if_pos (by omega)]
        simp only [List.length_map, wl, Int.toNat_natCast]
        exact if_pos (by omega)
      have se : ((w0.map enc).map D.str).set (n2 / 5 % 7) (.str (enc (List.replicate 12 (97 + n3 % 26)))) = ((w0.set (n2 / 5 % 7) (List.replicate 12 (97 + n3 % 26))).map enc).map .str := by
        rw [List.map_set, List.map_set]
      simp only [sSetE, sSet, x_sDo, x_f2, x_f1, x_fTst, x_fAndT, x_fOrT, x_fNotT, x_fC, x_fCall, x_fCons, x_fNil, x_fVar, x_fSl, x_fNoPart, x_fPart, x_asB, List.map_cons, List.map_nil, List.length_cons, List.length_nil, List.cons_append, List.nil_append, List.set_cons_succ, List.set_cons_zero, List.getElem?_cons_succ, List.getElem?_cons_zero, R.bind_ok, i2, i3, int_int, q25, m27, m326, ia, mul12, ixn, se]
  · refine ⟨w0, (if_ff ?_).trans rfl, wl, fun l hl => ⟨(wg l hl).1, by have := (wg l hl).2; omega⟩, wn⟩
    simp only [x_f2, x_f1, x_fTst, x_fAndT, x_fOrT, x_fNotT, x_fC, x_fCall, x_fCons, x_fNil, x_fVar, x_fSl, x_fNoPart, x_fPart, x_asB, List.map_cons, List.map_nil, List.length_cons, List.length_nil, List.replicate, List.cons_append, List.nil_append, List.set_cons_succ, List.set_cons_zero, List.getElem?_cons_succ, List.getElem?_cons_zero, R.bind_ok, i2, int_int, m25, eq_int, eq_false h, decide_false]

theorem law_count {zs : List Int} {ds : List Nat} {many n4 n5 : Nat} {ws : List (List Nat)} {nm : List Str} (i4 : ixD (.lst (natsD ds)) (.int 4) = .ok (.int (n4 : Int))) (i5 : ixD (.lst (natsD ds)) (.int 5) = .ok (.int (n5 : Int))) :
    ∃ count : Nat, (sIf (fTst (f2 eqD (f2 modD (fCall intD (fCons (f2 ixD (fVar 1) (fC (.int 5))) fNil)) (fC (.int 6))) (fC (.int 0)))) (sAsg 5 (f2 addD (fC (.int 62)) (f2 modD (fCall intD (fCons (f2 ixD (fVar 1) (fC (.int 4))) fNil)) (fC (.int 3))))) sSkip) [some (.scr zs), some (.lst (natsD ds)), some (.lst ((ws.map enc).map .str)), some (.int (many : Int)), some (.lst (nm.map .str)), some (.int ((n4 % 7 : Nat) : Int)), none, none, none, none, none, none, none] = .nx [some (.scr zs), some (.lst (natsD ds)), some (.lst ((ws.map enc).map .str)), some (.int (many : Int)), some (.lst (nm.map .str)), some (.int (count : Int)), none, none, none, none, none, none, none] ∧ count ≤ 64 := by
  have m47 : modD (.int (n4 : Int)) (.int 7) = .ok (.int ((n4 % 7 : Nat) : Int)) := mod_nat _ 7 (by omega)
  have m43 : modD (.int (n4 : Int)) (.int 3) = .ok (.int ((n4 % 3 : Nat) : Int)) := mod_nat _ 3 (by omega)
  have m56 : modD (.int (n5 : Int)) (.int 6) = .ok (.int ((n5 % 6 : Nat) : Int)) := mod_nat _ 6 (by omega)
  by_cases h : ((n5 % 6 : Nat) : Int) = 0
  · have ad : addD (.int 62) (.int ((n4 % 3 : Nat) : Int)) = .ok (.int ((62 + n4 % 3 : Nat) : Int)) := by
      rw [add_int]
      simp
    refine ⟨62 + n4 % 3, (if_tt ?_).trans (asg_nx ?_), by omega⟩
    · simp only [x_f2, x_f1, x_fTst, x_fAndT, x_fOrT, x_fNotT, x_fC, x_fCall, x_fCons, x_fNil, x_fVar, x_fSl, x_fNoPart, x_fPart, x_asB, List.map_cons, List.map_nil, List.length_cons, List.length_nil, List.replicate, List.cons_append, List.nil_append, List.set_cons_succ, List.set_cons_zero, List.getElem?_cons_succ, List.getElem?_cons_zero, R.bind_ok, i5, int_int, m56, eq_int, eq_true h, decide_true]
    · simp only [x_f2, x_f1, x_fTst, x_fAndT, x_fOrT, x_fNotT, x_fC, x_fCall, x_fCons, x_fNil, x_fVar, x_fSl, x_fNoPart, x_fPart, x_asB, List.map_cons, List.map_nil, List.length_cons, List.length_nil, List.replicate, List.cons_append, List.nil_append, List.set_cons_succ, List.set_cons_zero, List.getElem?_cons_succ, List.getElem?_cons_zero, R.bind_ok, i4, int_int, m43, ad]
  · refine ⟨n4 % 7, (if_ff ?_).trans rfl, by omega⟩
    simp only [x_f2, x_f1, x_fTst, x_fAndT, x_fOrT, x_fNotT, x_fC, x_fCall, x_fCons, x_fNil, x_fVar, x_fSl, x_fNoPart, x_fPart, x_asB, List.map_cons, List.map_nil, List.length_cons, List.length_nil, List.replicate, List.cons_append, List.nil_append, List.set_cons_succ, List.set_cons_zero, List.getElem?_cons_succ, List.getElem?_cons_zero, R.bind_ok, i5, int_int, m56, eq_int, eq_false h, decide_false]

theorem law_a (zs : List Int) : ∃ (ds : List Nat) (ws : List (List Nat)) (nm : List Str) (rows : List (List Str)) (many count : Nat), G_law [some (.scr zs), none, none, none, none, none, none, none, none, none, none, none, none] = rest7 [some (.scr zs), some (.lst (natsD ds)), some (.lst ((ws.map enc).map .str)), some (.int (many : Int)), some (.lst (nm.map .str)), some (.int (count : Int)), some (.lst (rows.map (mkD false))), none, none, none, none, none, none] ∧ ds.length = 16 ∧ ws.length = 7 ∧ (∀ l ∈ ws, goodC l ∧ l.length ≤ 12) ∧ ws.Nodup ∧ nm = (ws.take many).map enc ∧ many ≤ 6 ∧ rows.length ≤ 64 ∧ ∀ r ∈ rows, (∀ w ∈ r, w ∈ nm) ∧ r.length ≤ 7 := by
  have big := sl_big
  obtain ⟨ds, e1, dl, -⟩ := draws_eq (ns := zs) 0 16 (by omega) (by omega)
  obtain ⟨d8, e2, dl8, -⟩ := draws_eq (ns := zs) 1 8 (by omega) (by omega)
  obtain ⟨d64, e3, dl64, -⟩ := draws_eq (ns := zs) 2 64 (by omega) (by omega)
  obtain ⟨w0, e4, wl, wg, wn⟩ := words_eq (ds := d8) (by omega)
  have i0 : ixD (.lst (natsD ds)) (.int 0) = .ok (.int ((ds.getD 0 0 : Nat) : Int)) := ix_nat ds 0 (by omega)
  have i2 : ixD (.lst (natsD ds)) (.int 2) = .ok (.int ((ds.getD 2 0 : Nat) : Int)) := ix_nat ds 2 (by omega)
  have i3 : ixD (.lst (natsD ds)) (.int 3) = .ok (.int ((ds.getD 3 0 : Nat) : Int)) := ix_nat ds 3 (by omega)
  have i4 : ixD (.lst (natsD ds)) (.int 4) = .ok (.int ((ds.getD 4 0 : Nat) : Int)) := ix_nat ds 4 (by omega)
  have i5 : ixD (.lst (natsD ds)) (.int 5) = .ok (.int ((ds.getD 5 0 : Nat) : Int)) := ix_nat ds 5 (by omega)
  generalize ds.getD 0 0 = n0 at i0
  generalize ds.getD 2 0 = n2 at i2
  generalize ds.getD 3 0 = n3 at i3
  generalize ds.getD 4 0 = n4 at i4
  generalize ds.getD 5 0 = n5 at i5
  have m07 : modD (.int (n0 : Int)) (.int 7) = .ok (.int ((n0 % 7 : Nat) : Int)) := mod_nat _ 7 (by omega)
  have m25 : modD (.int (n2 : Int)) (.int 5) = .ok (.int ((n2 % 5 : Nat) : Int)) := mod_nat _ 5 (by omega)
  have q25 : divD (.int (n2 : Int)) (.int 5) = .ok (.int ((n2 / 5 : Nat) : Int)) := div_nat _ 5 (by omega) (by omega)
  have m27 : modD (.int ((n2 / 5 : Nat) : Int)) (.int 7) = .ok (.int ((n2 / 5 % 7 : Nat) : Int)) := mod_nat _ 7 (by omega)
  have m326 : modD (.int (n3 : Int)) (.int 26) = .ok (.int ((n3 % 26 : Nat) : Int)) := mod_nat _ 26 (by omega)
  have m47 : modD (.int (n4 : Int)) (.int 7) = .ok (.int ((n4 % 7 : Nat) : Int)) := mod_nat _ 7 (by omega)
  have m43 : modD (.int (n4 : Int)) (.int 3) = .ok (.int ((n4 % 3 : Nat) : Int)) := mod_nat _ 3 (by omega)
  have m56 : modD (.int (n5 : Int)) (.int 6) = .ok (.int ((n5 % 6 : Nat) : Int)) := mod_nat _ 6 (by omega)
  have ia := ix_abc (Nat.mod_lt n3 (show 0 < 26 by omega))
  obtain ⟨ws, es, wsl, wsg, wsn⟩ := law_set (zs := zs) (ds := ds) (m := n0 % 7) (w0 := w0) (n2 := n2) (n3 := n3) i2 i3 wl wg wn
  have mm : n0 % 7 ≤ 6 := by omega
  generalize n0 % 7 = many at m07 es mm
  have sl : sliceD (.lst ((ws.map enc).map .str)) none (some ((many : Nat) : Int)) = .ok (.lst (((ws.take many).map enc).map .str)) := by
    rw [List.map_take, List.map_take]
    simp only [sliceD]
    rw [cut_to _ _ (by rw [List.length_map, List.length_map]; omega)]
  generalize hnm : (ws.take many).map enc = nm at sl
  have nl : nm.length ≤ 6 := by
    rw [← hnm, List.length_map, List.length_take]
    omega
  obtain ⟨count, ec, hc⟩ := law_count (zs := zs) (ds := ds) (ws := ws) (nm := nm) (many := many) (n4 := n4) (n5 := n5) i4 i5
  obtain ⟨rows, er, rl, rg⟩ := rows_eq (ds := d64) (ns := nm) count hc (by omega) nl
  refine ⟨ds, ws, nm, rows, many, count, ?_, dl, wsl, wsg, wsn, hnm.symm, mm, by omega, rg⟩
  have e1 : F__law_draws [.scr zs, .int 0, .int 16] = _ := e1
  have e2 : F__law_draws [.scr zs, .int 1, .int 8] = _ := e2
  have e3 : F__law_draws [.scr zs, .int 2, .int 64] = _ := e3
  unfold G_law
  refine (seq_nx (ρ' := [some (.scr zs), some (.lst (natsD ds)), none, none, none, none, none, none, none, none, none, none, none]) (asg_nx (d := .lst (natsD ds)) ?_)).trans ?_
  · simp only [x_f2, x_f1, x_fTst, x_fAndT, x_fOrT, x_fNotT, x_fC, x_fCall, x_fCons, x_fNil, x_fVar, x_fSl, x_fNoPart, x_fPart, x_asB, List.map_cons, List.map_nil, List.length_cons, List.length_nil, List.replicate, List.cons_append, List.nil_append, List.set_cons_succ, List.set_cons_zero, List.getElem?_cons_succ, List.getElem?_cons_zero, R.bind_ok, e1]
  refine (seq_nx (ρ' := [some (.scr zs), some (.lst (natsD ds)), some (.lst ((w0.map enc).map .str)), none, none, none, none, none, none, none, none, none, none]) (asg_nx (d := .lst ((w0.map enc).map .str)) ?_)).trans ?_
  · simp only [x_f2, x_f1, x_fTst, x_fAndT, x_fOrT, x_fNotT, x_fC, x_fCall, x_fCons, x_fNil, x_fVar, x_fSl, x_fNoPart, x_fPart, x_asB, List.map_cons, List.map_nil, List.length_cons, List.length_nil, List.replicate, List.cons_append, List.nil_append, List.set_cons_succ, List.set_cons_zero, List.getElem?_cons_succ, List.getElem?_cons_zero, R.bind_ok, e2, e4]
  refine (seq_nx (ρ' := [some (.scr zs), some (.lst (natsD ds)), some (.lst ((w0.map enc).map .str)), some (.int (many : Int)), none, none, none, none, none, none, none, none, none]) (asg_nx (d := .int (many : Int)) ?_)).trans ?_
  · simp only [x_f2, x_f1, x_fTst, x_fAndT, x_fOrT, x_fNotT, x_fC, x_fCall, x_fCons, x_fNil, x_fVar, x_fSl, x_fNoPart, x_fPart, x_asB, List.map_cons, List.map_nil, List.length_cons, List.length_nil, List.replicate, List.cons_append, List.nil_append, List.set_cons_succ, List.set_cons_zero, List.getElem?_cons_succ, List.getElem?_cons_zero, R.bind_ok, i0, int_int, m07]
  refine (seq_nx (ρ' := [some (.scr zs), some (.lst (natsD ds)), some (.lst ((ws.map enc).map .str)), some (.int (many : Int)), none, none, none, none, none, none, none, none, none]) es).trans ?_
  refine (seq_nx (ρ' := [some (.scr zs), some (.lst (natsD ds)), some (.lst ((ws.map enc).map .str)), some (.int (many : Int)), some (.lst (nm.map .str)), none, none, none, none, none, none, none, none]) (asg_nx (d := .lst (nm.map .str)) ?_)).trans ?_
  · simp only [x_f2, x_f1, x_fTst, x_fAndT, x_fOrT, x_fNotT, x_fC, x_fCall, x_fCons, x_fNil, x_fVar, x_fSl, x_fNoPart, x_fPart, x_asB, List.map_cons, List.map_nil, List.length_cons, List.length_nil, List.replicate, List.cons_append, List.nil_append, List.set_cons_succ, List.set_cons_zero, List.getElem?_cons_succ, List.getElem?_cons_zero, R.bind_ok, sl]
  refine (seq_nx (ρ' := [some (.scr zs), some (.lst (natsD ds)), some (.lst ((ws.map enc).map .str)), some (.int (many : Int)), some (.lst (nm.map .str)), some (.int ((n4 % 7 : Nat) : Int)), none, none, none, none, none, none, none]) (asg_nx (d := .int ((n4 % 7 : Nat) : Int)) ?_)).trans ?_
  · simp only [x_f2, x_f1, x_fTst, x_fAndT, x_fOrT, x_fNotT, x_fC, x_fCall, x_fCons, x_fNil, x_fVar, x_fSl, x_fNoPart, x_fPart, x_asB, List.map_cons, List.map_nil, List.length_cons, List.length_nil, List.replicate, List.cons_append, List.nil_append, List.set_cons_succ, List.set_cons_zero, List.getElem?_cons_succ, List.getElem?_cons_zero, R.bind_ok, i4, int_int, m47]
  refine (seq_nx (ρ' := [some (.scr zs), some (.lst (natsD ds)), some (.lst ((ws.map enc).map .str)), some (.int (many : Int)), some (.lst (nm.map .str)), some (.int (count : Int)), none, none, none, none, none, none, none]) ec).trans ?_
  refine (seq_nx (ρ' := [some (.scr zs), some (.lst (natsD ds)), some (.lst ((ws.map enc).map .str)), some (.int (many : Int)), some (.lst (nm.map .str)), some (.int (count : Int)), some (.lst (rows.map (mkD false))), none, none, none, none, none, none]) (asg_nx (d := .lst (rows.map (mkD false))) ?_)).trans ?_
  · have h1 : fCall F__law_draws (fCons (fVar 0) (fCons (fC (.int 2)) (fCons (fC (.int 64)) fNil))) [some (.scr zs), some (.lst (natsD ds)), some (.lst ((ws.map enc).map .str)), some (.int (many : Int)), some (.lst (nm.map .str)), some (.int (count : Int)), none, none, none, none, none, none, none] = .ok (.lst (natsD d64)) := e3
    have h2 : fCons (fVar 4) (fCons (fVar 5) fNil) [some (.scr zs), some (.lst (natsD ds)), some (.lst ((ws.map enc).map .str)), some (.int (many : Int)), some (.lst (nm.map .str)), some (.int (count : Int)), none, none, none, none, none, none, none] = .ok [.lst (nm.map .str), .int (count : Int)] := rfl
    rw [x_fCall, x_fCons, h1, R.bind_ok, h2, R.bind_ok, R.bind_ok, er]
  rfl
end M55
end
section
set_option maxRecDepth 100000
set_option maxHeartbeats 2000000
open PySem PySem.Spec L2 T2
namespace M55
structure Nm (nm : List Str) : Prop where
  ok : okS nm
  le : nm.length ≤ 6
  nd : nm.Nodup
  w : ∀ x ∈ nm, isW x = true ∧ x.length ≤ 12
  z : ∀ x ∈ nm, x ++ "0" ∉ nm
theorem Nm.rev {nm : List Str} (h : Nm nm) : Nm nm.reverse :=
  ⟨fun w hw => h.ok w (List.mem_reverse.mp hw), by rw [List.length_reverse]; exact h.le, List.pairwise_reverse.mpr (h.nd.imp fun q e => q e.symm), fun x hx => h.w x (List.mem_reverse.mp hx), fun x hx hy => h.z x (List.mem_reverse.mp hx) (List.mem_reverse.mp hy)⟩
theorem Nm.of {ws : List (List Nat)} {many : Nat} (hg : ∀ l ∈ ws, goodC l ∧ l.length ≤ 12) (nd : ws.Nodup) (hm : many ≤ 6) : Nm ((ws.take many).map enc) := by
  have hg' : ∀ l ∈ ws.take many, goodC l ∧ l.length ≤ 12 := fun l hl => hg l (List.mem_of_mem_take hl)
  refine ⟨okS_enc fun l hl => (hg' l hl).1, by rw [List.length_map, List.length_take]; omega, ?_, fun x hx => ?_, fun x hx hy => ?_⟩
  · have n1 : (ws.take many).Nodup := nd.sublist (List.take_sublist _ _)
    unfold List.Nodup
    rw [List.pairwise_map]
    exact n1.imp fun h e => h (enc_inj e)
  · obtain ⟨l, hl, rfl⟩ := List.mem_map.mp hx
    have := hg' l hl
    exact ⟨good_isW this.1 this.2, by rw [enc_len]; exact this.2⟩
  · obtain ⟨l, hl, rfl⟩ := List.mem_map.mp hx
    obtain ⟨m, hm, e⟩ := List.mem_map.mp hy
    exact good_no0 (hg' l hl).1 (hg' m hm).1 e.symm
theorem Nm.words {nm : List Str} (h : Nm nm) {d : D} (hd : seqS d nm) : F_is_words [d] = .ok (.bl true) := by
  have big := sl_big
  have e := is_words_eq d (nm.map .str) hd (fun x hx => by
    obtain ⟨w, hw, rfl⟩ := List.mem_map.mp hx
    have := (h.w w hw).2
    show w.length ≤ sizeLine
    omega) (by rw [List.length_map]; have := h.le; omega)
  have a1 : (nm.map D.str).all isWD = true := by
    rw [List.all_eq_true]
    intro x hx
    obtain ⟨w, hw, rfl⟩ := List.mem_map.mp hx
    exact (h.w w hw).1
  have a2 : tw [] nm = false := (tw_iff nm []).mpr ⟨fun _ _ hx => (List.not_mem_nil hx), h.nd⟩
  rw [e, a1, strsD_str, a2]
  rfl
theorem rowsIn_yes {nm : List Str} {rows : List (List Str)} (hr : ∀ r ∈ rows, ∀ w ∈ r, w ∈ nm) : rowsIn nm rows = true := by
  unfold rowsIn
  rw [List.all_eq_true]
  intro r hr'
  rw [List.all_eq_true]
  intro w hw
  exact decide_eq_true (hr r hr' w hw)
theorem Nm.hit {nm : List Str} (h : Nm nm) {d e : D} {b : Bool} {rows : List (List Str)} (hd : d = .lst (rows.map (mkD b)) ∨ d = .tup (rows.map (mkD b))) (he : seqS e nm) (hr : ∀ r ∈ rows, (∀ w ∈ r, w ∈ nm) ∧ r.length ≤ 7) (hz : rows.length ≤ 64) : F_least_hitting [d, e] = .ok (.lst ((dueL rows nm).map tupD)) := by
  have big := sl_big
  have okr : ∀ r ∈ rows, okS r := fun r hr' w hw => h.ok w ((hr r hr').1 w hw)
  have e3 := are_rows_eq hd he h.ok okr
  rw [rowsIn_yes fun r hr' => (hr r hr').1, decide_eq_true hz] at e3
  rw [lh_ok hd he h.ok h.le (fun r hr' => ⟨okr r hr', by have := (hr r hr').2; omega⟩) hz (h.words he) e3, told_due h.nd]
theorem Nm.no {nm : List Str} (h : Nm nm) {d e : D} {b : Bool} {rows : List (List Str)} (hd : d = .lst (rows.map (mkD b)) ∨ d = .tup (rows.map (mkD b))) (he : seqS e nm) (okr : ∀ r ∈ rows, okS r) (hz : (decide (rows.length ≤ 64) && rowsIn nm rows) = false) : F_least_hitting [d, e] = .exc "BadLot" [("why", .str "rows")] := by
  have e3 := are_rows_eq hd he h.ok okr
  rw [hz] at e3
  exact lh_rows (h.words he) (len_seq he) h.le e3
theorem due_rev (rows : List (List Str)) (nm : List Str) : dueL rows nm.reverse = dueL rows nm := by
  unfold dueL
  rw [sortS_eq (List.reverse_perm nm)]
theorem app_nx {i : Nat} {f : FE} {ρ : Rho} {ds : List D} {d : D} (h1 : ρ[i]? = some (some (.lst ds))) (h2 : f ρ = .ok d) (h3 : ds.length ≤ 1000) : sApp i f ρ = .nx (ρ.set i (some (.lst (ds ++ [d])))) := by
  have big := sl_big
  unfold sApp
  rw [h1]
  simp only [x_sDo, h2]
  rw [if_pos (by omega)]
theorem tup_nil (ρ : Rho) : fTup fNil ρ = .ok (.tup []) := by
  have big := sl_big
  rw [x_fTup, x_fNil, R.bind_ok]
  exact if_pos (Nat.zero_le _)
theorem ty_lst (xs : List D) : isTy ["list"] (.lst xs) = .ok (.bl true) := by kernel_rfl
theorem list_lst (xs : List D) : listD [.lst xs] = .ok (.lst xs) := rfl
theorem tuple_lst (xs : List D) : tupleD [.lst xs] = .ok (.tup xs) := rfl
theorem rev_lst (xs : List D) : revD (.lst xs) = .ok (.lst xs.reverse) := rfl
theorem lt_int (i j : Int) : ltD (.int i) (.int j) = .ok (.bl (decide (i < j))) := rfl
theorem sl_from {ds : List Nat} (p : Nat) (h : p ≤ ds.length) : sliceD (.lst (natsD ds)) (some (p : Int)) none = .ok (.lst (natsD (ds.drop p))) := by
  simp only [sliceD]
  rw [cut_from _ _ (by unfold natsD; rw [List.length_map]; exact h)]
  unfold natsD
  rw [List.map_drop]
theorem mkD_true : (mkD true) = tupD := by
  funext r
  rfl
theorem eq_word (m : Str) (h : PyData.strOk m = true) : eqD (.lst [.str m]) (.lst [.str m]) = .ok (.bl true) := eq_lst (ok_strs (ws := [m]) fun w hw => by rw [List.mem_singleton.mp hw]; exact h)
theorem eq_names : eqD (.lst [.str "names"]) (.lst [.str "names"]) = .ok (.bl true) := eq_word _ (by decide +kernel)
theorem eq_rows : eqD (.lst [.str "rows"]) (.lst [.str "rows"]) = .ok (.bl true) := eq_word _ (by decide +kernel)
theorem badN_no {d : D} {rs : List D} (h : badN rs) : F__law_refusal [d, .lst rs] = .ok (.lst [.str "names"]) := refusal_eq (lh_bad h)


set_option maxHeartbeats 4000000 in
theorem law_b {zs : List Int} {ds : List Nat} {ws : List (List Nat)} {nm : List Str} {rows : List (List Str)} {many count : Nat} (dl : ds.length = 16) (wl : ws.length = 7) (wg : ∀ l ∈ ws, goodC l ∧ l.length ≤ 12) (h : Nm nm) (rl : rows.length ≤ 64) (rg : ∀ r ∈ rows, (∀ w ∈ r, w ∈ nm) ∧ r.length ≤ 7) :
    rest7 [some (.scr zs), some (.lst (natsD ds)), some (.lst ((ws.map enc).map .str)), some (.int (many : Int)), some (.lst (nm.map .str)), some (.int (count : Int)), some (.lst (rows.map (mkD false))), none, none, none, none, none, none] = .ret (.bl true) := by
  have big := sl_big
  have okr : ∀ r ∈ rows, okS r := fun r hr' w hw => h.ok w ((rg r hr').1 w hw)
  have e7 := law_least_eq (d := .lst (rows.map (mkD false))) (e := .lst (nm.map .str)) rfl (.inl rfl) h.ok h.le (fun r hr' => ⟨okr r hr', by have := (rg r hr').2; omega⟩)
  have i6 : ixD (.lst (natsD ds)) (.int 6) = .ok (.int ((ds.getD 6 0 : Nat) : Int)) := ix_nat ds 6 (by omega)
  have i7 : ixD (.lst (natsD ds)) (.int 7) = .ok (.int ((ds.getD 7 0 : Nat) : Int)) := ix_nat ds 7 (by omega)
  have i8 : ixD (.lst (natsD ds)) (.int 8) = .ok (.int ((ds.getD 8 0 : Nat) : Int)) := ix_nat ds 8 (by omega)
  have m62 : modD (.int ((ds.getD 6 0 : Nat) : Int)) (.int 2) = .ok (.int ((ds.getD 6 0 % 2 : Nat) : Int)) := mod_nat _ 2 (by omega)
  have m72 : modD (.int ((ds.getD 7 0 : Nat) : Int)) (.int 2) = .ok (.int ((ds.getD 7 0 % 2 : Nat) : Int)) := mod_nat _ 2 (by omega)
  have m85 : modD (.int ((ds.getD 8 0 : Nat) : Int)) (.int 5) = .ok (.int ((ds.getD 8 0 % 5 : Nat) : Int)) := mod_nat _ 5 (by omega)
  have dle := due_len (rows := rows) (ns := nm) h.le
  have din := due_in (rows := rows) (ns := nm)
  have okd : ∀ l ∈ dueL rows nm, okS l := fun l hl w hw => h.ok w ((din l hl).1 w hw)
  have nd : neD (.lst ((dueL rows nm).map tupD)) (.lst ((dueL rows nm).map tupD)) = .ok (.bl false) := ne_lst (ok_tups okd)
  have nr : neD (.lst (rows.map (mkD false))) (.lst (rows.map (mkD false))) = .ok (.bl false) := ne_lst (ok_rows okr)
  have nn : neD (.lst (nm.map .str)) (.lst (nm.map .str)) = .ok (.bl false) := ne_lst (ok_strs h.ok)
  have e8 := handed_eq (d := .lst (rows.map (mkD false))) (b := false) (t := decide (((ds.getD 6 0 % 2 : Nat) : Int) = 0)) (rows := rows) (.inl rfl) (by omega)
  have e8b := handed_eq (d := .lst (rows.map (mkD (decide (((ds.getD 6 0 % 2 : Nat) : Int) = 0))))) (b := decide (((ds.getD 6 0 % 2 : Nat) : Int) = 0)) (t := false) (rows := rows) (.inl rfl) (by omega)
  have e10 := h.hit (d := .lst (rows.map (mkD (decide (((ds.getD 6 0 % 2 : Nat) : Int) = 0))))) (e := .lst (nm.map .str)) (rows := rows) (.inl rfl) (.inl rfl) rg rl
  have e10t := h.hit (d := .tup (rows.map (mkD (decide (((ds.getD 6 0 % 2 : Nat) : Int) = 0))))) (e := .tup (nm.map .str)) (rows := rows) (.inr rfl) (.inr rfl) rg rl
  have e8d := handed_eq (d := .lst ((dueL rows nm).map tupD)) (b := true) (t := decide (((ds.getD 7 0 % 2 : Nat) : Int) = 0)) (rows := dueL rows nm) (.inl (by rw [mkD_true])) (by omega)
  have e10r := h.rev.hit (d := .lst ((dueL rows nm).map (mkD (decide (((ds.getD 7 0 % 2 : Nat) : Int) = 0))))) (e := .lst (nm.map D.str).reverse) (rows := dueL rows nm) (.inl rfl) (.inl (by rw [List.map_reverse])) (fun l hl => ⟨fun w hw => List.mem_reverse.mpr ((din l hl).1 w hw), by have := (din l hl).2; have := h.le; omega⟩) dle
  rw [due_rev, dual (rowsIn_yes fun r hr' => (rg r hr').1) h.nd] at e10r
  have eL := law_least_rows_eq (d := .lst (rows.map (mkD false))) (e := .lst (nm.map .str)) (b := false) rfl (.inl rfl) h.ok h.le okr rl
  have okl : ∀ l ∈ leastR rows nm, okS l := by
    rw [← dual (rowsIn_yes fun r hr' => (rg r hr').1) h.nd]
    exact fun l hl w hw => h.ok w ((due_in l hl).1 w hw)
  have nl : neD (.lst ((leastR rows nm).map tupD)) (.lst ((leastR rows nm).map tupD)) = .ok (.bl false) := ne_lst (ok_tups okl)
  unfold rest7
  refine (seq_nx (ρ' := [some (.scr zs), some (.lst (natsD ds)), some (.lst ((ws.map enc).map .str)), some (.int (many : Int)), some (.lst (nm.map .str)), some (.int (count : Int)), some (.lst (rows.map (mkD false))), some (.lst ((dueL rows nm).map tupD)), none, none, none, none, none]) (asg_nx (d := .lst ((dueL rows nm).map tupD)) ?_)).trans ?_
  · simp only [x_f2, x_f1, x_fTst, x_fAndT, x_fOrT, x_fNotT, x_fC, x_fCall, x_fCons, x_fNil, x_fVar, x_fSl, x_fNoPart, x_fPart, x_asB, List.map_cons, List.map_nil, List.length_cons, List.length_nil, List.replicate, List.cons_append, List.nil_append, List.set_cons_succ, List.set_cons_zero, List.getElem?_cons_succ, List.getElem?_cons_zero, R.bind_ok, Bool.not_true, Bool.false_eq_true, if_false, if_true, Bool.not_false, e7]
  refine (seq_nx (ρ' := [some (.scr zs), some (.lst (natsD ds)), some (.lst ((ws.map enc).map .str)), some (.int (many : Int)), some (.lst (nm.map .str)), some (.int (count : Int)), some (.lst (rows.map (mkD false))), some (.lst ((dueL rows nm).map tupD)), some (.lst (rows.map (mkD (decide (((ds.getD 6 0 % 2 : Nat) : Int) = 0))))), none, none, none, none]) (asg_nx (d := .lst (rows.map (mkD (decide (((ds.getD 6 0 % 2 : Nat) : Int) = 0))))) ?_)).trans ?_
  · simp only [x_f2, x_f1, x_fTst, x_fAndT, x_fOrT, x_fNotT, x_fC, x_fCall, x_fCons, x_fNil, x_fVar, x_fSl, x_fNoPart, x_fPart, x_asB, List.map_cons, List.map_nil, List.length_cons, List.length_nil, List.replicate, List.cons_append, List.nil_append, List.set_cons_succ, List.set_cons_zero, List.getElem?_cons_succ, List.getElem?_cons_zero, R.bind_ok, Bool.not_true, Bool.false_eq_true, if_false, if_true, Bool.not_false, i6, int_int, m62, eq_int, e8]
  refine (seq_nx (ρ' := [some (.scr zs), some (.lst (natsD ds)), some (.lst ((ws.map enc).map .str)), some (.int (many : Int)), some (.lst (nm.map .str)), some (.int (count : Int)), some (.lst (rows.map (mkD false))), some (.lst ((dueL rows nm).map tupD)), some (.lst (rows.map (mkD (decide (((ds.getD 6 0 % 2 : Nat) : Int) = 0))))), some (.lst (nm.map .str)), none, none, none]) (asg_nx (d := .lst (nm.map .str)) ?_)).trans ?_
  · simp only [x_f2, x_f1, x_fTst, x_fAndT, x_fOrT, x_fNotT, x_fC, x_fCall, x_fCons, x_fNil, x_fVar, x_fSl, x_fNoPart, x_fPart, x_asB, List.map_cons, List.map_nil, List.length_cons, List.length_nil, List.replicate, List.cons_append, List.nil_append, List.set_cons_succ, List.set_cons_zero, List.getElem?_cons_succ, List.getElem?_cons_zero, R.bind_ok, Bool.not_true, Bool.false_eq_true, if_false, if_true, Bool.not_false, list_lst]
  refine (seq_nx (ρ' := [some (.scr zs), some (.lst (natsD ds)), some (.lst ((ws.map enc).map .str)), some (.int (many : Int)), some (.lst (nm.map .str)), some (.int (count : Int)), some (.lst (rows.map (mkD false))), some (.lst ((dueL rows nm).map tupD)), some (.lst (rows.map (mkD (decide (((ds.getD 6 0 % 2 : Nat) : Int) = 0))))), some (.lst (nm.map .str)), some (.lst ((dueL rows nm).map tupD)), none, none]) (asg_nx (d := .lst ((dueL rows nm).map tupD)) ?_)).trans ?_
  · simp only [x_f2, x_f1, x_fTst, x_fAndT, x_fOrT, x_fNotT, x_fC, x_fCall, x_fCons, x_fNil, x_fVar, x_fSl, x_fNoPart, x_fPart, x_asB, List.map_cons, List.map_nil, List.length_cons, List.length_nil, List.replicate, List.cons_append, List.nil_append, List.set_cons_succ, List.set_cons_zero, List.getElem?_cons_succ, List.getElem?_cons_zero, R.bind_ok, Bool.not_true, Bool.false_eq_true, if_false, if_true, Bool.not_false, e10]
  refine (seq_nx (ρ' := [some (.scr zs), some (.lst (natsD ds)), some (.lst ((ws.map enc).map .str)), some (.int (many : Int)), some (.lst (nm.map .str)), some (.int (count : Int)), some (.lst (rows.map (mkD false))), some (.lst ((dueL rows nm).map tupD)), some (.lst (rows.map (mkD (decide (((ds.getD 6 0 % 2 : Nat) : Int) = 0))))), some (.lst (nm.map .str)), some (.lst ((dueL rows nm).map tupD)), none, none]) ((if_ff ?_).trans rfl)).trans ?_
  · simp only [x_f2, x_f1, x_fTst, x_fAndT, x_fOrT, x_fNotT, x_fC, x_fCall, x_fCons, x_fNil, x_fVar, x_fSl, x_fNoPart, x_fPart, x_asB, List.map_cons, List.map_nil, List.length_cons, List.length_nil, List.replicate, List.cons_append, List.nil_append, List.set_cons_succ, List.set_cons_zero, List.getElem?_cons_succ, List.getElem?_cons_zero, R.bind_ok, Bool.not_true, Bool.false_eq_true, if_false, if_true, Bool.not_false, ty_lst, nd]
  refine (seq_nx (ρ' := [some (.scr zs), some (.lst (natsD ds)), some (.lst ((ws.map enc).map .str)), some (.int (many : Int)), some (.lst (nm.map .str)), some (.int (count : Int)), some (.lst (rows.map (mkD false))), some (.lst ((dueL rows nm).map tupD)), some (.lst (rows.map (mkD (decide (((ds.getD 6 0 % 2 : Nat) : Int) = 0))))), some (.lst (nm.map .str)), some (.lst ((dueL rows nm).map tupD)), none, none]) ((if_ff ?_).trans rfl)).trans ?_
  · simp only [x_f2, x_f1, x_fTst, x_fAndT, x_fOrT, x_fNotT, x_fC, x_fCall, x_fCons, x_fNil, x_fVar, x_fSl, x_fNoPart, x_fPart, x_asB, List.map_cons, List.map_nil, List.length_cons, List.length_nil, List.replicate, List.cons_append, List.nil_append, List.set_cons_succ, List.set_cons_zero, List.getElem?_cons_succ, List.getElem?_cons_zero, R.bind_ok, Bool.not_true, Bool.false_eq_true, if_false, if_true, Bool.not_false, e8b, nr, nn]
  refine (seq_nx (ρ' := [some (.scr zs), some (.lst (natsD ds)), some (.lst ((ws.map enc).map .str)), some (.int (many : Int)), some (.lst (nm.map .str)), some (.int (count : Int)), some (.lst (rows.map (mkD false))), some (.lst ((dueL rows nm).map tupD)), some (.lst (rows.map (mkD (decide (((ds.getD 6 0 % 2 : Nat) : Int) = 0))))), some (.lst (nm.map .str)), some (.lst ((dueL rows nm).map tupD ++ [.tup []])), none, none]) (app_nx rfl (tup_nil _) (by rw [List.length_map]; omega))).trans ?_
  refine (seq_nx (ρ' := [some (.scr zs), some (.lst (natsD ds)), some (.lst ((ws.map enc).map .str)), some (.int (many : Int)), some (.lst (nm.map .str)), some (.int (count : Int)), some (.lst (rows.map (mkD false))), some (.lst ((dueL rows nm).map tupD)), some (.lst (rows.map (mkD (decide (((ds.getD 6 0 % 2 : Nat) : Int) = 0))))), some (.lst (nm.map .str)), some (.lst ((dueL rows nm).map tupD ++ [.tup []])), none, none]) ((if_ff ?_).trans rfl)).trans ?_
  · simp only [x_f2, x_f1, x_fTst, x_fAndT, x_fOrT, x_fNotT, x_fC, x_fCall, x_fCons, x_fNil, x_fVar, x_fSl, x_fNoPart, x_fPart, x_asB, List.map_cons, List.map_nil, List.length_cons, List.length_nil, List.replicate, List.cons_append, List.nil_append, List.set_cons_succ, List.set_cons_zero, List.getElem?_cons_succ, List.getElem?_cons_zero, R.bind_ok, Bool.not_true, Bool.false_eq_true, if_false, if_true, Bool.not_false, tuple_lst, e10t, nd]
  refine (seq_nx (ρ' := [some (.scr zs), some (.lst (natsD ds)), some (.lst ((ws.map enc).map .str)), some (.int (many : Int)), some (.lst (nm.map .str)), some (.int (count : Int)), some (.lst (rows.map (mkD false))), some (.lst ((dueL rows nm).map tupD)), some (.lst (rows.map (mkD (decide (((ds.getD 6 0 % 2 : Nat) : Int) = 0))))), some (.lst (nm.map .str)), some (.lst ((dueL rows nm).map tupD ++ [.tup []])), none, none]) ((if_ff ?_).trans rfl)).trans ?_
  · simp only [x_f2, x_f1, x_fTst, x_fAndT, x_fOrT, x_fNotT, x_fC, x_fCall, x_fCons, x_fNil, x_fVar, x_fSl, x_fNoPart, x_fPart, x_asB, List.map_cons, List.map_nil, List.length_cons, List.length_nil, List.replicate, List.cons_append, List.nil_append, List.set_cons_succ, List.set_cons_zero, List.getElem?_cons_succ, List.getElem?_cons_zero, R.bind_ok, Bool.not_true, Bool.false_eq_true, if_false, if_true, Bool.not_false, i7, int_int, m72, eq_int, e8d, rev_lst, e10r, eL, nl]
  generalize hway : ds.getD 8 0 % 5 = way at m85
  refine (seq_nx (ρ' := [some (.scr zs), some (.lst (natsD ds)), some (.lst ((ws.map enc).map .str)), some (.int (many : Int)), some (.lst (nm.map .str)), some (.int (count : Int)), some (.lst (rows.map (mkD false))), some (.lst ((dueL rows nm).map tupD)), some (.lst (rows.map (mkD (decide (((ds.getD 6 0 % 2 : Nat) : Int) = 0))))), some (.lst (nm.map .str)), some (.lst ((dueL rows nm).map tupD ++ [.tup []])), some (.int ((way : Nat) : Int)), none]) (asg_nx (d := .int ((way : Nat) : Int)) ?_)).trans ?_
  · simp only [x_f2, x_f1, x_fTst, x_fAndT, x_fOrT, x_fNotT, x_fC, x_fCall, x_fCons, x_fNil, x_fVar, x_fSl, x_fNoPart, x_fPart, x_asB, List.map_cons, List.map_nil, List.length_cons, List.length_nil, List.replicate, List.cons_append, List.nil_append, List.set_cons_succ, List.set_cons_zero, List.getElem?_cons_succ, List.getElem?_cons_zero, R.bind_ok, Bool.not_true, Bool.false_eq_true, if_false, if_true, Bool.not_false, i8, int_int, m85]
  have wn : ∀ w ∈ nm, w.length ≤ 1000 := fun w hw => by have := (h.w w hw).2; omega
  have ww : ∀ w ∈ ws.map enc, w.length ≤ 1000 := fun w hw => by
    obtain ⟨l, hl, rfl⟩ := List.mem_map.mp hw
    rw [enc_len]
    have := (wg l hl).2
    omega
  have s9 : sliceD (.lst (natsD ds)) (some 9) none = .ok (.lst (natsD (ds.drop 9))) := sl_from 9 (by omega)
  have s12 : sliceD (.lst (natsD ds)) (some 12) none = .ok (.lst (natsD (ds.drop 12))) := sl_from 12 (by omega)
  obtain ⟨r9, e9, b9⟩ := wrong_names_eq (ds := ds.drop 9) (ns := nm) (ws := ws.map enc) (by rw [List.length_drop]; omega) wn h.le ww (by rw [List.length_map]; exact wl)
  obtain ⟨r12, e12, b12⟩ := wrong_names_eq (ds := ds.drop 12) (ns := nm) (ws := ws.map enc) (by rw [List.length_drop]; omega) wn h.le ww (by rw [List.length_map]; exact wl)
  obtain ⟨rs, ew, wno, wok, wl64⟩ := wrong_rows_eq (ds := ds.drop 9) (ns := nm) (rows := rows) (by rw [List.length_drop]; omega) (fun w hw => ⟨wn w hw, h.z w hw⟩) h.le rl (fun r hr' => ⟨fun w hw => wn w ((rg r hr').1 w hw), by have := (rg r hr').2; omega⟩) h.ok okr
  by_cases h2 : ((way : Nat) : Int) < 2
  · refine seq_ret ((if_tt ?_).trans (ret_ok ?_))
    · simp only [x_f2, x_f1, x_fTst, x_fAndT, x_fOrT, x_fNotT, x_fC, x_fCall, x_fCons, x_fNil, x_fVar, x_fSl, x_fNoPart, x_fPart, x_asB, List.map_cons, List.map_nil, List.length_cons, List.length_nil, List.replicate, List.cons_append, List.nil_append, List.set_cons_succ, List.set_cons_zero, List.getElem?_cons_succ, List.getElem?_cons_zero, R.bind_ok, Bool.not_true, Bool.false_eq_true, if_false, if_true, Bool.not_false, lt_int, eq_true h2, decide_true]
    · have en : fLst (fCons (fC (.str "names")) fNil) [some (.scr zs), some (.lst (natsD ds)), some (.lst ((ws.map enc).map .str)), some (.int (many : Int)), some (.lst (nm.map .str)), some (.int (count : Int)), some (.lst (rows.map (mkD false))), some (.lst ((dueL rows nm).map tupD)), some (.lst (rows.map (mkD (decide (((ds.getD 6 0 % 2 : Nat) : Int) = 0))))), some (.lst (nm.map .str)), some (.lst ((dueL rows nm).map tupD ++ [.tup []])), some (.int ((way : Nat) : Int)), none] = .ok (.lst [.str "names"]) := lst_one rfl
      rw [x_f2, en]
      simp only [x_f2, x_f1, x_fTst, x_fAndT, x_fOrT, x_fNotT, x_fC, x_fCall, x_fCons, x_fNil, x_fVar, x_fSl, x_fNoPart, x_fPart, x_asB, List.map_cons, List.map_nil, List.length_cons, List.length_nil, List.replicate, List.cons_append, List.nil_append, List.set_cons_succ, List.set_cons_zero, List.getElem?_cons_succ, List.getElem?_cons_zero, R.bind_ok, Bool.not_true, Bool.false_eq_true, if_false, if_true, Bool.not_false, s9, e9, badN_no b9, eq_names]
  refine (seq_nx (ρ' := [some (.scr zs), some (.lst (natsD ds)), some (.lst ((ws.map enc).map .str)), some (.int (many : Int)), some (.lst (nm.map .str)), some (.int (count : Int)), some (.lst (rows.map (mkD false))), some (.lst ((dueL rows nm).map tupD)), some (.lst (rows.map (mkD (decide (((ds.getD 6 0 % 2 : Nat) : Int) = 0))))), some (.lst (nm.map .str)), some (.lst ((dueL rows nm).map tupD ++ [.tup []])), some (.int ((way : Nat) : Int)), none]) ((if_ff ?_).trans rfl)).trans ?_
  · simp only [x_f2, x_f1, x_fTst, x_fAndT, x_fOrT, x_fNotT, x_fC, x_fCall, x_fCons, x_fNil, x_fVar, x_fSl, x_fNoPart, x_fPart, x_asB, List.map_cons, List.map_nil, List.length_cons, List.length_nil, List.replicate, List.cons_append, List.nil_append, List.set_cons_succ, List.set_cons_zero, List.getElem?_cons_succ, List.getElem?_cons_zero, R.bind_ok, Bool.not_true, Bool.false_eq_true, if_false, if_true, Bool.not_false, lt_int, eq_false h2, decide_false]
  refine (seq_nx (ρ' := [some (.scr zs), some (.lst (natsD ds)), some (.lst ((ws.map enc).map .str)), some (.int (many : Int)), some (.lst (nm.map .str)), some (.int (count : Int)), some (.lst (rows.map (mkD false))), some (.lst ((dueL rows nm).map tupD)), some (.lst (rows.map (mkD (decide (((ds.getD 6 0 % 2 : Nat) : Int) = 0))))), some (.lst (nm.map .str)), some (.lst ((dueL rows nm).map tupD ++ [.tup []])), some (.int ((way : Nat) : Int)), some (.lst (rs.map (mkD false)))]) (asg_nx (d := .lst (rs.map (mkD false))) ?_)).trans ?_
  · simp only [x_f2, x_f1, x_fTst, x_fAndT, x_fOrT, x_fNotT, x_fC, x_fCall, x_fCons, x_fNil, x_fVar, x_fSl, x_fNoPart, x_fPart, x_asB, List.map_cons, List.map_nil, List.length_cons, List.length_nil, List.replicate, List.cons_append, List.nil_append, List.set_cons_succ, List.set_cons_zero, List.getElem?_cons_succ, List.getElem?_cons_zero, R.bind_ok, Bool.not_true, Bool.false_eq_true, if_false, if_true, Bool.not_false, s9, ew]
  by_cases h4 : ((way : Nat) : Int) < 4
  · refine seq_ret ((if_tt ?_).trans (ret_ok ?_))
    · simp only [x_f2, x_f1, x_fTst, x_fAndT, x_fOrT, x_fNotT, x_fC, x_fCall, x_fCons, x_fNil, x_fVar, x_fSl, x_fNoPart, x_fPart, x_asB, List.map_cons, List.map_nil, List.length_cons, List.length_nil, List.replicate, List.cons_append, List.nil_append, List.set_cons_succ, List.set_cons_zero, List.getElem?_cons_succ, List.getElem?_cons_zero, R.bind_ok, Bool.not_true, Bool.false_eq_true, if_false, if_true, Bool.not_false, lt_int, eq_true h4, decide_true]
    · have en : fLst (fCons (fC (.str "rows")) fNil) [some (.scr zs), some (.lst (natsD ds)), some (.lst ((ws.map enc).map .str)), some (.int (many : Int)), some (.lst (nm.map .str)), some (.int (count : Int)), some (.lst (rows.map (mkD false))), some (.lst ((dueL rows nm).map tupD)), some (.lst (rows.map (mkD (decide (((ds.getD 6 0 % 2 : Nat) : Int) = 0))))), some (.lst (nm.map .str)), some (.lst ((dueL rows nm).map tupD ++ [.tup []])), some (.int ((way : Nat) : Int)), some (.lst (rs.map (mkD false)))] = .ok (.lst [.str "rows"]) := lst_one rfl
      have eh := handed_eq (d := .lst (rs.map (mkD false))) (b := false) (t := decide ((way : Int) = 2)) (rows := rs) (.inl rfl) (by omega)
      have er : F__law_refusal [.lst (rs.map (mkD (decide ((way : Int) = 2)))), .lst (nm.map .str)] = .ok (.lst [.str "rows"]) := refusal_eq (h.no (.inl rfl) (.inl rfl) wok wno)
      rw [x_f2, en]
      simp only [x_f2, x_f1, x_fTst, x_fAndT, x_fOrT, x_fNotT, x_fC, x_fCall, x_fCons, x_fNil, x_fVar, x_fSl, x_fNoPart, x_fPart, x_asB, List.map_cons, List.map_nil, List.length_cons, List.length_nil, List.replicate, List.cons_append, List.nil_append, List.set_cons_succ, List.set_cons_zero, List.getElem?_cons_succ, List.getElem?_cons_zero, R.bind_ok, Bool.not_true, Bool.false_eq_true, if_false, if_true, Bool.not_false, eq_int, eh, list_lst, er, eq_rows]
  refine (seq_nx (ρ' := [some (.scr zs), some (.lst (natsD ds)), some (.lst ((ws.map enc).map .str)), some (.int (many : Int)), some (.lst (nm.map .str)), some (.int (count : Int)), some (.lst (rows.map (mkD false))), some (.lst ((dueL rows nm).map tupD)), some (.lst (rows.map (mkD (decide (((ds.getD 6 0 % 2 : Nat) : Int) = 0))))), some (.lst (nm.map .str)), some (.lst ((dueL rows nm).map tupD ++ [.tup []])), some (.int ((way : Nat) : Int)), some (.lst (rs.map (mkD false)))]) ((if_ff ?_).trans rfl)).trans ?_
  · simp only [x_f2, x_f1, x_fTst, x_fAndT, x_fOrT, x_fNotT, x_fC, x_fCall, x_fCons, x_fNil, x_fVar, x_fSl, x_fNoPart, x_fPart, x_asB, List.map_cons, List.map_nil, List.length_cons, List.length_nil, List.replicate, List.cons_append, List.nil_append, List.set_cons_succ, List.set_cons_zero, List.getElem?_cons_succ, List.getElem?_cons_zero, R.bind_ok, Bool.not_true, Bool.false_eq_true, if_false, if_true, Bool.not_false, lt_int, eq_false h4, decide_false]
  refine ret_ok ?_
  have en : fLst (fCons (fC (.str "names")) fNil) [some (.scr zs), some (.lst (natsD ds)), some (.lst ((ws.map enc).map .str)), some (.int (many : Int)), some (.lst (nm.map .str)), some (.int (count : Int)), some (.lst (rows.map (mkD false))), some (.lst ((dueL rows nm).map tupD)), some (.lst (rows.map (mkD (decide (((ds.getD 6 0 % 2 : Nat) : Int) = 0))))), some (.lst (nm.map .str)), some (.lst ((dueL rows nm).map tupD ++ [.tup []])), some (.int ((way : Nat) : Int)), some (.lst (rs.map (mkD false)))] = .ok (.lst [.str "names"]) := lst_one rfl
  rw [x_f2, en]
  simp only [x_f2, x_f1, x_fTst, x_fAndT, x_fOrT, x_fNotT, x_fC, x_fCall, x_fCons, x_fNil, x_fVar, x_fSl, x_fNoPart, x_fPart, x_asB, List.map_cons, List.map_nil, List.length_cons, List.length_nil, List.replicate, List.cons_append, List.nil_append, List.set_cons_succ, List.set_cons_zero, List.getElem?_cons_succ, List.getElem?_cons_zero, R.bind_ok, Bool.not_true, Bool.false_eq_true, if_false, if_true, Bool.not_false, s12, e12, badN_no b12, eq_names]
theorem law_true (zs : List Int) : F_law [.scr zs] = .ok (.bl true) := by
  obtain ⟨ds, ws, nm, rows, many, count, e, dl, wl, wg, wn, hnm, mm, rl, rg⟩ := law_a zs
  have h : Nm nm := by rw [hnm]; exact Nm.of wg wn mm
  unfold F_law
  exact run_sh (e.trans (law_b dl wl wg h rl rg))
end M55
end
section
set_option maxRecDepth 100000
set_option maxHeartbeats 4000000
open PySem PySem.Spec L2 T2
/-! ### the head -/
def clsAt (i j : Nat) : Stmt := match top i with
  | .ClassDef _ _ _ b _ _ _ _ _ _ _ => b.getD j (.Pass ⟨0, 0, 0, 0⟩)
  | _ => .Pass ⟨0, 0, 0, 0⟩
def dd_is_list : He.DefD := ⟨("is_list", none), "is_list", "is_list", defArgs (top 4), defBody (top 4), defScope (top 4), [], []⟩
def dd_is_word : He.DefD := ⟨("is_word", none), "is_word", "is_word", defArgs (top 5), defBody (top 5), defScope (top 5), [], []⟩
def dd_has_twice : He.DefD := ⟨("has_twice", none), "has_twice", "has_twice", defArgs (top 6), defBody (top 6), defScope (top 6), [], []⟩
def dd_is_words : He.DefD := ⟨("is_words", none), "is_words", "is_words", defArgs (top 7), defBody (top 7), defScope (top 7), [], []⟩
def dd_all_lots : He.DefD := ⟨("all_lots", none), "all_lots", "all_lots", defArgs (top 15), defBody (top 15), defScope (top 15), [], []⟩
def dd_is_within : He.DefD := ⟨("is_within", none), "is_within", "is_within", defArgs (top 16), defBody (top 16), defScope (top 16), [], []⟩
def dd_least_lots : He.DefD := ⟨("least_lots", none), "least_lots", "least_lots", defArgs (top 17), defBody (top 17), defScope (top 17), [], []⟩
def dd_meets : He.DefD := ⟨("meets", none), "meets", "meets", defArgs (top 18), defBody (top 18), defScope (top 18), [], []⟩
def dd_are_rows_of : He.DefD := ⟨("are_rows_of", none), "are_rows_of", "are_rows_of", defArgs (top 19), defBody (top 19), defScope (top 19), [], []⟩
def dd_least_hitting : He.DefD := ⟨("least_hitting", none), "least_hitting", "least_hitting", defArgs (top 20), defBody (top 20), defScope (top 20), [], []⟩
def dd__law_draws : He.DefD := ⟨("_law_draws", none), "_law_draws", "_law_draws", defArgs (top 22), defBody (top 22), defScope (top 22), [], []⟩
def dd__law_words : He.DefD := ⟨("_law_words", none), "_law_words", "_law_words", defArgs (top 23), defBody (top 23), defScope (top 23), [], []⟩
def dd__law_rows : He.DefD := ⟨("_law_rows", none), "_law_rows", "_law_rows", defArgs (top 24), defBody (top 24), defScope (top 24), [], []⟩
def dd__law_meets : He.DefD := ⟨("_law_meets", none), "_law_meets", "_law_meets", defArgs (top 25), defBody (top 25), defScope (top 25), [], []⟩
def dd__law_least : He.DefD := ⟨("_law_least", none), "_law_least", "_law_least", defArgs (top 26), defBody (top 26), defScope (top 26), [], []⟩
def dd__law_least_rows : He.DefD := ⟨("_law_least_rows", none), "_law_least_rows", "_law_least_rows", defArgs (top 27), defBody (top 27), defScope (top 27), [], []⟩
def dd__law_put : He.DefD := ⟨("_law_put", none), "_law_put", "_law_put", defArgs (top 28), defBody (top 28), defScope (top 28), [], []⟩
def dd__law_wrong_names : He.DefD := ⟨("_law_wrong_names", none), "_law_wrong_names", "_law_wrong_names", defArgs (top 29), defBody (top 29), defScope (top 29), [], []⟩
def dd__law_wrong_rows : He.DefD := ⟨("_law_wrong_rows", none), "_law_wrong_rows", "_law_wrong_rows", defArgs (top 30), defBody (top 30), defScope (top 30), [], []⟩
def dd__law_refusal : He.DefD := ⟨("_law_refusal", none), "_law_refusal", "_law_refusal", defArgs (top 31), defBody (top 31), defScope (top 31), [], []⟩
def dd__law_handed : He.DefD := ⟨("_law_handed", none), "_law_handed", "_law_handed", defArgs (top 32), defBody (top 32), defScope (top 32), [], []⟩
def dd_law : He.DefD := ⟨("law", none), "law", "law", defArgs (top 33), defBody (top 33), defScope (top 33), [], []⟩
def hfn : List He.DefD := [dd_is_list, dd_is_word, dd_has_twice, dd_is_words, dd_all_lots, dd_is_within, dd_least_lots, dd_meets, dd_are_rows_of, dd_least_hitting, dd__law_draws, dd__law_words, dd__law_rows, dd__law_meets, dd__law_least, dd__law_least_rows, dd__law_put, dd__law_wrong_names, dd__law_wrong_rows, dd__law_refusal, dd__law_handed, dd_law]
def hfa : List He.Fa := [.glo "is_list", .glo "is_word", .glo "has_twice", .glo "is_words", .glo "all_lots", .glo "is_within", .glo "least_lots", .glo "meets", .glo "are_rows_of", .glo "least_hitting", .glo "_law_draws", .glo "_law_words", .glo "_law_rows", .glo "_law_meets", .glo "_law_least", .glo "_law_least_rows", .glo "_law_put", .glo "_law_wrong_names", .glo "_law_wrong_rows", .glo "_law_refusal", .glo "_law_handed", .glo "law", .glo "BadCount", .glo "BadLot", .glo "PlantError", .free "len", .free "isinstance", .free "int", .free "abs", .free "sum", .free "range", .free "list", .free "tuple", .free "str", .free "sorted", .free "bool", .free "dict", .free "super", .int "LONGEST_WORD" 12, .int "NAMES" 6, .int "ROWS" 64, .str "LETTERS" "abcdefghijklmnopqrstuvwxyz", .str "OTHERS" "abcdefghijklmnopqrstuvwxyz0123456789-"]
def htf : List He.Defn := [("all_lots", none)]
def ii_BadLot : IniD := ⟨"BadLot", "BadLot.__init__", defArgs (clsAt 11 0), defBody (clsAt 11 0), defScope (clsAt 11 0)⟩
theorem it_BadLot : IniT "BadLot.__init__" "self" "why" "why" "What is handed in makes no lot" ii_BadLot.params ii_BadLot.body ii_BadLot.scope where
  par := ⟨_, rfl, rfl⟩
  bind := by intro _ _ _ _ _ _ _ _ _; kernel_rfl
  kind := rfl
  co := rfl
  gen := rfl
  ncell := by decide +kernel
  locS := by decide +kernel
  locN := by decide +kernel
  ne := by decide +kernel
  ksup := by decide +kernel
  kcls := by decide +kernel
  dS := by decide +kernel
  dN := by decide +kernel
  bod := ⟨_, _, _, _, _, _, _, _, _, _, _, rfl, fun env => ⟨_, rfl⟩⟩
def his : List IniD := [ii_BadLot]
def hexs (K : PySem.W.Frag) : List Bool := [xclsB Pr.main.file "BadLot" "BadLot.__init__" "why" K, exmB "BadLot" "PlantError" true K, excB "BadLot" K, noatB "BadLot" "why" K, kitB "BadLot" "BadCount" false K, kitB "BadLot" "BadLot" true K, lamB "all_lots" K]
def hex_ (K : PySem.W.Frag) : Bool := (hexs K).all id
abbrev HR : PySem.W.OpenRow := PySem.W.OpenLaw.row PySem.Challenge.rw_tellorhide_k55_least_hitting
abbrev hhk : PySem.W.Hook := hookZ 4 hfa hfn htf hex_ his
def hob (s : PySem.W.SharedT) : AlZ := obsZ 4 hfa hfn htf hex_ his (HandSHeadRun.getT s)
theorem hob_eq (s : PySem.W.SharedT) : hob s = hhk.obs s.abs := obsZ_eq (HandSHeadRun.getT_eq s)
def hloose : List PySem.Str := ["__name__", "LETTERS", "OTHERS", "LONGEST_WORD", "is_list", "is_word", "has_twice", "is_words", "PlantError", "BadCount", "BadLot", "NAMES", "ROWS", "all_lots", "is_within", "least_lots", "meets", "are_rows_of", "least_hitting", "_law_draws", "_law_words", "_law_rows", "_law_meets", "_law_least", "_law_least_rows", "_law_put", "_law_wrong_names", "_law_wrong_rows", "_law_refusal", "_law_handed"]
theorem hrun (w : World) : HandSHeadRun.RunEq HR (PySem.W.view HR.prog [33]) hhk hob 4000 hloose w := by
  intro os
  kernel_rfl
def htb (K : PySem.W.Frag) : Tb := [((He.cT K ("all_lots", none)).2, (("all_lots" : Str) ++ ".<locals>.") ++ "<lambda>")]
theorem htxt {w : World} {h : Heap} {K : PySem.W.Frag} {mg : Str → Option Value} {base : Heap} (X : K.In h) (G : h.Ns mainGlobals mg) (c : SaysZ hfa hfn htf hex_ his w h K) (TB : ∀ p ∈ htf.map (He.cT K), LamX.TabB base mg p.1 p.2) : Txt (htb K) K mg base := by
  have d := c.d
  have ex : (hexs K).all id = true := c.x.more
  have exi : ∀ (i : Nat) (b : Bool), (hexs K)[i]? = some b → b = true := fun i b e => List.all_eq_true.mp ex b (List.mem_of_getElem? e)
  have gl : ∀ (i : Nat) (x : Str), hfa[i]? = some (.glo x) → mg x = some (.ref (He.ga K x)) := fun i x e => He.glo_ok X G (d.fact i e)
  exact {
    b_len := He.free_ok X G (d.fact 25 (f := .free "len") rfl)
    b_isinstance := He.free_ok X G (d.fact 26 (f := .free "isinstance") rfl)
    b_int := He.free_ok X G (d.fact 27 (f := .free "int") rfl)
    b_abs := He.free_ok X G (d.fact 28 (f := .free "abs") rfl)
    b_sum := He.free_ok X G (d.fact 29 (f := .free "sum") rfl)
    b_range := He.free_ok X G (d.fact 30 (f := .free "range") rfl)
    b_list := He.free_ok X G (d.fact 31 (f := .free "list") rfl)
    b_tuple := He.free_ok X G (d.fact 32 (f := .free "tuple") rfl)
    b_str := He.free_ok X G (d.fact 33 (f := .free "str") rfl)
    b_sorted := He.free_ok X G (d.fact 34 (f := .free "sorted") rfl)
    b_bool := He.free_ok X G (d.fact 35 (f := .free "bool") rfl)
    b_dict := He.free_ok X G (d.fact 36 (f := .free "dict") rfl)
    c_LONGEST_WORD := He.int_ok X G (d.fact 38 (f := .int "LONGEST_WORD" 12) rfl)
    c_NAMES := He.int_ok X G (d.fact 39 (f := .int "NAMES" 6) rfl)
    c_ROWS := He.int_ok X G (d.fact 40 (f := .int "ROWS" 64) rfl)
    c_LETTERS := He.str_ok X G (d.fact 41 (f := .str "LETTERS" "abcdefghijklmnopqrstuvwxyz") rfl)
    c_OTHERS := He.str_ok X G (d.fact 42 (f := .str "OTHERS" "abcdefghijklmnopqrstuvwxyz0123456789-") rfl)
    d_is_list := by
      obtain ⟨fd, F⟩ := d.def_ 0 (d := dd_is_list) rfl
      exact ⟨fd, gl 0 _ rfl, F⟩
    d_is_word := by
      obtain ⟨fd, F⟩ := d.def_ 1 (d := dd_is_word) rfl
      exact ⟨fd, gl 1 _ rfl, F⟩
    d_has_twice := by
      obtain ⟨fd, F⟩ := d.def_ 2 (d := dd_has_twice) rfl
      exact ⟨fd, gl 2 _ rfl, F⟩
    d_is_words := by
      obtain ⟨fd, F⟩ := d.def_ 3 (d := dd_is_words) rfl
      exact ⟨fd, gl 3 _ rfl, F⟩
    d_all_lots := by
      obtain ⟨fd, F⟩ := d.def_ 4 (d := dd_all_lots) rfl
      exact ⟨fd, gl 4 _ rfl, F⟩
    d_is_within := by
      obtain ⟨fd, F⟩ := d.def_ 5 (d := dd_is_within) rfl
      exact ⟨fd, gl 5 _ rfl, F⟩
    d_least_lots := by
      obtain ⟨fd, F⟩ := d.def_ 6 (d := dd_least_lots) rfl
      exact ⟨fd, gl 6 _ rfl, F⟩
    d_meets := by
      obtain ⟨fd, F⟩ := d.def_ 7 (d := dd_meets) rfl
      exact ⟨fd, gl 7 _ rfl, F⟩
    d_are_rows_of := by
      obtain ⟨fd, F⟩ := d.def_ 8 (d := dd_are_rows_of) rfl
      exact ⟨fd, gl 8 _ rfl, F⟩
    d_least_hitting := by
      obtain ⟨fd, F⟩ := d.def_ 9 (d := dd_least_hitting) rfl
      exact ⟨fd, gl 9 _ rfl, F⟩
    d__law_draws := by
      obtain ⟨fd, F⟩ := d.def_ 10 (d := dd__law_draws) rfl
      exact ⟨fd, gl 10 _ rfl, F⟩
    d__law_words := by
      obtain ⟨fd, F⟩ := d.def_ 11 (d := dd__law_words) rfl
      exact ⟨fd, gl 11 _ rfl, F⟩
    d__law_rows := by
      obtain ⟨fd, F⟩ := d.def_ 12 (d := dd__law_rows) rfl
      exact ⟨fd, gl 12 _ rfl, F⟩
    d__law_meets := by
      obtain ⟨fd, F⟩ := d.def_ 13 (d := dd__law_meets) rfl
      exact ⟨fd, gl 13 _ rfl, F⟩
    d__law_least := by
      obtain ⟨fd, F⟩ := d.def_ 14 (d := dd__law_least) rfl
      exact ⟨fd, gl 14 _ rfl, F⟩
    d__law_least_rows := by
      obtain ⟨fd, F⟩ := d.def_ 15 (d := dd__law_least_rows) rfl
      exact ⟨fd, gl 15 _ rfl, F⟩
    d__law_put := by
      obtain ⟨fd, F⟩ := d.def_ 16 (d := dd__law_put) rfl
      exact ⟨fd, gl 16 _ rfl, F⟩
    d__law_wrong_names := by
      obtain ⟨fd, F⟩ := d.def_ 17 (d := dd__law_wrong_names) rfl
      exact ⟨fd, gl 17 _ rfl, F⟩
    d__law_wrong_rows := by
      obtain ⟨fd, F⟩ := d.def_ 18 (d := dd__law_wrong_rows) rfl
      exact ⟨fd, gl 18 _ rfl, F⟩
    d__law_refusal := by
      obtain ⟨fd, F⟩ := d.def_ 19 (d := dd__law_refusal) rfl
      exact ⟨fd, gl 19 _ rfl, F⟩
    d__law_handed := by
      obtain ⟨fd, F⟩ := d.def_ 20 (d := dd__law_handed) rfl
      exact ⟨fd, gl 20 _ rfl, F⟩
    d_law := by
      obtain ⟨fd, F⟩ := d.def_ 21 (d := dd_law) rfl
      exact ⟨fd, gl 21 _ rfl, F⟩
    e_BadLot_PlantError := of_decide_eq_true (exi 1 _ rfl)
    f_BadLot_why := ⟨excB_xf (exi 2 _ rfl), of_decide_eq_true (exi 3 _ rfl)⟩
    g_BadCount := gl 22 _ rfl
    g_BadLot := gl 23 _ rfl
    g_PlantError := gl 24 _ rfl
    i_BadLot_BadCount := ⟨excB_of (exi 2 _ rfl), of_decide_eq_true (exi 4 _ rfl)⟩
    i_BadLot_BadLot := ⟨excB_of (exi 2 _ rfl), of_decide_eq_true (exi 5 _ rfl)⟩
    l_all_lots := fun fd ⟨_, _, _, lk⟩ => ⟨_, _, lamB_of (exi 6 _ rfl) lk, TB _ (List.mem_map_of_mem (show (("all_lots", none) : He.Defn) ∈ htf by simp [htf])), by simp [htb], fun p hp _ => by simp only [htb, List.mem_singleton] at hp; rw [hp]⟩
    x_BadLot := xok_of (d := ii_BadLot) (gl 23 _ rfl) (He.free_ok X G (d.fact 37 (f := .free "super") rfl)) (by kernel_rfl) it_BadLot (c.i _ (by simp [his])) (exi 0 _ rfl)
  }
theorem hall {w : World} {K : PySem.W.Frag} {mg : Str → Option Value} {base : Heap} {tb : Tb} (T : Txt tb K mg base) : OkF Pr w tb K mg base 6 "law" ["script"] .sh 1 F_law := by
  have H_is_list := ok_is_list (w := w) T 
  have H_is_word := ok_is_word (w := w) T 
  have H_has_twice := ok_has_twice (w := w) T 
  have H_all_lots := ok_all_lots (w := w) T 
  have H_is_within := ok_is_within (w := w) T 
  have H_meets := ok_meets (w := w) T 
  have H__law_draws := ok__law_draws (w := w) T 
  have H__law_words := ok__law_words (w := w) T 
  have H__law_rows := ok__law_rows (w := w) T 
  have H__law_meets := ok__law_meets (w := w) T 
  have H__law_least_rows := ok__law_least_rows (w := w) T 
  have H__law_put := ok__law_put (w := w) T 
  have H__law_handed := ok__law_handed (w := w) T 
  have H_is_words := ok_is_words (w := w) T H_has_twice H_is_list H_is_word
  have H_least_lots := ok_least_lots (w := w) T H_is_within
  have H_are_rows_of := ok_are_rows_of (w := w) T H_is_list
  have H__law_least := ok__law_least (w := w) T H__law_meets
  have H__law_wrong_names := ok__law_wrong_names (w := w) T H__law_put
  have H__law_wrong_rows := ok__law_wrong_rows (w := w) T H__law_put
  have H_least_hitting := ok_least_hitting (w := w) T H_all_lots H_are_rows_of H_is_words H_least_lots H_meets
  have H__law_refusal := ok__law_refusal (w := w) T H_least_hitting
  have H_law := ok_law (w := w) T H__law_draws H__law_handed H__law_least H__law_least_rows H__law_refusal H__law_rows H__law_words H__law_wrong_names H__law_wrong_rows H_least_hitting
  exact H_law
theorem hlaw {w : World} {h : Heap} {K : PySem.W.Frag} {mg : Str → Option Value} {fa : Addr} (X : K.In h) (G : h.Ns mainGlobals mg) (hmg : mg ("law" : Str) = some (.ref fa)) (c : SaysZ hfa hfn htf hex_ his w h K)
    (law_true : ∀ ns : List Int, ns.length ≤ 63 → (∀ z ∈ ns, Builtin.Int.intBits z ≤ 1048576) → F_law [.scr ns] = .ok (.bl true)) : LamX.LawAtS PySem.Challenge.rw_tellorhide_k55_least_hitting w K (L2.CX Pr w) 6 63 "script" mg fa h := by
  have hX : ∀ base : Heap, K.In base → base.Ns mainGlobals mg → (∀ p ∈ htf.map (He.cT K), LamX.TabB base mg p.1 p.2) → OkF Pr w (htb K) K mg base 6 "law" ["script"] .sh 1 F_law := fun base _ _ TB => hall (htxt X G c TB)
  obtain ⟨fd, F⟩ := c.d.def_ 21 (d := dd_law) rfl
  have e := hmg.symm.trans (He.glo_ok X G (c.d.fact 21 (f := .glo "law") rfl))
  cases e
  have b := FunD.bindsA (ps := ["script"]) F fun _ _ _ _ _ _ us hl => match us, hl with | [_], _ => rfl
  refine ⟨fd, htf.map (He.cT K), spF (htb K) K .sh 1 F_law, fun p hp => ?_, fun p hp => ?_, fun p hp => ?_, fun s v => b s [v] rfl, fun H a ns hl hb hT hS => ?_, fun base KB GB TB => ?_⟩
  · obtain ⟨z, hz, rfl⟩ := List.mem_map.mp hp
    exact c.x.empty z hz
  · obtain ⟨z, hz, rfl⟩ := List.mem_map.mp hp
    exact c.x.out z hz
  · obtain ⟨z, hz, rfl⟩ := List.mem_map.mp hp
    exact PySem.W.codeHd_of_K X (c.x.hd z hz)
  · refine law_pre (htb K) K F_law (fun p hp => ?_) hS (law_true ns hl hb)
    simp only [htb, List.mem_singleton, List.not_mem_nil] at hp
    rw [hp]; exact hT (He.cT K ("all_lots", none)) (List.mem_map_of_mem (show (("all_lots", none) : He.Defn) ∈ htf by simp [htf]))
  · obtain ⟨fd2, F2, _, _, _, ⟨oc, od, osl, lk2⟩, _⟩ := hX base KB GB TB
    obtain ⟨oc1, od1, osl1, lk1⟩ := funD_lk F
    have e2 := lk1.symm.trans lk2
    have e3 : fd = fd2 := by
      injection e2 with e2
      injection e2 with _ _ e2 _
      injection e2
    rw [e3]
    exact F2
open PySem.W PySem.Calls PyProof.Rows in
theorem law_holds (law_true : ∀ ns : List Int, ns.length ≤ 63 → (∀ z ∈ ns, Builtin.Int.intBits z ≤ 1048576) → F_law [.scr ns] = .ok (.bl true)) : PySem.Challenge.rw_tellorhide_k55_least_hitting.Holds := by
  w_on; o_law
  refine HandSHeadRun.head_any (r := OpenLaw.row PySem.Challenge.rw_tellorhide_k55_least_hitting) (q := view (OpenLaw.row PySem.Challenge.rw_tellorhide_k55_least_hitting).prog [33]) (H := hhk) (ob := hob) (M := 4000) (loose := hloose) (d := HandSHeadRun.topDef (OpenLaw.row PySem.Challenge.rw_tellorhide_k55_least_hitting).prog 33) (kwd := []) hob_eq
    (by kernel_rfl) (fun s => by kernel_rfl) hrun (by kernel_rfl) (by kernel_rfl) (by kernel_rfl) (by rfl) (by first | assumption | decide +kernel) (by decide +kernel) ⟨rfl, rfl, rfl, rfl, rfl, by decide +kernel⟩ ?hw ?hc
  case hw => w_witness2
  case hc =>
    refine LamX.walk_ofTsE (l := PySem.Challenge.rw_tellorhide_k55_least_hitting) (n := 63) (k := 6) (x := "script") (CX := fun w => L2.CX Pr w) rfl (by decide) (by kernel_rfl) ⟨rfl, by decide, by decide⟩ ?F (fun _ _ _ _ _ z => ?_)
    · intro w mg fa h Y G hmg0
      obtain ⟨K, KX, c⟩ := Y
      have hmg : mg ("law" : PySem.Str) = some (.ref fa) := by
        have e : (HandSHeadRun.topDef (OpenLaw.row PySem.Challenge.rw_tellorhide_k55_least_hitting).prog 33).name = ("law" : PySem.Str) := by kernel_rfl
        rw [← e]
        exact hmg0
      exact ⟨K, KX, hlaw KX G hmg c law_true⟩
    · obtain ⟨_, _, _, _, _, _, _, _, _, _, _, _, z⟩ := z
      exact z
end
open PySem PySem.W PyProof.Rows
set_option maxRecDepth 100000 in
set_option maxHeartbeats 8000000 in
theorem PySem.Challenge.cw_tellorhide_k55_least_hitting_holds : PySem.Challenge.rw_tellorhide_k55_least_hitting.Holds := by
  exact law_holds fun ns _ _ => M55.law_true ns
