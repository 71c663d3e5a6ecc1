import PyProof.Rows.All
import Wide.All
import OpenK.AllK
import Wide.FinOn
import HandS.ForMost
import HandS.ForExc
import HandS.Walk
import HandS.Wide
import HandS.IsInst
import HandS.CallSlots
import HandS.TryOnly
import HandS.ExcField
import HandS.ExcIs
import HandS.Conv
import HandS.ExcInit
import HandS.Flt
import HandS.Style
import HandS.TupAny
import KE.DataEq
import KE.GoesEnum
import KE.KExcSuper
import KE.RegKSuper
import HandS.ExcOwn
import KE.KExcIs
import HandS.Defaults
import HandS.WordsExc
import KE.RegKIsAll
import PySem.Challenge.RW_adjoinedtongues_k44_distances_of_texts
set_option Elab.async false
set_option linter.all false
set_option maxRecDepth 100000
set_option maxHeartbeats 4000000
/-! PD1: values as pure data; what a heap says of them; the states of a def's slots; the judgements. -/
namespace PD
open PySem PySem.Spec L2

/-- pure data -/
inductive D where
  | non | bl (b : Bool) | int (i : Int) | str (x : Str) | ty (n : String)
  | lst (xs : List D) | tup (xs : List D) | ins (C : Addr) (fs : List (Str × D))
  | dic (kvs : List (Key × D)) | dit (kvs : List (List Key × D))

mutual
inductive Rep (K : PySem.W.Frag) (F : Hp) : V → D → Prop
  | non : Rep K F .non .non
  | bl (b : Bool) : Rep K F (.bl b) (.bl b)
  | int (i : Int) : Rep K F (.int i) (.int i)
  | str (x : Str) : Rep K F (.str x) (.str x)
  | ty (n : String) : Rep K F (.ty n) (.ty n)
  | lst {a : Addr} {vs : List V} {ds : List D} : SqL K F a vs → RepL K F vs ds → Rep K F (.ref a) (.lst ds)
  | tup {a : Addr} {vs : List V} {ds : List D} : SqT K F a vs → RepL K F vs ds → Rep K F (.ref a) (.tup ds)
  | ins {a C dx : Addr} {fs : List (Str × V)} {ds : List (Str × D)} : F a = some (.ins C dx fs) → F dx = some (.own a) → RepF K F fs ds → Rep K F (.ref a) (.ins C ds)
  | dic {a : Addr} {kvs : List (Key × V)} {ds : List (Key × D)} : F a = some (.dK kvs) → RepK K F kvs ds → Rep K F (.ref a) (.dic ds)
  | dit {a : Addr} {kvs : List (List Key × V)} {ds : List (List Key × D)} : F a = some (.dT kvs) → RepT K F kvs ds → Rep K F (.ref a) (.dit ds)
inductive RepL (K : PySem.W.Frag) (F : Hp) : List V → List D → Prop
  | nil : RepL K F [] []
  | cons {v : V} {d : D} {vs : List V} {ds : List D} : Rep K F v d → RepL K F vs ds → RepL K F (v :: vs) (d :: ds)
inductive RepF (K : PySem.W.Frag) (F : Hp) : List (Str × V) → List (Str × D) → Prop
  | nil : RepF K F [] []
  | cons {f : Str} {v : V} {d : D} {vs : List (Str × V)} {ds : List (Str × D)} : Rep K F v d → RepF K F vs ds → RepF K F ((f, v) :: vs) ((f, d) :: ds)
inductive RepK (K : PySem.W.Frag) (F : Hp) : List (Key × V) → List (Key × D) → Prop
  | nil : RepK K F [] []
  | cons {f : Key} {v : V} {d : D} {vs : List (Key × V)} {ds : List (Key × D)} : Rep K F v d → RepK K F vs ds → RepK K F ((f, v) :: vs) ((f, d) :: ds)
inductive RepT (K : PySem.W.Frag) (F : Hp) : List (List Key × V) → List (List Key × D) → Prop
  | nil : RepT K F [] []
  | cons {f : List Key} {v : V} {d : D} {vs : List (List Key × V)} {ds : List (List Key × D)} : Rep K F v d → RepT K F vs ds → RepT K F ((f, v) :: vs) ((f, d) :: ds)
end

theorem Rd.mono {H H' : Hp} {a : Addr} {u : HO} (e : Same H H') (h : Rd H a u) : Rd H' a u := by
  rcases h with h | ⟨o, h⟩
  · exact .inl (e _ _ h)
  · exact .inr ⟨o, e _ _ h⟩
theorem Same.seqL {K : PySem.W.Frag} {H H' : Hp} {a : Addr} {xs : List V} (e : Same H H') (h : SqL K H a xs) : SqL K H' a xs := by
  rcases h with (h | ⟨o, h⟩) | h
  · exact .inl (.inl (e _ _ h))
  · exact .inl (.inr ⟨o, e _ _ h⟩)
  · exact .inr h
theorem Same.seqT {K : PySem.W.Frag} {H H' : Hp} {a : Addr} {xs : List V} (e : Same H H') (h : SqT K H a xs) : SqT K H' a xs := by
  rcases h with (h | ⟨o, h⟩) | h
  · exact .inl (.inl (e _ _ h))
  · exact .inl (.inr ⟨o, e _ _ h⟩)
  · exact .inr h

section
variable {K : PySem.W.Frag} {F F' : Hp}
mutual
theorem Rep.mono (s : Same F F') : ∀ {v : V} {d : D}, Rep K F v d → Rep K F' v d
  | _, _, .non => .non
  | _, _, .bl b => .bl b
  | _, _, .int b => .int b
  | _, _, .str b => .str b
  | _, _, .ty b => .ty b
  | _, _, .lst h r => .lst (Same.seqL s h) (RepL.mono s r)
  | _, _, .tup h r => .tup (Same.seqT s h) (RepL.mono s r)
  | _, _, .ins h1 h2 r => .ins (s _ _ h1) (s _ _ h2) (RepF.mono s r)
  | _, _, .dic h r => .dic (s _ _ h) (RepK.mono s r)
  | _, _, .dit h r => .dit (s _ _ h) (RepT.mono s r)
theorem RepL.mono (s : Same F F') : ∀ {v : List V} {d : List D}, RepL K F v d → RepL K F' v d
  | _, _, .nil => .nil
  | _, _, .cons h r => .cons (Rep.mono s h) (RepL.mono s r)
theorem RepF.mono (s : Same F F') : ∀ {v : List (Str × V)} {d : List (Str × D)}, RepF K F v d → RepF K F' v d
  | _, _, .nil => .nil
  | _, _, .cons h r => .cons (Rep.mono s h) (RepF.mono s r)
theorem RepK.mono (s : Same F F') : ∀ {v : List (Key × V)} {d : List (Key × D)}, RepK K F v d → RepK K F' v d
  | _, _, .nil => .nil
  | _, _, .cons h r => .cons (Rep.mono s h) (RepK.mono s r)
theorem RepT.mono (s : Same F F') : ∀ {v : List (List Key × V)} {d : List (List Key × D)}, RepT K F v d → RepT K F' v d
  | _, _, .nil => .nil
  | _, _, .cons h r => .cons (Rep.mono s h) (RepT.mono s r)
end
theorem RepL.length : ∀ {v : List V} {d : List D}, RepL K F v d → v.length = d.length
  | _, _, .nil => rfl
  | _, _, .cons _ r => by rw [List.length_cons, List.length_cons, RepL.length r]
theorem RepL.get : ∀ {vs : List V} {ds : List D}, RepL K F vs ds → ∀ {i : Nat} {d : D}, ds[i]? = some d → ∃ v, vs[i]? = some v ∧ Rep K F v d
  | _, _, .nil, i, d, h => by simp at h
  | _, _, .cons h r, 0, d, e => by
    simp at e
    subst e
    exact ⟨_, rfl, h⟩
  | _, _, .cons h r, i + 1, d, e => by
    have := RepL.get r (i := i) (d := d) (by simpa using e)
    simpa using this
theorem RepL.get' : ∀ {vs : List V} {ds : List D}, RepL K F vs ds → ∀ {i : Nat} {v : V}, vs[i]? = some v → ∃ d, ds[i]? = some d ∧ Rep K F v d
  | _, _, .nil, i, d, h => by simp at h
  | _, _, .cons h r, 0, d, e => by
    simp at e
    subst e
    exact ⟨_, rfl, h⟩
  | _, _, .cons h r, i + 1, d, e => by
    have := RepL.get' r (i := i) (v := d) (by simpa using e)
    simpa using this
theorem RepL.append : ∀ {v1 v2 : List V} {d1 d2 : List D}, RepL K F v1 d1 → RepL K F v2 d2 → RepL K F (v1 ++ v2) (d1 ++ d2)
  | _, _, _, _, .nil, h => h
  | _, _, _, _, .cons h r, h2 => .cons h (RepL.append r h2)
theorem RepL.take : ∀ (n : Nat) {v : List V} {d : List D}, RepL K F v d → RepL K F (v.take n) (d.take n)
  | 0, _, _, _ => by simpa using RepL.nil
  | _ + 1, _, _, .nil => by simpa using RepL.nil
  | n + 1, _, _, .cons h r => by simpa using RepL.cons h (RepL.take n r)
theorem RepL.drop : ∀ (n : Nat) {v : List V} {d : List D}, RepL K F v d → RepL K F (v.drop n) (d.drop n)
  | 0, _, _, h => h
  | _ + 1, _, _, .nil => by simpa using RepL.nil
  | n + 1, _, _, .cons _ r => by simpa using RepL.drop n r
theorem RepL.snoc {vs : List V} {ds : List D} {v : V} {d : D} (h : RepL K F vs ds) (r : Rep K F v d) : RepL K F (vs ++ [v]) (ds ++ [d]) := h.append (.cons r .nil)
theorem RepL.dropLast {vs : List V} {ds : List D} (h : RepL K F vs ds) : RepL K F vs.dropLast ds.dropLast := by
  rw [List.dropLast_eq_take, List.dropLast_eq_take, h.length]
  exact h.take _
theorem RepL.reverse : ∀ {vs : List V} {ds : List D}, RepL K F vs ds → RepL K F vs.reverse ds.reverse
  | _, _, .nil => .nil
  | _, _, .cons h r => by
    rw [List.reverse_cons, List.reverse_cons]
    exact (RepL.reverse r).snoc h
theorem RepL.set : ∀ {vs : List V} {ds : List D} (i : Nat) {v : V} {d : D}, RepL K F vs ds → Rep K F v d → RepL K F (vs.set i v) (ds.set i d)
  | _, _, _, _, _, .nil, _ => by simpa using RepL.nil
  | _, _, 0, _, _, .cons h r, g => .cons g r
  | _, _, i + 1, _, _, .cons h r, g => .cons h (RepL.set i r g)
theorem RepL.insertIdx : ∀ (i : Nat) {vs : List V} {ds : List D} {v : V} {d : D}, RepL K F vs ds → Rep K F v d → RepL K F (vs.insertIdx i v) (ds.insertIdx i d)
  | 0, _, _, _, _, h, g => by simpa using RepL.cons g h
  | i + 1, _, _, _, _, .nil, _ => by simpa using RepL.nil
  | i + 1, _, _, _, _, .cons h r, g => by simpa using RepL.cons h (RepL.insertIdx i r g)
/-- ints in a list -/
theorem RepL.ints : ∀ (ns : List Int), RepL K F (ns.map V.int) (ns.map D.int)
  | [] => .nil
  | n :: r => .cons (.int n) (RepL.ints r)
theorem RepL.ints_inv : ∀ {vs : List V} {ns : List Int}, RepL K F vs (ns.map D.int) → vs = ns.map V.int
  | _, [], h => by cases h; rfl
  | _, n :: r, h => by
    cases h with
    | cons h1 h2 =>
      cases h1
      rw [RepL.ints_inv h2]
      rfl
theorem RepL.strs_inv : ∀ {vs : List V} {ns : List Str}, RepL K F vs (ns.map D.str) → vs = ns.map V.str
  | _, [], h => by cases h; rfl
  | _, n :: r, h => by
    cases h with
    | cons h1 h2 =>
      cases h1
      rw [RepL.strs_inv h2]
      rfl
theorem RepL.strs : ∀ (ns : List Str), RepL K F (ns.map V.str) (ns.map D.str)
  | [] => .nil
  | n :: r => .cons (.str n) (RepL.strs r)
end

/-- an exception: its class, its fields -/
structure Exc where
  n : Str
  fs : List (Str × D)
/-- a slot: nothing known; frozen data; a list of its own, to be changed; the exception of the suite -/
inductive Sl where
  | un | d (x : D) | own (xs : List D) | ex (x : Exc)
abbrev En := List Sl
inductive Res (α : Type) where
  | ok (a : α) (ρ : En) | exc (x : Exc) (ρ : En) | bad
def Res.bind {α β : Type} (r : Res α) (k : α → En → Res β) : Res β := match r with
  | .ok a ρ => k a ρ
  | .exc x ρ => .exc x ρ
  | .bad => .bad
def ofO {α : Type} (o : Option α) (ρ : En) : Res α := match o with
  | some a => .ok a ρ
  | none => .bad
@[simp] theorem Res.bind_ok {α β : Type} (a : α) (ρ : En) (k : α → En → Res β) : (Res.ok a ρ).bind k = k a ρ := rfl
@[simp] theorem Res.bind_exc {α β : Type} (x : Exc) (ρ : En) (k : α → En → Res β) : (Res.exc x ρ).bind k = .exc x ρ := rfl
@[simp] theorem Res.bind_bad {α β : Type} (k : α → En → Res β) : (Res.bad : Res α).bind k = .bad := rfl
@[simp] theorem ofO_some {α : Type} (a : α) (ρ : En) : ofO (some a) ρ = .ok a ρ := rfl
@[simp] theorem ofO_none {α : Type} (ρ : En) : ofO (none : Option α) ρ = .bad := rfl
/-- a statement's end -/
inductive Fl where
  | nx (ρ : En) | rt (d : D) | bk (ρ : En) | ct (ρ : En) | exc (x : Exc) (ρ : En) | bad
def Fl.seq (r : Fl) (k : En → Fl) : Fl := match r with
  | .nx ρ => k ρ
  | r => r
@[simp] theorem Fl.seq_nx (ρ : En) (k : En → Fl) : (Fl.nx ρ).seq k = k ρ := rfl
@[simp] theorem Fl.seq_rt (ρ : D) (k : En → Fl) : (Fl.rt ρ).seq k = .rt ρ := rfl
@[simp] theorem Fl.seq_bk (ρ : En) (k : En → Fl) : (Fl.bk ρ).seq k = .bk ρ := rfl
@[simp] theorem Fl.seq_ct (ρ : En) (k : En → Fl) : (Fl.ct ρ).seq k = .ct ρ := rfl
@[simp] theorem Fl.seq_exc (x : Exc) (ρ : En) (k : En → Fl) : (Fl.exc x ρ).seq k = .exc x ρ := rfl
@[simp] theorem Fl.seq_bad (k : En → Fl) : Fl.bad.seq k = .bad := rfl
def Res.fl {α : Type} (r : Res α) (k : α → En → Fl) : Fl := match r with
  | .ok a ρ => k a ρ
  | .exc x ρ => .exc x ρ
  | .bad => .bad
@[simp] theorem Res.fl_ok {α : Type} (a : α) (ρ : En) (k : α → En → Fl) : (Res.ok a ρ).fl k = k a ρ := rfl
@[simp] theorem Res.fl_exc {α : Type} (x : Exc) (ρ : En) (k : α → En → Fl) : (Res.exc x ρ : Res α).fl k = .exc x ρ := rfl
@[simp] theorem Res.fl_bad {α : Type} (k : α → En → Fl) : (Res.bad : Res α).fl k = .bad := rfl
/-- a call's end -/
inductive FR where
  | ok (d : D) | exc (x : Exc) | bad
def Fl.fin (r : Fl) : FR := match r with
  | .nx _ => .ok .non
  | .rt d => .ok d
  | .exc x _ => .exc x
  | _ => .bad

/-- the suite's exception: where it stands, its class, its dict -/
structure Sx where
  a : Addr
  cls : Value
  d : Option Addr
structure Fx where
  K : PySem.W.Frag
  S : Sx
  B : Hp
  F0 : Hp
def RepX (K : PySem.W.Frag) (F : Hp) (cls : Value) (dd : Option Addr) (x : Exc) : Prop :=
  (∃ C, PySem.W.nsIn K mainGlobals x.n = some (some (.ref C)) ∧ cls = .ref C) ∧ ((dd = none ∧ x.fs = []) ∨ ∃ d fs, dd = some d ∧ F d = some (.xd fs) ∧ RepF K F fs x.fs)
theorem RepX.mono {K : PySem.W.Frag} {F F' : Hp} {cls : Value} {dd : Option Addr} {x : Exc} (s : Same F F') (h : RepX K F cls dd x) : RepX K F' cls dd x := by
  obtain ⟨h1, h2 | ⟨d, fs, e1, e2, r⟩⟩ := h
  · exact ⟨h1, .inl h2⟩
  · exact ⟨h1, .inr ⟨d, fs, e1, s _ _ e2, r.mono s⟩⟩

/-- B: the heap at the entry, F0 what of it is frozen; F: what is frozen now, H: the heap now -/
structure Fz (Z : Fx) (F H : Hp) : Prop where
  f01 : Same Z.F0 F
  fH : Same F H
  bH : Same Z.B H
  new : ∀ a o, Z.B a = some o → F a = Z.F0 a
structure St2 (Z : Fx) (F H : Hp) (σ : St) (ρ : En) : Prop where
  fz : Fz Z F H
  len : σ.length = ρ.length
  atD : ∀ (i : Nat) (d : D), ρ[i]? = some (.d d) → ∃ v, σ[i]? = some (some v) ∧ Rep Z.K F v d
  atO : ∀ (i : Nat) (xs : List D), ρ[i]? = some (.own xs) → ∃ p vs, σ[i]? = some (some (.ref p)) ∧ H p = some (.lst vs) ∧ F p = none ∧ Z.B p = none ∧ RepL Z.K F vs xs
  atX : ∀ (i : Nat) (x : Exc), ρ[i]? = some (.ex x) → σ[i]? = some (some (.ref Z.S.a)) ∧ RepX Z.K F Z.S.cls Z.S.d x
  dis : ∀ (i j : Nat) (p : Addr) (xs ys : List D), i ≠ j → ρ[i]? = some (.own xs) → ρ[j]? = some (.own ys) → σ[i]? = some (some (.ref p)) → σ[j]? ≠ some (some (.ref p))

/-- the heap has grown: new objects, some of them frozen -/
structure Ext (F H F' H' : Hp) : Prop where
  ff : Same F F'
  fh : Same F' H'
  hh : Same H H'
  new : ∀ a o, H a = some o → F' a = F a
theorem Ext.refl {F H : Hp} (s : Same F H) : Ext F H F H := ⟨Same.refl _, s, Same.refl _, fun _ _ _ => rfl⟩
theorem Ext.trans {F H F1 H1 F2 H2 : Hp} (a : Ext F H F1 H1) (b : Ext F1 H1 F2 H2) : Ext F H F2 H2 :=
  ⟨a.ff.trans b.ff, b.fh, a.hh.trans b.hh, fun c o h => (b.new c o (a.hh c o h)).trans (a.new c o h)⟩
theorem same_upd {H : Hp} {p : Addr} {o : HO} (h : H p = none) : Same H (upd H p o) := fun b u e => by
  rw [upd_ne (ne_of_none e h)]
  exact e
theorem none_of_same {F H : Hp} (s : Same F H) {p : Addr} (h : H p = none) : F p = none := s.free h
/-- a new object, frozen -/
theorem Ext.laid {F H : Hp} {p : Addr} {o : HO} (s : Same F H) (h : H p = none) : Ext F H (upd F p o) (upd H p o) := by
  have hf := none_of_same s h
  refine ⟨same_upd hf, fun b u e => ?_, same_upd h, fun b u e => by rw [upd_ne (ne_of_none e h)]⟩
  by_cases hb : b = p
  · subst hb
    rw [upd_same] at e ⊢
    exact e
  · rw [upd_ne hb] at e ⊢
    exact s _ _ e
theorem Fz.ext {Z : Fx} {F H F' H' : Hp} (z : Fz Z F H) (e : Ext F H F' H') : Fz Z F' H' :=
  ⟨z.f01.trans e.ff, e.fh, z.bH.trans e.hh, fun a o h => (e.new a o (z.bH a o h)).trans (z.new a o h)⟩
theorem St2.ext {Z : Fx} {F H F' H' : Hp} {σ : St} {ρ : En} (s : St2 Z F H σ ρ) (e : Ext F H F' H') : St2 Z F' H' σ ρ where
  fz := s.fz.ext e
  len := s.len
  atD := fun i d h => let ⟨v, h1, h2⟩ := s.atD i d h; ⟨v, h1, h2.mono e.ff⟩
  atO := fun i xs h => by
    obtain ⟨p, vs, h1, h2, h3, h4, h5⟩ := s.atO i xs h
    exact ⟨p, vs, h1, e.hh _ _ h2, (e.new _ _ h2).trans h3, h4, h5.mono e.ff⟩
  atX := fun i x h => let ⟨h1, h2⟩ := s.atX i x h; ⟨h1, h2.mono e.ff⟩
  dis := s.dis
/-- a new object, not frozen -/
theorem St2.laid {Z : Fx} {F H : Hp} {σ : St} {ρ : En} {p : Addr} {o : HO} (s : St2 Z F H σ ρ) (h : H p = none) : St2 Z F (upd H p o) σ ρ :=
  s.ext ⟨Same.refl _, s.fz.fH.trans (same_upd h), same_upd h, fun _ _ _ => rfl⟩
/-- an object of our own is frozen -/
theorem St2.freeze {Z : Fx} {F H : Hp} {σ : St} {ρ : En} {p : Addr} {o : HO} (s : St2 Z F H σ ρ) (h : H p = some o) (hf : F p = none) (hb : Z.B p = none) (hn : ∀ (i : Nat) (xs : List D), ρ[i]? = some (.own xs) → σ[i]? ≠ some (some (.ref p))) : St2 Z (upd F p o) H σ ρ where
  fz := ⟨s.fz.f01.trans (same_upd hf), fun b u e => by
      by_cases hbp : b = p
      · subst hbp
        rw [upd_same] at e
        rw [h]
        exact e
      · rw [upd_ne hbp] at e
        exact s.fz.fH _ _ e, s.fz.bH, fun a u e => by rw [upd_ne (ne_of_none e hb)]; exact s.fz.new a u e⟩
  len := s.len
  atD := fun i d h => let ⟨v, h1, h2⟩ := s.atD i d h; ⟨v, h1, h2.mono (same_upd hf)⟩
  atO := fun i xs h => by
    obtain ⟨q, vs, h1, h2, h3, h4, h5⟩ := s.atO i xs h
    refine ⟨q, vs, h1, h2, ?_, h4, h5.mono (same_upd hf)⟩
    rw [upd_ne (fun e => hn i xs h (by rw [← e]; exact h1))]
    exact h3
  atX := fun i x h => let ⟨h1, h2⟩ := s.atX i x h; ⟨h1, h2.mono (same_upd hf)⟩
  dis := s.dis

/-- what is to hold behind, by a relation R of what the heap holds and the plain value -/
def Post {α β : Type} (R : Hp → β → α → Prop) (Z : Fx) (Wx : WX) (σ : St) (F : Hp) (r : Res α) (Q : β → Hp → Prop) : Prop := match r with
  | .ok d ρ' => ∀ v F' H', St2 Z F' H' σ ρ' → Same F F' → R F' v d → Q v H'
  | .exc x ρ' => ∀ cls dd F' H', St2 Z F' H' σ ρ' → Same F F' → RepX Z.K F' cls dd x → Wx cls dd σ H'
  | .bad => False
theorem Post.bind {α β α' β' : Type} {R : Hp → β → α → Prop} {R' : Hp → β' → α' → Prop} {Z : Fx} {Wx : WX} {σ : St} {F : Hp} {r : Res α'} {k : α' → En → Res α} {Q : β → Hp → Prop} {Q' : β' → Hp → Prop}
    (post : Post R Z Wx σ F (r.bind k) Q) (h : ∀ d ρ' v F' H', Post R Z Wx σ F' (k d ρ') Q → St2 Z F' H' σ ρ' → Same F F' → R' F' v d → Q' v H') : Post R' Z Wx σ F r Q' := by
  cases r with
  | bad => exact post
  | exc x ρ => exact post
  | ok d ρ =>
    intro v F' H' st s rr
    refine h d ρ v F' H' ?_ st s rr
    rw [Res.bind_ok] at post
    cases e : k d ρ with
    | bad => rw [e] at post; exact post
    | exc x ρ2 =>
      rw [e] at post
      exact fun cls dd F2 H2 st2 s2 r2 => post cls dd F2 H2 st2 (s.trans s2) r2
    | ok d2 ρ2 =>
      rw [e] at post
      exact fun v2 F2 H2 st2 s2 r2 => post v2 F2 H2 st2 (s.trans s2) r2
theorem Post.mono {α β : Type} {R : Hp → β → α → Prop} {Z : Fx} {Wx : WX} {σ : St} {F F' : Hp} {r : Res α} {Q : β → Hp → Prop} (post : Post R Z Wx σ F r Q) (s : Same F F') : Post R Z Wx σ F' r Q := by
  cases r with
  | bad => exact post
  | exc x ρ => exact fun cls dd F2 H2 st2 s2 r2 => post cls dd F2 H2 st2 (s.trans s2) r2
  | ok d ρ => exact fun v2 F2 H2 st2 s2 r2 => post v2 F2 H2 st2 (s.trans s2) r2
theorem Post.ofO {α β : Type} {R : Hp → β → α → Prop} {Z : Fx} {Wx : WX} {σ : St} {F : Hp} {o : Option α} {ρ : En} {Q : β → Hp → Prop} (post : Post R Z Wx σ F (ofO o ρ) Q) :
    ∃ a, o = some a ∧ ∀ v F' H', St2 Z F' H' σ ρ → Same F F' → R F' v a → Q v H' := by
  cases o with
  | none => exact post.elim
  | some a => exact ⟨a, rfl, post⟩

section
variable (X : Cx) (Wx : WX) (S : Sx)
abbrev fx (B F0 : Hp) : Fx := ⟨X.K, S, B, F0⟩
/-- an expression -/
structure EJ (e : Expr) (f : En → Res D) : Prop where
  ex : ∃ t, PE X e t ∧ ∀ B F0 F H σ ρ Q, St2 (fx X S B F0) F H σ ρ → Post (Rep X.K) (fx X S B F0) Wx σ F (f ρ) Q → t σ H Q
/-- an argument list -/
structure AJ (es : List Expr) (f : En → Res (List D)) : Prop where
  ex : ∃ t, PA X es t ∧ ∀ B F0 F H σ ρ Q, St2 (fx X S B F0) F H σ ρ → Post (RepL X.K) (fx X S B F0) Wx σ F (f ρ) Q → t σ H Q
/-- a test -/
structure TJ (e : Expr) (f : En → Res Bool) : Prop where
  ex : ∃ t, PT X e t ∧ ∀ B F0 F H σ ρ Q, St2 (fx X S B F0) F H σ ρ → Post (fun _ b c => b = c) (fx X S B F0) Wx σ F (f ρ) Q → t σ H Q
structure TWJ (e : Expr) (f : En → Res Bool) : Prop where
  ex : ∃ t, PW X e t ∧ ∀ B F0 F H σ ρ Q, St2 (fx X S B F0) F H σ ρ → Post (fun _ b c => b = c) (fx X S B F0) Wx σ F (f ρ) Q → t σ H Q
/-- a fresh list -/
def PostO (Z : Fx) (Wx : WX) (σ : St) (F : Hp) (r : Res (List D)) (Q : VK) : Prop := match r with
  | .ok xs ρ' => ∀ p vs F' H', St2 Z F' H' σ ρ' → Same F F' → H' p = some (.lst vs) → F' p = none → Z.B p = none → (∀ (i : Nat) (ys : List D), ρ'[i]? = some (.own ys) → σ[i]? ≠ some (some (.ref p))) → RepL Z.K F' vs xs → Q (.ref p) H'
  | .exc x ρ' => ∀ cls dd F' H', St2 Z F' H' σ ρ' → Same F F' → RepX Z.K F' cls dd x → Wx cls dd σ H'
  | .bad => False
structure OJ (e : Expr) (f : En → Res (List D)) : Prop where
  ex : ∃ t, PE X e t ∧ ∀ B F0 F H σ ρ Q, St2 (fx X S B F0) F H σ ρ → PostO (fx X S B F0) Wx σ F (f ρ) Q → t σ H Q
def SPost (Z : Fx) (Wx : WX) (F : Hp) (r : Fl) (E : Ends) : Prop := match r with
  | .nx ρ' => ∀ σ' F' H', St2 Z F' H' σ' ρ' → Same F F' → E.nx σ' H'
  | .bk ρ' => ∀ σ' F' H', St2 Z F' H' σ' ρ' → Same F F' → E.bk σ' H'
  | .ct ρ' => ∀ σ' F' H', St2 Z F' H' σ' ρ' → Same F F' → E.ct σ' H'
  | .rt d => ∀ v F' H', Fz Z F' H' → Rep Z.K F' v d → E.rt v H'
  | .exc x ρ' => ∀ cls dd σ' F' H', St2 Z F' H' σ' ρ' → Same F F' → RepX Z.K F' cls dd x → Wx cls dd σ' H'
  | .bad => False
structure SJ (st : Stmt) (f : En → Fl) : Prop where
  ex : ∃ t, PS X st t ∧ ∀ B F0 F H σ ρ E, St2 (fx X S B F0) F H σ ρ → SPost (fx X S B F0) Wx F (f ρ) E → t E σ H
structure BJ (sts : List Stmt) (f : En → Fl) : Prop where
  ex : ∃ t, PSs X sts t ∧ ∀ B F0 F H σ ρ E, St2 (fx X S B F0) F H σ ρ → SPost (fx X S B F0) Wx F (f ρ) E → t E σ H
/-- a target; the value is frozen -/
structure GJ (tg : Expr) (g : D → En → Fl) : Prop where
  ex : ∃ t, PG X tg t ∧ ∀ B F0 F H σ ρ v d (Q : St → Hp → Prop), St2 (fx X S B F0) F H σ ρ → Rep X.K F v d → SPost (fx X S B F0) Wx F (g d ρ) { nx := Q, rt := fun _ _ => False } → t v σ H Q
end
end PD
set_option Elab.async false
set_option linter.all false
set_option maxRecDepth 100000
set_option maxHeartbeats 4000000
/-! PD2: rules: names, constants, operators, tests, displays. -/
namespace PD
open PySem PySem.Spec L2

abbrev lim : Nat := 1000000
theorem lim_le {n : Nat} (h : n ≤ lim) : n ≤ sizeLine := by
  rw [sizeLine_eq]
  have h' : n ≤ 1000000 := h
  omega
theorem lim_lt {n : Nat} (h : n < lim) : n < sizeLine := by
  rw [sizeLine_eq]
  have h' : n < 1000000 := h
  omega

section
variable {Z : Fx} {F H : Hp} {σ : St} {ρ : En}
theorem get_lt {α : Type} {l : List α} {i : Nat} {x : α} (h : l[i]? = some x) : i < l.length := (List.getElem?_eq_some_iff.mp h).1
/-- a slot is known as frozen data (or forgotten) -/
theorem St2.toD {i : Nat} {v : V} {d : D} (s : St2 Z F H σ ρ) (h : σ[i]? = some (some v)) (r : Rep Z.K F v d) : St2 Z F H σ (ρ.set i (.d d)) where
  fz := s.fz
  len := by rw [List.length_set]; exact s.len
  atD := fun j e hj => by
    by_cases hij : i = j
    · subst hij
      have hl : i < ρ.length := by rw [← s.len]; exact get_lt h
      rw [List.getElem?_set_self hl] at hj
      cases hj
      exact ⟨v, h, r⟩
    · rw [List.getElem?_set_ne hij] at hj
      exact s.atD j e hj
  atO := fun j e hj => by
    by_cases hij : i = j
    · subst hij
      have hl : i < ρ.length := by rw [← s.len]; exact get_lt h
      rw [List.getElem?_set_self hl] at hj
      cases hj
    · rw [List.getElem?_set_ne hij] at hj
      exact s.atO j e hj
  atX := fun j e hj => by
    by_cases hij : i = j
    · subst hij
      have hl : i < ρ.length := by rw [← s.len]; exact get_lt h
      rw [List.getElem?_set_self hl] at hj
      cases hj
    · rw [List.getElem?_set_ne hij] at hj
      exact s.atX j e hj
  dis := fun a b p xs ys hab h1 h2 h3 => by
    by_cases ha : i = a
    · subst ha
      have hl : i < ρ.length := by rw [← s.len]; exact get_lt h
      rw [List.getElem?_set_self hl] at h1
      cases h1
    · by_cases hb : i = b
      · subst hb
        have hl : i < ρ.length := by rw [← s.len]; exact get_lt h
        rw [List.getElem?_set_self hl] at h2
        cases h2
      · rw [List.getElem?_set_ne ha] at h1
        rw [List.getElem?_set_ne hb] at h2
        exact s.dis a b p xs ys hab h1 h2 h3
theorem St2.toUn (i : Nat) (s : St2 Z F H σ ρ) : St2 Z F H σ (ρ.set i .un) where
  fz := s.fz
  len := by rw [List.length_set]; exact s.len
  atD := fun j e hj => by
    by_cases hij : i = j
    · subst hij
      rw [List.getElem?_set] at hj
      simp only [↓reduceIte] at hj
      split at hj <;> cases hj
    · rw [List.getElem?_set_ne hij] at hj
      exact s.atD j e hj
  atO := fun j e hj => by
    by_cases hij : i = j
    · subst hij
      rw [List.getElem?_set] at hj
      simp only [↓reduceIte] at hj
      split at hj <;> cases hj
    · rw [List.getElem?_set_ne hij] at hj
      exact s.atO j e hj
  atX := fun j e hj => by
    by_cases hij : i = j
    · subst hij
      rw [List.getElem?_set] at hj
      simp only [↓reduceIte] at hj
      split at hj <;> cases hj
    · rw [List.getElem?_set_ne hij] at hj
      exact s.atX j e hj
  dis := fun a b p xs ys hab h1 h2 h3 => by
    by_cases ha : i = a
    · subst ha
      rw [List.getElem?_set] at h1
      simp only [↓reduceIte] at h1
      split at h1 <;> cases h1
    · by_cases hb : i = b
      · subst hb
        rw [List.getElem?_set] at h2
        simp only [↓reduceIte] at h2
        split at h2 <;> cases h2
      · rw [List.getElem?_set_ne ha] at h1
        rw [List.getElem?_set_ne hb] at h2
        exact s.dis a b p xs ys hab h1 h2 h3
/-- a slot is stored -/
theorem St2.storeUn {v : V} (i : Nat) (s : St2 Z F H σ ρ) : St2 Z F H (σ.set i (some v)) (ρ.set i .un) where
  fz := s.fz
  len := by rw [List.length_set, List.length_set]; exact s.len
  atD := fun j e hj => by
    by_cases hij : i = j
    · subst hij
      rw [List.getElem?_set] at hj
      simp only [↓reduceIte] at hj
      split at hj <;> cases hj
    · rw [List.getElem?_set_ne hij] at hj ⊢
      exact s.atD j e hj
  atO := fun j e hj => by
    by_cases hij : i = j
    · subst hij
      rw [List.getElem?_set] at hj
      simp only [↓reduceIte] at hj
      split at hj <;> cases hj
    · rw [List.getElem?_set_ne hij] at hj ⊢
      exact s.atO j e hj
  atX := fun j e hj => by
    by_cases hij : i = j
    · subst hij
      rw [List.getElem?_set] at hj
      simp only [↓reduceIte] at hj
      split at hj <;> cases hj
    · rw [List.getElem?_set_ne hij] at hj ⊢
      exact s.atX j e hj
  dis := fun a b p xs ys hab h1 h2 h3 => by
    by_cases ha : i = a
    · subst ha
      rw [List.getElem?_set] at h1
      simp only [↓reduceIte] at h1
      split at h1 <;> cases h1
    · by_cases hb : i = b
      · subst hb
        rw [List.getElem?_set] at h2
        simp only [↓reduceIte] at h2
        split at h2 <;> cases h2
      · rw [List.getElem?_set_ne ha] at h1 h3
        rw [List.getElem?_set_ne hb] at h2 ⊢
        exact s.dis a b p xs ys hab h1 h2 h3
theorem set_set {α : Type} (l : List α) (i : Nat) (x y : α) : (l.set i x).set i y = l.set i y := by simp
theorem St2.store {i : Nat} {v : V} {d : D} (s : St2 Z F H σ ρ) (hi : i < ρ.length) (r : Rep Z.K F v d) : St2 Z F H (σ.set i (some v)) (ρ.set i (.d d)) := by
  have h := (s.storeUn (v := v) i).toD (i := i) (v := v) (d := d) (by rw [List.getElem?_set_self (by rw [s.len]; exact hi)]) r
  rw [set_set] at h
  exact h
/-- a slot gets a list of its own -/
theorem St2.storeO {i : Nat} {p : Addr} {vs : List V} {xs : List D} (s : St2 Z F H σ ρ) (hi : i < ρ.length) (hp : H p = some (.lst vs)) (hf : F p = none) (hb : Z.B p = none)
    (hn : ∀ (j : Nat) (ys : List D), ρ[j]? = some (.own ys) → σ[j]? ≠ some (some (.ref p))) (r : RepL Z.K F vs xs) : St2 Z F H (σ.set i (some (.ref p))) (ρ.set i (.own xs)) := by
  have hs : i < σ.length := by rw [s.len]; exact hi
  have g : ∀ (j : Nat), i ≠ j → (ρ.set i (.own xs))[j]? = ρ[j]? := fun j h => List.getElem?_set_ne h
  have g2 : ∀ (j : Nat), i ≠ j → (σ.set i (some (.ref p)))[j]? = σ[j]? := fun j h => List.getElem?_set_ne h
  have g3 : (ρ.set i (.own xs))[i]? = some (.own xs) := List.getElem?_set_self hi
  have g4 : (σ.set i (some (.ref p)))[i]? = some (some (.ref p)) := List.getElem?_set_self hs
  refine ⟨s.fz, by rw [List.length_set, List.length_set]; exact s.len, fun j e hj => ?_, fun j e hj => ?_, fun j e hj => ?_, fun a b q us ws hab h1 h2 h3 => ?_⟩
  · by_cases hij : i = j
    · subst hij
      rw [g3] at hj
      cases hj
    · rw [g j hij] at hj
      rw [g2 j hij]
      exact s.atD j e hj
  · by_cases hij : i = j
    · subst hij
      rw [g3] at hj
      cases hj
      exact ⟨p, vs, g4, hp, hf, hb, r⟩
    · rw [g j hij] at hj
      rw [g2 j hij]
      exact s.atO j e hj
  · by_cases hij : i = j
    · subst hij
      rw [g3] at hj
      cases hj
    · rw [g j hij] at hj
      rw [g2 j hij]
      exact s.atX j e hj
  · by_cases ha : i = a
    · subst ha
      rw [g4] at h3
      cases h3
      rw [g b hab] at h2
      rw [g2 b hab]
      exact hn b ws h2
    · rw [g a ha] at h1
      rw [g2 a ha] at h3
      by_cases hb2 : i = b
      · subst hb2
        rw [g4]
        intro e
        cases e
        exact hn a us h1 h3
      · rw [g b hb2] at h2
        rw [g2 b hb2]
        exact s.dis a b q us ws hab h1 h2 h3
/-- the list of a slot is changed -/
theorem St2.change {i : Nat} {p : Addr} {ws : List V} {xs ys : List D} (s : St2 Z F H σ ρ) (hi : ρ[i]? = some (.own xs)) (hp : σ[i]? = some (some (.ref p))) (r : RepL Z.K F ws ys) : St2 Z F (upd H p (.lst ws)) σ (ρ.set i (.own ys)) := by
  have hl : i < ρ.length := get_lt hi
  obtain ⟨p', vs, h1, h2, h3, h4, h5⟩ := s.atO i xs hi
  rw [hp] at h1
  cases h1
  have g : ∀ (j : Nat), i ≠ j → (ρ.set i (.own ys))[j]? = ρ[j]? := fun j h => List.getElem?_set_ne h
  have g3 : (ρ.set i (.own ys))[i]? = some (.own ys) := List.getElem?_set_self hl
  have hF : ∀ b u, F b = some u → b ≠ p := fun b u e z => by rw [z, h3] at e; cases e
  refine ⟨⟨s.fz.f01, fun b u e => by rw [upd_ne (hF b u e)]; exact s.fz.fH b u e, fun b u e => ?_, s.fz.new⟩, by rw [List.length_set]; exact s.len, fun j e hj => ?_, fun j e hj => ?_, fun j e hj => ?_, fun a b q us ws hab e1 e2 e3 => ?_⟩
  · rw [upd_ne (fun z => by rw [z, h4] at e; cases e)]
    exact s.fz.bH b u e
  · by_cases hij : i = j
    · subst hij
      rw [g3] at hj
      cases hj
    · rw [g j hij] at hj
      exact s.atD j e hj
  · by_cases hij : i = j
    · subst hij
      rw [g3] at hj
      cases hj
      exact ⟨p, ws, hp, upd_same, h3, h4, r⟩
    · rw [g j hij] at hj
      obtain ⟨q, us, e1, e2, e3, e4, e5⟩ := s.atO j e hj
      refine ⟨q, us, e1, ?_, e3, e4, e5⟩
      rw [upd_ne (fun z => by rw [z] at e1; exact s.dis i j p xs e hij hi hj hp e1)]
      exact e2
  · by_cases hij : i = j
    · subst hij
      rw [g3] at hj
      cases hj
    · rw [g j hij] at hj
      exact s.atX j e hj
  · have o : ∀ (c : Nat) (zs : List D), (ρ.set i (.own ys))[c]? = some (.own zs) → ∃ zs', ρ[c]? = some (.own zs') := fun c zs e => by
      by_cases hc : i = c
      · subst hc
        exact ⟨xs, hi⟩
      · rw [g c hc] at e
        exact ⟨zs, e⟩
    obtain ⟨z1, e1'⟩ := o a us e1
    obtain ⟨z2, e2'⟩ := o b ws e2
    exact s.dis a b q z1 z2 hab e1' e2' e3
/-- the list of a slot is frozen -/
theorem St2.frzSlot {i : Nat} {xs : List D} (s : St2 Z F H σ ρ) (hi : ρ[i]? = some (.own xs)) : ∃ p F', σ[i]? = some (some (.ref p)) ∧ Same F F' ∧ Rep Z.K F' (.ref p) (.lst xs) ∧ St2 Z F' H σ (ρ.set i (.d (.lst xs))) := by
  obtain ⟨p, vs, h1, h2, h3, h4, h5⟩ := s.atO i xs hi
  have s1 := (s.toUn i).freeze (p := p) (o := .lst vs) h2 h3 h4 (fun j ys hj => by
    by_cases hij : i = j
    · subst hij
      rw [List.getElem?_set] at hj
      simp only [↓reduceIte] at hj
      split at hj <;> cases hj
    · rw [List.getElem?_set_ne hij] at hj
      exact s.dis i j p xs ys hij hi hj h1)
  have r : Rep Z.K (upd F p (.lst vs)) (.ref p) (.lst xs) := .lst (.inl (.inl upd_same)) (h5.mono (same_upd h3))
  have s2 := s1.toD (i := i) (v := .ref p) h1 r
  rw [set_set] at s2
  exact ⟨p, upd F p (.lst vs), h1, same_upd h3, r, s2⟩
end

section
variable {X : Cx} {Wx : WX} {S : Sx}

/-! ### names, constants -/
def fVar (i : Nat) : En → Res D := fun ρ => match ρ[i]? with
  | some (.d d) => .ok d ρ
  | some (.own xs) => .ok (.lst xs) (ρ.set i (.d (.lst xs)))
  | _ => .bad
theorem ej_var (i : Nat) {x : Str} {pos : Pos} (hN : X.N[i]? = some x := by rfl) (hv : Vis X.env.scope x := by first | exact Or.inl rfl | exact Or.inr (Or.inl rfl) | exact Or.inr (Or.inr rfl)) (hd : (x == ("__debug__" : Str)) = false := by decide)
    (hcd : (x == ("__classdict__" : Str)) = false := by decide) : EJ X Wx S (.Name x pos) (fVar i) := by
  refine ⟨_, pe_var hN hv hd hcd, fun B F0 F H σ ρ Q st post => ?_⟩
  unfold fVar at post
  split at post
  · rename_i d e
    obtain ⟨v, h1, h2⟩ := st.atD i d e
    exact ⟨v, h1, post v F H st (Same.refl _) h2⟩
  · rename_i xs e
    obtain ⟨p, F', h1, h2, h3, h4⟩ := st.frzSlot e
    exact ⟨.ref p, h1, post _ F' H h4 h2 h3⟩
  · exact post.elim
def fC (d : D) : En → Res D := fun ρ => .ok d ρ
theorem ej_int {i : Int} {j : Nat} {pos : Pos} : EJ X Wx S (.Constant (.int i) j pos) (fC (.int i)) := ⟨_, pe_int, fun _ _ F H _ _ _ st post => post _ F H st (Same.refl _) (.int i)⟩
theorem ej_bl {i : Bool} {j : Nat} {pos : Pos} : EJ X Wx S (.Constant (.bool i) j pos) (fC (.bl i)) := ⟨_, pe_bl, fun _ _ F H _ _ _ st post => post _ F H st (Same.refl _) (.bl i)⟩
theorem ej_non {j : Nat} {pos : Pos} : EJ X Wx S (.Constant .none j pos) (fC .non) := ⟨_, pe_non, fun _ _ F H _ _ _ st post => post _ F H st (Same.refl _) .non⟩
theorem ej_str {i : Str} {j : Nat} {pos : Pos} : EJ X Wx S (.Constant (.str i) j pos) (fC (.str i)) := ⟨_, pe_str, fun _ _ F H _ _ _ st post => post _ F H st (Same.refl _) (.str i)⟩
/-- a module's constant -/
structure GlJ (X : Cx) (x : Str) (d : D) : Prop where
  ex : ∃ u v, X.mg x = some u ∧ RelV v u ∧ ∀ F, Rep X.K F v d
theorem ej_glob {x : Str} {d : D} {pos : Pos} (G : GlJ X x d) (hg : Gl X x := by rfl) (hd : (x == ("__debug__" : Str)) = false := by decide) : EJ X Wx S (.Name x pos) (fC d) := by
  obtain ⟨u, v, h1, h2, h3⟩ := G.ex
  exact ⟨_, pe_glob hg h1 h2 hd, fun _ _ F H _ _ _ st post => post _ F H st (Same.refl _) (h3 F)⟩
/-- a builtin type as a value -/
theorem ej_ty {x : Str} {n : String} {pos : Pos} (hm : X.mg x = none) (hv : bootBuiltins x = some (.type n) := by decide +kernel) (hg : Gl X x := by rfl) (hn : x ≠ "__name__" := by decide) (hd : (x == ("__debug__" : Str)) = false := by decide) : EJ X Wx S (.Name x pos) (fC (.ty n)) :=
  ⟨_, pe_bltn (v := .ty n) hg hm hv rfl hn hd, fun _ _ F H _ _ _ st post => post _ F H st (Same.refl _) (.ty n)⟩

/-! ### operators -/
/-- an operation on values by its plain function -/
def OpJ (X : Cx) (f : Value → Value → Sem Value) (g : D → D → Option D) : Prop :=
  ∃ r, OpR X f r ∧ ∀ F H x y d e z Q, Same F H → Rep X.K F x d → Rep X.K F y e → g d e = some z → (∀ v F' H', Ext F H F' H' → Rep X.K F' v z → Q v H') → r x y H Q
theorem OpJ.or {f : Value → Value → Sem Value} {g1 g2 : D → D → Option D} (h1 : OpJ X f g1) (h2 : OpJ X f g2) : OpJ X f (fun d e => (g1 d e).orElse fun _ => g2 d e) := by
  obtain ⟨r1, p1, q1⟩ := h1
  obtain ⟨r2, p2, q2⟩ := h2
  refine ⟨_, p1.or p2, fun F H x y d e z Q s rx ry hz k => ?_⟩
  replace hz : (g1 d e).orElse (fun _ => g2 d e) = some z := hz
  cases e1 : g1 d e with
  | some w =>
    rw [e1] at hz
    cases hz
    exact .inl (q1 F H x y d e _ Q s rx ry e1 k)
  | none =>
    rw [e1] at hz
    exact .inr (q2 F H x y d e z Q s rx ry hz k)
theorem OpJ.imp {f : Value → Value → Sem Value} {g g' : D → D → Option D} (h : OpJ X f g) (i : ∀ d e z, g' d e = some z → g d e = some z) : OpJ X f g' := by
  obtain ⟨r, p, q⟩ := h
  exact ⟨r, p, fun F H x y d e z Q s rx ry hz k => q F H x y d e z Q s rx ry (i d e z hz) k⟩
/-- a pure one: the heap stays -/
theorem OpJ.pure {f : Value → Value → Sem Value} {g : D → D → Option D} {r : R2} (ho : OpR X f r) (h : ∀ F H x y d e z (Q : VK), Same F H → Rep X.K F x d → Rep X.K F y e → g d e = some z → (∀ v, Rep X.K F v z → Q v H) → r x y H Q) : OpJ X f g :=
  ⟨r, ho, fun F H x y d e z Q s rx ry hz k => h F H x y d e z Q s rx ry hz fun v rv => k v F H (Ext.refl s) rv⟩
def fBin (g : D → D → Option D) (fa fb : En → Res D) : En → Res D := fun ρ => (fa ρ).bind fun x ρ1 => (fb ρ1).bind fun y ρ2 => ofO (g x y) ρ2
section
variable {a b c : Expr} {pos : Pos} {fa fb fc : En → Res D} {g : D → D → Option D}
theorem fin_op {Z : Fx} {r : R2} {F2 H2 : Hp} {σ : St} {ρ : En} {x y : V} {d e : D} {Q : VK} (q : ∀ F H x y d e z Q, Same F H → Rep Z.K F x d → Rep Z.K F y e → g d e = some z → (∀ v F' H', Ext F H F' H' → Rep Z.K F' v z → Q v H') → r x y H Q)
    (post : Post (Rep Z.K) Z Wx σ F2 (ofO (g d e) ρ) Q) (st : St2 Z F2 H2 σ ρ) (rx : Rep Z.K F2 x d) (ry : Rep Z.K F2 y e) : r x y H2 Q := by
  obtain ⟨z, hz, k⟩ := post.ofO
  exact q F2 H2 x y d e z Q st.fz.fH rx ry hz fun v F' H' ex rv => k v F' H' (st.ext ex) ex.ff rv
theorem ej_bin {op : Operator} (ho : OpJ X (binaryOp op) g) (ha : EJ X Wx S a fa) (hb : EJ X Wx S b fb) : EJ X Wx S (.BinOp a op b pos) (fBin g fa fb) := by
  obtain ⟨ta, pa, qa⟩ := ha.ex
  obtain ⟨tb, pb, qb⟩ := hb.ex
  obtain ⟨r, pr, qr⟩ := ho
  refine ⟨_, pe_op pr pa pb, fun B F0 F H σ ρ Q st post => ?_⟩
  refine qa B F0 F H σ ρ _ st (post.bind fun d ρ1 v F1 H1 post1 st1 s1 r1 => ?_)
  refine qb B F0 F1 H1 σ ρ1 _ st1 (post1.bind fun e ρ2 u F2 H2 post2 st2 s2 r2 => ?_)
  exact fin_op qr post2 st2 (r1.mono s2) r2
theorem ej_cmp {op : CmpOp} (ho : OpJ X (compareOp op) g) (ha : EJ X Wx S a fa) (hb : EJ X Wx S b fb) (hm : behindInMarks op b = false := by first | exact nomark _ | rfl) : EJ X Wx S (.Compare a [op] [b] pos) (fBin g fa fb) := by
  obtain ⟨ta, pa, qa⟩ := ha.ex
  obtain ⟨tb, pb, qb⟩ := hb.ex
  obtain ⟨r, pr, qr⟩ := ho
  refine ⟨_, pe_cmpR pr pa pb hm, fun B F0 F H σ ρ Q st post => ?_⟩
  refine qa B F0 F H σ ρ _ st (post.bind fun d ρ1 v F1 H1 post1 st1 s1 r1 => ?_)
  refine qb B F0 F1 H1 σ ρ1 _ st1 (post1.bind fun e ρ2 u F2 H2 post2 st2 s2 r2 => ?_)
  exact fin_op qr post2 st2 (r1.mono s2) r2
/-- the left side is a name: it is read late, and not frozen -/
def slotD (ρ : En) (i : Nat) : Option D := match ρ[i]? with
  | some (.d d) => some d
  | some (.own xs) => some (.lst xs)
  | _ => none
theorem slot_rep {Z : Fx} {F H : Hp} {σ : St} {ρ : En} {i : Nat} {d : D} (s : St2 Z F H σ ρ) (h : slotD ρ i = some d) : ∃ v F', σ[i]? = some (some v) ∧ Same F F' ∧ Same F' H ∧ (∀ a o, H a = some o → F' a = F a ∨ ∃ xs, ρ[i]? = some (.own xs)) ∧ Rep Z.K F' v d := by
  unfold slotD at h
  split at h
  · rename_i e he
    cases h
    obtain ⟨v, h1, h2⟩ := s.atD i _ he
    exact ⟨v, F, h1, Same.refl _, s.fz.fH, fun _ _ _ => .inl rfl, h2⟩
  · rename_i xs he
    cases h
    obtain ⟨p, F', h1, h2, h3, h4⟩ := s.frzSlot he
    exact ⟨.ref p, F', h1, h2, h4.fz.fH, fun _ _ _ => .inr ⟨xs, he⟩, h3⟩
  · cases h
end

/-! ### conditional -/
def fIf (c : En → Res Bool) (fa fb : En → Res D) : En → Res D := fun ρ => (c ρ).bind fun k ρ1 => if k = true then fa ρ1 else fb ρ1
theorem ej_if {c a b : Expr} {pos : Pos} {fc : En → Res Bool} {fa fb : En → Res D} (hc : TJ X Wx S c fc) (ha : EJ X Wx S a fa) (hb : EJ X Wx S b fb) : EJ X Wx S (.IfExp c a b pos) (fIf fc fa fb) := by
  obtain ⟨tc, pc, qc⟩ := hc.ex
  obtain ⟨ta, pa, qa⟩ := ha.ex
  obtain ⟨tb, pb, qb⟩ := hb.ex
  refine ⟨_, pe_ifExp pc pa pb, fun B F0 F H σ ρ Q st post => ?_⟩
  refine qc B F0 F H σ ρ _ st (post.bind fun d ρ1 v F1 H1 post1 st1 s1 r1 => ?_)
  cases r1
  cases d with
  | true => exact iteT (qa B F0 F1 H1 σ ρ1 Q st1 post1)
  | false => exact iteF (qb B F0 F1 H1 σ ρ1 Q st1 post1)

/-! ### tests -/
def boolD : D → Option Bool
  | .bl b => some b
  | _ => none
def truD : D → Option Bool
  | .non => some false
  | .bl b => some b
  | .int i => some (i != 0)
  | .str s => if s.length ≤ lim then some (s.length != 0) else none
  | .lst xs => some (!xs.isEmpty)
  | .tup xs => some (!xs.isEmpty)
  | _ => none
def fTst (p : D → Option Bool) (f : En → Res D) : En → Res Bool := fun ρ => (f ρ).bind fun d ρ1 => ofO (p d) ρ1
section
variable {a b c : Expr} {rest : List Expr} {pos : Pos} {fa : En → Res D} {f g : En → Res Bool}
/-- an expression that gives a bool -/
theorem tj_val (ha : EJ X Wx S a fa) (he : ∀ whole, isTrue a X.env whole = (do let v ← whole; standAt a.pos; holding [v] (truthy v)) := by intro _; rfl) : TJ X Wx S a (fTst boolD fa) := by
  obtain ⟨ta, pa, qa⟩ := ha.ex
  refine ⟨_, pt_val pa he, fun B F0 F H σ ρ Q st post => ?_⟩
  refine qa B F0 F H σ ρ _ st (post.bind fun d ρ1 v F1 H1 post1 st1 s1 r1 => ?_)
  obtain ⟨k, hk, q⟩ := post1.ofO
  cases r1 <;> first | cases hk | skip
  exact ⟨_, rfl, q _ F1 H1 st1 (Same.refl _) rfl⟩
theorem isEmpty_len {α β : Type} {xs : List α} {ys : List β} (h : xs.length = ys.length) : (!xs.isEmpty) = !ys.isEmpty := by
  cases xs <;> cases ys <;> first | rfl | cases h
theorem tj_cmp {op : CmpOp} {gg : D → D → Option D} {fb : En → Res D} (ho : OpJ X (compareOp op) gg) (ha : EJ X Wx S a fa) (hb : EJ X Wx S b fb) (hm : behindInMarks op b = false := by first | exact nomark _ | rfl) : TJ X Wx S (.Compare a [op] [b] pos) (fTst boolD (fBin gg fa fb)) := by
  obtain ⟨ta, pa, qa⟩ := ha.ex
  obtain ⟨tb, pb, qb⟩ := hb.ex
  obtain ⟨r, pr, qr⟩ := ho
  refine ⟨_, pt_cmpR pr pa pb hm, fun B F0 F H σ ρ Q st post => ?_⟩
  have post' : Post (Rep X.K) (fx X S B F0) Wx σ F (fBin gg fa fb ρ) (fun x H' => ∃ k, x = V.bl k ∧ Q k H') := post.bind fun d ρ1 v F1 H1 post1 st1 s1 r1 => by
    obtain ⟨k, hk, q⟩ := post1.ofO
    cases r1 <;> first | cases hk | skip
    exact ⟨_, rfl, q _ F1 H1 st1 (Same.refl _) rfl⟩
  refine qa B F0 F H σ ρ _ st (post'.bind fun d ρ1 v F1 H1 post1 st1 s1 r1 => ?_)
  refine qb B F0 F1 H1 σ ρ1 _ st1 (post1.bind fun e ρ2 u F2 H2 post2 st2 s2 r2 => ?_)
  exact fin_op qr post2 st2 (r1.mono s2) r2
/-- the truth of any data -/
theorem tru_rep {K : PySem.W.Frag} {F H : Hp} {v : V} {d : D} {k : Bool} (s : Same F H) (r : Rep K F v d) (h : truD d = some k) : TruV K v H k := by
  cases r <;> (try (cases h; done))
  case non => cases h; rfl
  case bl => cases h; rfl
  case int => cases h; rfl
  case str x =>
    replace h : (if x.length ≤ lim then some (x.length != 0) else none) = some k := h
    split at h
    · rename_i hl
      cases h
      refine ⟨lim_le hl, ?_⟩
      generalize x.length = n
      cases n with
      | zero => rfl
      | succ n =>
        have e : ((n + 1 : Nat) != 0) = true := by simp
        have e2 : (((n + 1 : Nat) : Int) != 0) = true := by
          have : ((n + 1 : Nat) : Int) ≠ 0 := by omega
          simpa using this
        rw [e, e2]
    · cases h
  case lst a vs ds h1 h2 =>
    cases h
    exact .inl ⟨vs, Same.seq s h1, isEmpty_len h2.length.symm⟩
  case tup a vs ds h1 h2 =>
    cases h
    exact .inr (.inl ⟨vs, Same.seqT s h1, isEmpty_len h2.length.symm⟩)
theorem tj_tru (ha : EJ X Wx S a fa) (he : ∀ whole, isTrue a X.env whole = (do let v ← whole; standAt a.pos; holding [v] (truthy v)) := by intro _; rfl) : TJ X Wx S a (fTst truD fa) := by
  obtain ⟨ta, pa, qa⟩ := ha.ex
  refine ⟨_, pt_truth pa he, fun B F0 F H σ ρ Q st post => ?_⟩
  refine qa B F0 F H σ ρ _ st (post.bind fun d ρ1 v F1 H1 post1 st1 s1 r1 => ?_)
  obtain ⟨k, hk, q⟩ := post1.ofO
  exact ⟨k, tru_rep st1.fz.fH r1 hk, q _ F1 H1 st1 (Same.refl _) rfl⟩
/-- a name, read late -/
def fTruN (i : Nat) : En → Res Bool := fun ρ => ofO ((slotD ρ i).bind truD) ρ
theorem tj_truN (i : Nat) {x : Str} {pos : Pos} (hN : X.N[i]? = some x := by rfl) (hv : Vis X.env.scope x := by first | exact Or.inl rfl | exact Or.inr (Or.inl rfl) | exact Or.inr (Or.inr rfl)) (hd : (x == ("__debug__" : Str)) = false := by decide)
    (hcd : (x == ("__classdict__" : Str)) = false := by decide) (he : ∀ whole, isTrue (.Name x pos) X.env whole = (do let v ← whole; standAt (Expr.Name x pos).pos; holding [v] (truthy v)) := by intro _; rfl) : TJ X Wx S (.Name x pos) (fTruN i) := by
  refine ⟨_, pt_truth (pe_var hN hv hd hcd) he, fun B F0 F H σ ρ Q st post => ?_⟩
  obtain ⟨k, hk, q⟩ := post.ofO
  cases hs : slotD ρ i with
  | none => rw [hs] at hk; cases hk
  | some d =>
    rw [hs] at hk
    obtain ⟨v, F', h1, h2, h3, _, h4⟩ := slot_rep st hs
    exact ⟨v, h1, k, tru_rep h3 h4 hk, q _ F H st (Same.refl _) rfl⟩
def fNot (f : En → Res Bool) : En → Res Bool := fun ρ => (f ρ).bind fun c ρ1 => .ok (!c) ρ1
theorem tj_not (ha : TJ X Wx S a f) : TJ X Wx S (.UnaryOp .Not a pos) (fNot f) := by
  obtain ⟨ta, pa, qa⟩ := ha.ex
  refine ⟨_, pt_not pa, fun B F0 F H σ ρ Q st post => ?_⟩
  refine qa B F0 F H σ ρ _ st (post.bind fun d ρ1 v F1 H1 post1 st1 s1 r1 => ?_)
  cases r1
  exact post1 _ F1 H1 st1 (Same.refl _) rfl
def fAnd (f g : En → Res Bool) : En → Res Bool := fun ρ => (f ρ).bind fun c ρ1 => if c = true then g ρ1 else .ok false ρ1
def fOr (f g : En → Res Bool) : En → Res Bool := fun ρ => (f ρ).bind fun c ρ1 => if c = true then .ok true ρ1 else g ρ1
theorem twj_and1 (ha : TJ X Wx S a f) : TWJ X Wx S (.BoolOp .And [a] pos) f := by
  obtain ⟨ta, pa, qa⟩ := ha.ex
  exact ⟨_, pw_and1 pa, qa⟩
theorem twj_or1 (ha : TJ X Wx S a f) : TWJ X Wx S (.BoolOp .Or [a] pos) f := by
  obtain ⟨ta, pa, qa⟩ := ha.ex
  exact ⟨_, pw_or1 pa, qa⟩
theorem twj_and (ha : TJ X Wx S a f) (hb : TWJ X Wx S (.BoolOp .And (b :: rest) pos) g) : TWJ X Wx S (.BoolOp .And (a :: b :: rest) pos) (fAnd f g) := by
  obtain ⟨ta, pa, qa⟩ := ha.ex
  obtain ⟨tb, pb, qb⟩ := hb.ex
  refine ⟨_, pw_and pa pb, fun B F0 F H σ ρ Q st post => ?_⟩
  refine qa B F0 F H σ ρ _ st (post.bind fun d ρ1 v F1 H1 post1 st1 s1 r1 => ?_)
  cases r1
  cases d with
  | true => exact iteT (qb B F0 F1 H1 σ ρ1 Q st1 post1)
  | false => exact iteF (post1 _ F1 H1 st1 (Same.refl _) rfl)
theorem twj_or (ha : TJ X Wx S a f) (hb : TWJ X Wx S (.BoolOp .Or (b :: rest) pos) g) : TWJ X Wx S (.BoolOp .Or (a :: b :: rest) pos) (fOr f g) := by
  obtain ⟨ta, pa, qa⟩ := ha.ex
  obtain ⟨tb, pb, qb⟩ := hb.ex
  refine ⟨_, pw_or pa pb, fun B F0 F H σ ρ Q st post => ?_⟩
  refine qa B F0 F H σ ρ _ st (post.bind fun d ρ1 v F1 H1 post1 st1 s1 r1 => ?_)
  cases r1
  cases d with
  | true => exact iteT (post1 _ F1 H1 st1 (Same.refl _) rfl)
  | false => exact iteF (qb B F0 F1 H1 σ ρ1 Q st1 post1)
theorem TWJ.tj {e : Expr} (h : TWJ X Wx S e f) : TJ X Wx S e f := by
  obtain ⟨t, p, q⟩ := h.ex
  exact ⟨t, p.pt, q⟩
end

/-! ### argument lists, displays -/
def aNil : En → Res (List D) := fun ρ => .ok [] ρ
def aCons (f : En → Res D) (g : En → Res (List D)) : En → Res (List D) := fun ρ => (f ρ).bind fun x ρ1 => (g ρ1).bind fun xs ρ2 => .ok (x :: xs) ρ2
theorem aj_nil : AJ X Wx S [] aNil := ⟨_, pa_nil, fun _ _ F H _ _ _ st post => post _ F H st (Same.refl _) .nil⟩
theorem aj_cons {e : Expr} {es : List Expr} {f : En → Res D} {g : En → Res (List D)} (ha : EJ X Wx S e f) (hr : AJ X Wx S es g) (hs : starEach (e :: es) X.env = (false, eval e X.env) :: starEach es X.env := by rfl) : AJ X Wx S (e :: es) (aCons f g) := by
  obtain ⟨ta, pa, qa⟩ := ha.ex
  obtain ⟨tb, pb, qb⟩ := hr.ex
  refine ⟨_, pa_cons pa pb hs, fun B F0 F H σ ρ Q st post => ?_⟩
  refine qa B F0 F H σ ρ _ st (post.bind fun d ρ1 v F1 H1 post1 st1 s1 r1 => ?_)
  refine qb B F0 F1 H1 σ ρ1 _ st1 (post1.bind fun e ρ2 u F2 H2 post2 st2 s2 r2 => ?_)
  exact post2 _ F2 H2 st2 (Same.refl _) (.cons (r1.mono s2) r2)
def fTup (g : En → Res (List D)) : En → Res D := fun ρ => (g ρ).bind fun xs ρ1 => if xs.length ≤ lim then .ok (.tup xs) ρ1 else .bad
theorem ej_tup {es : List Expr} {x1 : Nat} {pos : Pos} {g : En → Res (List D)} (h : AJ X Wx S es g) : EJ X Wx S (.Tuple es x1 pos) (fTup g) := by
  obtain ⟨t, p, q⟩ := h.ex
  refine ⟨_, pe_tup p, fun B F0 F H σ ρ Q st post => ?_⟩
  refine q B F0 F H σ ρ _ st (post.bind fun d ρ1 v F1 H1 post1 st1 s1 r1 => ?_)
  split at post1
  · rename_i hl
    refine ⟨lim_le (by rw [r1.length]; exact hl), fun a ha => ?_⟩
    have ex := Ext.laid (o := .tup v) st1.fz.fH ha
    exact post1 _ _ _ (st1.ext ex) ex.ff (.tup (.inl (.inl upd_same)) (r1.mono ex.ff))
  · exact post1.elim
def oLst (g : En → Res (List D)) : En → Res (List D) := fun ρ => (g ρ).bind fun xs ρ1 => if xs.length ≤ lim then .ok xs ρ1 else .bad
theorem PostO.bind {α' β' : Type} {R' : Hp → β' → α' → Prop} {Z : Fx} {σ : St} {F : Hp} {r : Res α'} {k : α' → En → Res (List D)} {Q : VK} {Q' : β' → Hp → Prop}
    (post : PostO Z Wx σ F (r.bind k) Q) (h : ∀ d ρ' v F' H', PostO Z Wx σ F' (k d ρ') Q → St2 Z F' H' σ ρ' → Same F F' → R' F' v d → Q' v H') : Post R' Z Wx σ F r Q' := by
  cases r with
  | bad => exact post
  | exc x ρ => exact post
  | ok d ρ =>
    intro v F' H' st s rr
    refine h d ρ v F' H' ?_ st s rr
    rw [Res.bind_ok] at post
    cases e : k d ρ with
    | bad => rw [e] at post; exact post
    | exc x ρ2 =>
      rw [e] at post
      exact fun cls dd F2 H2 st2 s2 r2 => post cls dd F2 H2 st2 (s.trans s2) r2
    | ok d2 ρ2 =>
      rw [e] at post
      exact fun p vs F2 H2 st2 s2 => post p vs F2 H2 st2 (s.trans s2)
/-- a new list -/
theorem fresh_lst {Z : Fx} {F H : Hp} {σ : St} {ρ : En} {p : Addr} {vs : List V} {xs : List D} {Q : VK} (post : PostO Z Wx σ F (.ok xs ρ) Q) (st : St2 Z F H σ ρ) (r : RepL Z.K F vs xs) (hp : H p = none) : Q (.ref p) (upd H p (.lst vs)) := by
  refine post p vs F _ (st.laid hp) (Same.refl _) upd_same (none_of_same st.fz.fH hp) (none_of_same st.fz.bH hp) (fun i ys h e => ?_) r
  obtain ⟨q, ws, h1, h2, _⟩ := st.atO i ys h
  rw [e] at h1
  cases h1
  rw [hp] at h2
  cases h2
theorem oj_lst {es : List Expr} {pos : Pos} {g : En → Res (List D)} (h : AJ X Wx S es g) : OJ X Wx S (.List es pos) (oLst g) := by
  obtain ⟨t, p, q⟩ := h.ex
  refine ⟨_, pe_lst p, fun B F0 F H σ ρ Q st post => ?_⟩
  refine q B F0 F H σ ρ _ st (post.bind fun d ρ1 v F1 H1 post1 st1 s1 r1 => ?_)
  split at post1
  · rename_i hl
    exact ⟨lim_le (by rw [r1.length]; exact hl), fun a ha => fresh_lst post1 st1 r1 ha⟩
  · exact post1.elim
def fO (g : En → Res (List D)) : En → Res D := fun ρ => (g ρ).bind fun xs ρ1 => .ok (.lst xs) ρ1
/-- a fresh list, frozen -/
theorem OJ.ej {e : Expr} {g : En → Res (List D)} (h : OJ X Wx S e g) : EJ X Wx S e (fO g) := by
  obtain ⟨t, p, q⟩ := h.ex
  refine ⟨t, p, fun B F0 F H σ ρ Q st post => q B F0 F H σ ρ Q st ?_⟩
  unfold fO at post
  cases eg : g ρ with
  | bad => rw [eg] at post; exact post
  | exc x ρ1 => rw [eg] at post; exact post
  | ok xs ρ1 =>
    rw [eg] at post
    intro a vs F1 H1 st1 s1 h1 h2 h3 h4 r
    exact post _ _ H1 (st1.freeze h1 h2 h3 h4) (s1.trans (same_upd h2)) (.lst (.inl (.inl upd_same)) (r.mono (same_upd h2)))
end
end PD
set_option Elab.async false
set_option linter.all false
set_option maxRecDepth 100000
set_option maxHeartbeats 4000000
/-! PD3: statements, targets, calls of defs, loops. -/
namespace PD
open PySem PySem.Spec L2

section
variable {X : Cx} {Wx : WX} {S : Sx}

/-! ### blocks -/
theorem SPost.mono {Z : Fx} {F F' : Hp} {r : Fl} {E : Ends} (post : SPost Z Wx F r E) (s : Same F F') : SPost Z Wx F' r E := by
  cases r with
  | nx ρ => exact fun a b c st s2 => post a b c st (s.trans s2)
  | bk ρ => exact fun a b c st s2 => post a b c st (s.trans s2)
  | ct ρ => exact fun a b c st s2 => post a b c st (s.trans s2)
  | rt d => exact post
  | exc x ρ => exact fun cls dd a b c st s2 => post cls dd a b c st (s.trans s2)
  | bad => exact post
def bNil : En → Fl := fun ρ => .nx ρ
def bSeq (f g : En → Fl) : En → Fl := fun ρ => (f ρ).seq g
theorem bj_nil : BJ X Wx S [] bNil := ⟨_, pss_nil, fun _ _ F H σ _ _ st post => post σ F H st (Same.refl _)⟩
theorem seq_post {Z : Fx} {F : Hp} {r : Fl} {k : En → Fl} {E : Ends} {u : TS} (post : SPost Z Wx F (r.seq k) E) (h : ∀ ρ' σ' F' H', SPost Z Wx F' (k ρ') E → St2 Z F' H' σ' ρ' → Same F F' → u E σ' H') : SPost Z Wx F r { E with nx := u E } := by
  cases r with
  | nx ρ => exact fun σ' F' H' st s => h ρ σ' F' H' (SPost.mono post s) st s
  | bk ρ => exact post
  | ct ρ => exact post
  | rt d => exact post
  | exc x ρ => exact post
  | bad => exact post
theorem bj_cons {st : Stmt} {rest : List Stmt} {f g : En → Fl} (h1 : SJ X Wx S st f) (h2 : BJ X Wx S rest g) : BJ X Wx S (st :: rest) (bSeq f g) := by
  obtain ⟨t, p, q⟩ := h1.ex
  obtain ⟨u, p2, q2⟩ := h2.ex
  exact ⟨_, pss_cons p p2, fun B F0 F H σ ρ E st post => q B F0 F H σ ρ _ st (seq_post post fun ρ' σ' F' H' post' st' s' => q2 B F0 F' H' σ' ρ' E st' post')⟩
theorem bj_one {st : Stmt} {f : En → Fl} (h1 : SJ X Wx S st f) : BJ X Wx S [st] f := by
  obtain ⟨t, p, q⟩ := h1.ex
  exact ⟨_, pss_one p, q⟩
/-- from an expression to a statement -/
theorem fl_post {α β : Type} {R : Hp → β → α → Prop} {Z : Fx} {σ : St} {F : Hp} {r : Res α} {k : α → En → Fl} {E : Ends} {Q : β → Hp → Prop}
    (post : SPost Z Wx F (r.fl k) E) (h : ∀ d ρ' v F' H', SPost Z Wx F' (k d ρ') E → St2 Z F' H' σ ρ' → Same F F' → R F' v d → Q v H') : Post R Z Wx σ F r Q := by
  cases r with
  | bad => exact post
  | exc x ρ => exact fun cls dd F' H' st s rx => post cls dd σ F' H' st s rx
  | ok d ρ => exact fun v F' H' st s rr => h d ρ v F' H' (SPost.mono post s) st s rr
theorem fl_postO {Z : Fx} {σ : St} {F : Hp} {r : Res (List D)} {k : List D → En → Fl} {E : Ends} {Q : VK}
    (post : SPost Z Wx F (r.fl k) E) (h : ∀ xs ρ' p vs F' H', SPost Z Wx F' (k xs ρ') E → St2 Z F' H' σ ρ' → Same F F' → H' p = some (.lst vs) → F' p = none → Z.B p = none → (∀ (i : Nat) (ys : List D), ρ'[i]? = some (.own ys) → σ[i]? ≠ some (some (.ref p))) → RepL Z.K F' vs xs → Q (.ref p) H') : PostO Z Wx σ F r Q := by
  cases r with
  | bad => exact post
  | exc x ρ => exact fun cls dd F' H' st s rx => post cls dd σ F' H' st s rx
  | ok d ρ => exact fun p vs F' H' st s h1 h2 h3 h4 r => h d ρ p vs F' H' (SPost.mono post s) st s h1 h2 h3 h4 r
/-! ### targets -/
def setD (i : Nat) (d : D) (ρ : En) : Fl := if i < ρ.length then .nx (ρ.set i (.d d)) else .bad
theorem gj_name (i : Nat) {x : Str} {pos : Pos} (hN : X.N.Nodup) (hi : X.N[i]? = some x := by rfl) (hx : Loc X.env.scope x := by first | exact Or.inl rfl | exact Or.inr rfl) (hf : X.fn x = true ∨ X.env.scope.names.lookup x = some .local := by first | exact .inl rfl | exact .inr rfl) : GJ X Wx S (.Name x pos) (setD i) := by
  refine ⟨_, pg_name hN hi hx hf, fun B F0 F H σ ρ v d Q st r post => ?_⟩
  unfold setD at post
  split at post
  · rename_i hl
    exact post _ F H (st.store hl r) (Same.refl _)
  · exact post.elim
def tsNil : List D → En → Fl := fun ds ρ => match ds with
  | [] => .nx ρ
  | _ => .bad
def tsCons (g : D → En → Fl) (gs : List D → En → Fl) : List D → En → Fl := fun ds ρ => match ds with
  | d :: r => (g d ρ).seq (gs r)
  | [] => .bad
/-- targets in a row -/
structure GsJ (X : Cx) (Wx : WX) (S : Sx) (tgs : List Expr) (g : List D → En → Fl) : Prop where
  ex : ∃ t, PGs X tgs t ∧ ∀ B F0 F H σ ρ vs ds (Q : St → Hp → Prop), St2 (fx X S B F0) F H σ ρ → RepL X.K F vs ds → SPost (fx X S B F0) Wx F (g ds ρ) { nx := Q, rt := fun _ _ => False } → t vs σ H Q
theorem gsj_nil : GsJ X Wx S [] tsNil := by
  refine ⟨_, pgs_nil, fun B F0 F H σ ρ vs ds Q st r post => ?_⟩
  cases r with
  | nil => exact ⟨rfl, post σ F H st (Same.refl _)⟩
  | cons _ _ => exact post.elim
theorem gsj_cons {e : Expr} {es : List Expr} {g : D → En → Fl} {gs : List D → En → Fl} (h1 : GJ X Wx S e g) (h2 : GsJ X Wx S es gs)
    (hs : (assignEach (e :: es) X.env).map (·.2) = assign e X.env :: (assignEach es X.env).map (·.2) := by rfl) : GsJ X Wx S (e :: es) (tsCons g gs) := by
  obtain ⟨t, p, q⟩ := h1.ex
  obtain ⟨u, p2, q2⟩ := h2.ex
  refine ⟨_, pgs_cons p p2 hs, fun B F0 F H σ ρ vs ds Q st r post => ?_⟩
  cases r with
  | nil => exact post.elim
  | cons r1 r2 =>
    refine ⟨_, _, rfl, q B F0 F H σ ρ _ _ _ st r1 ?_⟩
    have k : ∀ (z : Fl), SPost (fx X S B F0) Wx F (z.seq (gs _)) { nx := Q, rt := fun _ _ => False } → SPost (fx X S B F0) Wx F z { nx := fun σ' H' => u _ σ' H' Q, rt := fun _ _ => False } := fun z pz => by
      cases z with
      | nx ρ' => exact fun σ' F' H' st' s' => q2 B F0 F' H' σ' ρ' _ _ Q st' (r2.mono s') (SPost.mono pz s')
      | bk ρ => exact pz
      | ct ρ => exact pz
      | rt d => exact pz
      | exc x ρ => exact pz
      | bad => exact pz
    exact k _ post
theorem pg_or {tg : Expr} {t1 t2 : TG} (h1 : PG X tg t1) (h2 : PG X tg t2) : PG X tg (fun v σ H Q => t1 v σ H Q ∨ t2 v σ H Q) :=
  ⟨fun pins s σ H v u Q I r h => h.elim (h1.run pins s σ H v u Q I r) (h2.run pins s σ H v u Q I r)⟩
def gUn (n : Nat) (gs : List D → En → Fl) : D → En → Fl := fun d ρ => match d with
  | .tup ds => if ds.length = n then gs ds ρ else .bad
  | .lst ds => if ds.length = n then gs ds ρ else .bad
  | _ => .bad
theorem gj_tup {es : List Expr} {k : Nat} {pos : Pos} {gs : List D → En → Fl} (n : Nat) (h : GsJ X Wx S es gs) (hc : X.calm = true := by rfl)
    (hn : (assignEach es X.env).length = n := by rfl) (hst : (assignEach es X.env).findIdx? (·.1) = none := by rfl) : GJ X Wx S (.Tuple es k pos) (gUn n gs) := by
  obtain ⟨t, p, q⟩ := h.ex
  refine ⟨_, pg_or (pg_tup hc p hn hst) (pg_lst hc p hn hst), fun B F0 F H σ ρ v d Q st r post => ?_⟩
  cases r with
  | @tup a vs ds h1 h2 =>
    replace post : SPost (fx X S B F0) Wx F (if ds.length = n then gs ds ρ else .bad) _ := post
    split at post
    · rename_i hl
      exact .inl ⟨a, vs, rfl, Same.seqT st.fz.fH h1, by rw [h2.length]; exact hl, q B F0 F H σ ρ vs ds Q st h2 post⟩
    · exact post.elim
  | @lst a vs ds h1 h2 =>
    replace post : SPost (fx X S B F0) Wx F (if ds.length = n then gs ds ρ else .bad) _ := post
    split at post
    · rename_i hl
      exact .inr ⟨a, vs, rfl, Same.seq st.fz.fH h1, by rw [h2.length]; exact hl, q B F0 F H σ ρ vs ds Q st h2 post⟩
    · exact post.elim
  | _ => exact post.elim

/-! ### assignments and the like -/
def sAsg (f : En → Res D) (g : D → En → Fl) : En → Fl := fun ρ => (f ρ).fl g
theorem g_ends {Z : Fx} {F : Hp} {r : Fl} {E : Ends} (post : SPost Z Wx F r E) (h : ∀ ρ, r ≠ .bk ρ ∧ r ≠ .ct ρ) (h2 : ∀ d, r ≠ .rt d) : SPost Z Wx F r { nx := E.nx, rt := fun _ _ => False } := by
  cases r with
  | nx ρ => exact post
  | bk ρ => exact absurd rfl (h ρ).1
  | ct ρ => exact absurd rfl (h ρ).2
  | rt d => exact absurd rfl (h2 d)
  | exc x ρ => exact post
  | bad => exact post
theorem SPost.wk {Z : Fx} {F : Hp} {r : Fl} {E : Ends} (post : SPost Z Wx F r E) (h : ∃ ρ, r = .nx ρ ∨ r = .bad) : SPost Z Wx F r { nx := E.nx, rt := fun _ _ => False } := by
  obtain ⟨ρ, rfl | rfl⟩ := h
  · exact post
  · exact post
/-- a plain target never ends otherwise -/
def Calm (g : D → En → Fl) : Prop := ∀ d ρ, ∃ ρ', g d ρ = .nx ρ' ∨ g d ρ = .bad
theorem calm_set (i : Nat) : Calm (setD i) := fun d ρ => by
  unfold setD
  split
  · exact ⟨_, .inl rfl⟩
  · exact ⟨ρ, .inr rfl⟩
def CalmS (g : List D → En → Fl) : Prop := ∀ d ρ, ∃ ρ', g d ρ = .nx ρ' ∨ g d ρ = .bad
theorem calm_nil : CalmS tsNil := fun d ρ => by
  unfold tsNil
  split
  · exact ⟨_, .inl rfl⟩
  · exact ⟨ρ, .inr rfl⟩
theorem calm_cons {g : D → En → Fl} {gs : List D → En → Fl} (h : Calm g) (h2 : CalmS gs) : CalmS (tsCons g gs) := fun d ρ => by
  unfold tsCons
  split
  · rename_i a r
    obtain ⟨ρ', e | e⟩ := h a ρ
    · rw [e]
      exact h2 r ρ'
    · rw [e]
      exact ⟨ρ, .inr rfl⟩
  · exact ⟨ρ, .inr rfl⟩
theorem calm_un {n : Nat} {gs : List D → En → Fl} (h2 : CalmS gs) : Calm (gUn n gs) := fun d ρ => by
  unfold gUn
  split
  · split
    · exact h2 _ _
    · exact ⟨ρ, .inr rfl⟩
  · split
    · exact h2 _ _
    · exact ⟨ρ, .inr rfl⟩
  · exact ⟨ρ, .inr rfl⟩
/-- x = e -/
theorem sj_set (i : Nat) {x : Str} {e : Expr} {f : En → Res D} {pos pos' : Pos} (hN : X.N.Nodup) (he : EJ X Wx S e f) (hi : X.N[i]? = some x := by rfl) (hx : Loc X.env.scope x := by first | exact Or.inl rfl | exact Or.inr rfl)
    (hs : swapsWith e (some (.Name x pos')) pos.line X.env = pure false := by rfl) (hf : X.fn x = true ∨ X.env.scope.names.lookup x = some .local := by first | exact .inl rfl | exact .inr rfl) : SJ X Wx S (.Assign [.Name x pos'] e pos) (sAsg f (setD i)) := by
  obtain ⟨t, p, q⟩ := he.ex
  refine ⟨_, ps_set hN hi hx p hs hf, fun B F0 F H σ ρ E st post => q B F0 F H σ ρ _ st (fl_post post fun d ρ' v F' H' post' st' s' r => ?_)⟩
  unfold setD at post'
  split at post'
  · rename_i hl
    exact post' _ F' H' (st'.store hl r) (Same.refl _)
  · exact post'.elim
def setO (i : Nat) (xs : List D) (ρ : En) : Fl := if i < ρ.length then .nx (ρ.set i (.own xs)) else .bad
def sAsgO (f : En → Res (List D)) (i : Nat) : En → Fl := fun ρ => (f ρ).fl (setO i)
theorem sj_setO (i : Nat) {x : Str} {e : Expr} {f : En → Res (List D)} {pos pos' : Pos} (hN : X.N.Nodup) (he : OJ X Wx S e f) (hi : X.N[i]? = some x := by rfl) (hx : Loc X.env.scope x := by first | exact Or.inl rfl | exact Or.inr rfl)
    (hs : swapsWith e (some (.Name x pos')) pos.line X.env = pure false := by rfl) (hf : X.fn x = true ∨ X.env.scope.names.lookup x = some .local := by first | exact .inl rfl | exact .inr rfl) : SJ X Wx S (.Assign [.Name x pos'] e pos) (sAsgO f i) := by
  obtain ⟨t, p, q⟩ := he.ex
  refine ⟨_, ps_set hN hi hx p hs hf, fun B F0 F H σ ρ E st post => q B F0 F H σ ρ _ st (fl_postO post fun xs ρ' a vs F' H' post' st' s' h1 h2 h3 h4 r => ?_)⟩
  unfold setO at post'
  split at post'
  · rename_i hl
    exact post' _ F' H' (st'.storeO hl h1 h2 h3 h4 r) (Same.refl _)
  · exact post'.elim
/-- a, b = e -/
theorem sj_asg {tg e : Expr} {f : En → Res D} {g : D → En → Fl} {pos : Pos} (hg : GJ X Wx S tg g) (hcalm : Calm g) (he : EJ X Wx S e f) (hs : swapsWithSole [tg] e pos.line X.env = pure false := by rfl) (hw : swappedStores [tg] e X.env = pure none := by rfl)
    (h1 : (assignEach [tg] X.env).map (·.2) = [assign tg X.env] := by rfl) : SJ X Wx S (.Assign [tg] e pos) (sAsg f g) := by
  obtain ⟨t, p, q⟩ := he.ex
  obtain ⟨u, p2, q2⟩ := hg.ex
  refine ⟨_, ps_asg p p2 hs hw h1, fun B F0 F H σ ρ E st post => q B F0 F H σ ρ _ st (fl_post post fun d ρ' v F' H' post' st' s' r => ?_)⟩
  exact q2 B F0 F' H' σ ρ' v d _ st' r (post'.wk (hcalm d ρ'))
def sDrop (f : En → Res D) : En → Fl := fun ρ => (f ρ).fl fun _ ρ1 => .nx ρ1
theorem sj_expr {e : Expr} {f : En → Res D} {pos : Pos} (he : EJ X Wx S e f) (hs : swapsWith e none pos.line X.env = pure false := by rfl) : SJ X Wx S (.Expr e pos) (sDrop f) := by
  obtain ⟨t, p, q⟩ := he.ex
  exact ⟨_, ps_expr p hs, fun B F0 F H σ ρ E st post => q B F0 F H σ ρ _ st (fl_post post fun d ρ' v F' H' post' st' s' r => post' σ F' H' st' (Same.refl _))⟩
def sRet (f : En → Res D) : En → Fl := fun ρ => (f ρ).fl fun d _ => .rt d
theorem sj_ret {e : Expr} {f : En → Res D} {pos : Pos} (he : EJ X Wx S e f) : SJ X Wx S (.Return (some e) pos) (sRet f) := by
  obtain ⟨t, p, q⟩ := he.ex
  exact ⟨_, ps_ret p, fun B F0 F H σ ρ E st post => q B F0 F H σ ρ _ st (fl_post post fun d ρ' v F' H' post' st' s' r => post' v F' H' st'.fz r)⟩
theorem sj_retN {pos : Pos} : SJ X Wx S (.Return none pos) (fun _ => .rt .non) := ⟨_, ps_retN, fun B F0 F H σ ρ E st post => post .non F H st.fz .non⟩
theorem sj_pass {pos : Pos} : SJ X Wx S (.Pass pos) (fun ρ => .nx ρ) := ⟨_, ps_pass, fun B F0 F H σ ρ E st post => post σ F H st (Same.refl _)⟩
theorem sj_break {pos : Pos} : SJ X Wx S (.Break pos) (fun ρ => .bk ρ) := ⟨_, ps_break, fun B F0 F H σ ρ E st post => post σ F H st (Same.refl _)⟩
theorem sj_cont {pos : Pos} : SJ X Wx S (.Continue pos) (fun ρ => .ct ρ) := ⟨_, ps_continue, fun B F0 F H σ ρ E st post => post σ F H st (Same.refl _)⟩
def sIf (c : En → Res Bool) (f g : En → Fl) : En → Fl := fun ρ => (c ρ).fl fun b ρ1 => if b = true then f ρ1 else g ρ1
theorem sj_if {c : Expr} {a b : List Stmt} {fc : En → Res Bool} {f g : En → Fl} {pos : Pos} (hc : TJ X Wx S c fc) (ha : BJ X Wx S a f) (hb : BJ X Wx S b g) : SJ X Wx S (.If c a b pos) (sIf fc f g) := by
  obtain ⟨t, p, q⟩ := hc.ex
  obtain ⟨u, p2, q2⟩ := ha.ex
  obtain ⟨w, p3, q3⟩ := hb.ex
  refine ⟨_, ps_if p p2 p3, fun B F0 F H σ ρ E st post => q B F0 F H σ ρ _ st (fl_post post fun d ρ' v F' H' post' st' s' r => ?_)⟩
  cases r
  cases d with
  | true => exact iteT (q2 B F0 F' H' σ ρ' E st' post')
  | false => exact iteF (q3 B F0 F' H' σ ρ' E st' post')

/-! ### while -/
def whD : Nat → (En → Res Bool) → (En → Fl) → En → Fl
  | 0, _, _, _ => .bad
  | n + 1, c, f, ρ => (c ρ).fl fun b ρ1 => if b = true then (match f ρ1 with
      | .nx ρ2 => whD n c f ρ2
      | .ct ρ2 => whD n c f ρ2
      | .bk ρ2 => .nx ρ2
      | r => r) else .nx ρ1
theorem sj_while (n : En → Nat) {c : Expr} {body : List Stmt} {fc : En → Res Bool} {f : En → Fl} {pos : Pos} (hp : PassesOwn (model X.prog X.w) X.A X.env X.xe) (hc : TJ X Wx S c fc) (hb : BJ X Wx S body f) : SJ X Wx S (.While c body [] pos) (fun ρ => whD (n ρ) fc f ρ) := by
  obtain ⟨t, p, q⟩ := hc.ex
  obtain ⟨u, p2, q2⟩ := hb.ex
  refine ⟨_, ps_while hp p p2, fun B F0 F H σ ρ E st post => ?_⟩
  refine ⟨fun m σ' H' => ∃ F' ρ', St2 (fx X S B F0) F' H' σ' ρ' ∧ Same F F' ∧ SPost (fx X S B F0) Wx F' (whD m fc f ρ') E, ⟨n ρ, F, ρ, st, Same.refl _, post⟩, ?_⟩
  rintro m σ1 H1 ⟨F1, ρ1, st1, s1, post1⟩
  cases m with
  | zero => exact post1.elim
  | succ m =>
    refine q B F0 F1 H1 σ1 ρ1 _ st1 (fl_post post1 fun d ρ2 v F2 H2 post2 st2 s2 r => ?_)
    cases r
    cases d with
    | false => exact iteF (post2 σ1 F2 H2 st2 (Same.refl _))
    | true =>
      refine iteT ⟨fun σ' H' => ∃ F' ρ', St2 (fx X S B F0) F' H' σ' ρ' ∧ Same F F' ∧ SPost (fx X S B F0) Wx F' (whD m fc f ρ') E, fun σ' H' h => ⟨m, Nat.lt_succ_self _, h⟩, ?_⟩
      refine q2 B F0 F2 H2 σ1 ρ2 _ st2 ?_
      rw [if_pos rfl] at post2
      cases e : f ρ2 with
      | nx ρ3 =>
        rw [e] at post2
        exact fun σ3 F3 H3 st3 s3 => ⟨F3, ρ3, st3, (s1.trans s2).trans s3, SPost.mono post2 s3⟩
      | ct ρ3 =>
        rw [e] at post2
        exact fun σ3 F3 H3 st3 s3 => ⟨F3, ρ3, st3, (s1.trans s2).trans s3, SPost.mono post2 s3⟩
      | bk ρ3 =>
        rw [e] at post2
        exact post2
      | rt d =>
        rw [e] at post2
        exact post2
      | exc x ρ3 =>
        rw [e] at post2
        exact post2
      | bad =>
        rw [e] at post2
        exact post2.elim

/-! ### for -/
/-- the things that are walked: n of them, the i-th is ds[i] -/
structure IPost (Z : Fx) (σ : St) (F H : Hp) (ρ : En) (ds : List D) (R : It → Hp → Prop) : Prop where
  go : ∀ (J : It) (G : Hp → Prop) (Y : Nat → Hp → V → Hp → Prop) (F' H' : Hp), St2 Z F' H' σ ρ → Same F F' → Walk J ds.length G Y → (∀ H'', Same F' H'' → G H'') →
    (∀ i Fi Hi x Hi', i < ds.length → Same F' Fi → Same Fi Hi → Y i Hi x Hi' → ∃ Fj d, Ext Fi Hi Fj Hi' ∧ ds[i]? = some d ∧ Rep Z.K Fj x d) → R J H'
structure IJ (X : Cx) (Wx : WX) (S : Sx) (tg iter : Expr) (f : En → Res (List D)) : Prop where
  ex : ∃ wi, PI X tg iter wi ∧ ∀ B F0 F H σ ρ R, St2 (fx X S B F0) F H σ ρ →
    (match f ρ with
     | .ok ds ρ' => ∀ (J : It) (G : Hp → Prop) (Y : Nat → Hp → V → Hp → Prop) (F' H' : Hp), St2 (fx X S B F0) F' H' σ ρ' → Same F F' → Walk J ds.length G Y → (∀ H'', Same F' H'' → G H'') →
        (∀ i Fi Hi x Hi', i < ds.length → Same F' Fi → Same Fi Hi → Y i Hi x Hi' → ∃ Fj d, Ext Fi Hi Fj Hi' ∧ ds[i]? = some d ∧ Rep X.K Fj x d) → R J H'
     | .exc x ρ' => ∀ cls dd F' H', St2 (fx X S B F0) F' H' σ ρ' → Same F F' → RepX X.K F' cls dd x → Wx cls dd σ H'
     | .bad => False) → wi σ H R
def forD (g : D → En → Fl) (f : En → Fl) : List D → En → Fl
  | [], ρ => .nx ρ
  | d :: r, ρ => match (g d ρ).seq f with
    | .nx ρ2 => forD g f r ρ2
    | .ct ρ2 => forD g f r ρ2
    | .bk ρ2 => .nx ρ2
    | z => z
def sFor (fi : En → Res (List D)) (g : D → En → Fl) (f : En → Fl) : En → Fl := fun ρ => (fi ρ).fl fun ds ρ1 => forD g f ds ρ1
theorem sj_for {tg iter : Expr} {body : List Stmt} {fi : En → Res (List D)} {g : D → En → Fl} {f : En → Fl} {pos : Pos} (hp : PassesOwn (model X.prog X.w) X.A X.env X.xe) (hi : IJ X Wx S tg iter fi) (hg : GJ X Wx S tg g) (hcalm : Calm g) (hb : BJ X Wx S body f) (hc : X.calm = true := by rfl) (hs : ∀ x, foldedSetIterable iter X.env x = pure x := by intro _; rfl) :
    SJ X Wx S (.For tg iter body [] pos) (sFor fi g f) := by
  obtain ⟨wi, p, q⟩ := hi.ex
  obtain ⟨t, p2, q2⟩ := hg.ex
  obtain ⟨u, p3, q3⟩ := hb.ex
  refine ⟨_, ps_for hp hc p p2 p3 (hs := hs), fun B F0 F H σ ρ E st post => q B F0 F H σ ρ _ st ?_⟩
  unfold sFor at post
  cases ef : fi ρ with
  | bad => rw [ef] at post; exact post
  | exc x ρ1 => rw [ef] at post; exact fun cls dd F' H' st' s rx => post cls dd σ F' H' st' s rx
  | ok ds ρ1 =>
    rw [ef] at post
    intro J G Y F1 H1 st1 s1 w hG hY
    refine for_it w (fun i σ' H' => ∃ F' ρ', St2 (fx X S B F0) F' H' σ' ρ' ∧ Same F1 F' ∧ SPost (fx X S B F0) Wx F' (forD g f (ds.drop i) ρ') E) ⟨F1, ρ1, st1, Same.refl _, SPost.mono post s1⟩ (fun i σ' H' _ h => ?_) (fun i x σ' Hi Hi' hi h y => ?_) (fun σ' H' h => ?_)
    · obtain ⟨F', ρ', st', s', _⟩ := h
      exact hG H' (s'.trans st'.fz.fH)
    · obtain ⟨F', ρ', st', s', post'⟩ := h
      obtain ⟨Fj, d, ex, hd, rd⟩ := hY i F' Hi x Hi' hi s' st'.fz.fH y
      have hdrop : ds.drop i = d :: ds.drop (i + 1) := by
        obtain ⟨hl, he⟩ := List.getElem?_eq_some_iff.mp hd
        rw [List.drop_eq_getElem_cons hl, he]
      rw [hdrop] at post'
      have stj := st'.ext ex
      refine q2 B F0 Fj Hi' σ' ρ' x d _ stj rd ?_
      obtain ⟨ρ2, e | e⟩ := hcalm d ρ'
      · rw [e]
        intro σ2 F2 H2 st2 s2
        refine q3 B F0 F2 H2 σ2 ρ2 _ st2 ?_
        unfold forD at post'
        rw [e, Fl.seq_nx] at post'
        cases e3 : f ρ2 with
        | nx ρ3 =>
          rw [e3] at post'
          exact fun σ3 F3 H3 st3 s3 => ⟨F3, ρ3, st3, ((s'.trans ex.ff).trans s2).trans s3, SPost.mono post' ((ex.ff.trans s2).trans s3)⟩
        | ct ρ3 =>
          rw [e3] at post'
          exact fun σ3 F3 H3 st3 s3 => ⟨F3, ρ3, st3, ((s'.trans ex.ff).trans s2).trans s3, SPost.mono post' ((ex.ff.trans s2).trans s3)⟩
        | bk ρ3 =>
          rw [e3] at post'
          exact fun σ3 F3 H3 st3 s3 => post' σ3 F3 H3 st3 ((ex.ff.trans s2).trans s3)
        | rt d =>
          rw [e3] at post'
          exact post'
        | exc x ρ3 =>
          rw [e3] at post'
          exact fun cls dd σ3 F3 H3 st3 s3 => post' cls dd σ3 F3 H3 st3 ((ex.ff.trans s2).trans s3)
        | bad =>
          rw [e3] at post'
          exact post'.elim
      · unfold forD at post'
        rw [e] at post'
        exact post'.elim
    · obtain ⟨F', ρ', st', s', post'⟩ := h
      rw [List.drop_length] at post'
      exact post' σ' F' H' st' (Same.refl _)

/-! ### what is walked -/
theorem ext_refl_at {Z : Fx} {F H : Hp} (s : Same F H) : Ext F H F H := Ext.refl s
/-- range(n), range(a, b) -/
def dRange (lo : Int) (n : Nat) : List D := (List.range n).map fun i => D.int (lo + (i : Nat))
def okR (i : Int) : Bool := decide (i.natAbs < 2 ^ 62)
def iRange1 (f : En → Res (List D)) : En → Res (List D) := fun ρ => (f ρ).bind fun ds ρ1 => match ds with
  | [.int j] => if okR j = true then .ok (dRange 0 j.toNat) ρ1 else .bad
  | _ => .bad
def iRange2 (f : En → Res (List D)) : En → Res (List D) := fun ρ => (f ρ).bind fun ds ρ1 => match ds with
  | [.int i, .int j] => if (okR i && okR j) = true then .ok (dRange i (j - i).toNat) ρ1 else .bad
  | _ => .bad
theorem okR_ok {i : Int} (h : okR i = true) : -(2 ^ 62) ≤ i ∧ i < 2 ^ 62 := by
  unfold okR at h
  have := of_decide_eq_true h
  omega
theorem okR_nat {n : Nat} (h : n < 2 ^ 62) : okR (n : Int) = true := decide_eq_true (by simpa using h)
theorem repL_int1 {K : PySem.W.Frag} {F : Hp} {vs : List V} {j : Int} (r : RepL K F vs [.int j]) : vs = [.int j] := RepL.ints_inv (ns := [j]) r
theorem repL_int2 {K : PySem.W.Frag} {F : Hp} {vs : List V} {i j : Int} (r : RepL K F vs [.int i, .int j]) : vs = [.int i, .int j] := RepL.ints_inv (ns := [i, j]) r
theorem repL_int3 {K : PySem.W.Frag} {F : Hp} {vs : List V} {i j k : Int} (r : RepL K F vs [.int i, .int j, .int k]) : vs = [.int i, .int j, .int k] := RepL.ints_inv (ns := [i, j, k]) r
theorem dRange_len (lo : Int) (n : Nat) : (dRange lo n).length = n := by
  unfold dRange
  rw [List.length_map, List.length_range]
theorem dRange_get (lo : Int) (n i : Nat) (h : i < n) : (dRange lo n)[i]? = some (.int (lo + (i : Nat))) := by
  unfold dRange
  rw [List.getElem?_map, List.getElem?_range h]
  rfl
theorem ij_range1 {tg a : Expr} {f : En → Res (List D)} {p pos : Pos} (hm : X.mg "range" = none) (ha : AJ X Wx S [a] f) (hg : Gl X "range" := by rfl) (hs : starEach [a] X.env = [(false, eval a X.env)] := by rfl) : IJ X Wx S tg (.Call (.Name "range" p) [a] [] pos) (iRange1 f) := by
  obtain ⟨t, pa, qa⟩ := ha.ex
  refine ⟨_, pi_range1 hg hm pa hs, fun B F0 F H σ ρ R st post => qa B F0 F H σ ρ _ st ?_⟩
  unfold iRange1 at post
  cases ef : f ρ with
  | bad => rw [ef] at post; exact post
  | exc x ρ1 => rw [ef] at post; exact post
  | ok ds ρ1 =>
    rw [ef, Res.bind_ok] at post
    intro vs F1 H1 st1 s1 r1
    split at post
    · rename_i ds' ρ' e
      split at e
      · rename_i j
        split at e
        · rename_i hj
          cases e
          obtain rfl := repL_int1 r1
          obtain ⟨h1, h2⟩ := okR_ok hj
          refine ⟨j, rfl, h1, h2, ?_⟩
          refine post _ (fun _ => True) (YFn fun i => .int (0 + (i : Nat))) F1 H1 st1 s1 (by rw [dRange_len]; exact walk_range) (fun _ _ => trivial) (fun i Fi Hi x Hi' hi sF sH y => ?_)
          obtain ⟨rfl, rfl⟩ := y
          rw [dRange_len] at hi
          exact ⟨Fi, _, Ext.refl sH, dRange_get _ _ _ hi, .int _⟩
        · cases e
      · cases e
    · rename_i e
      split at e
      · split at e <;> cases e
      · cases e
    · exact post.elim
theorem ij_range2 {tg a b : Expr} {f : En → Res (List D)} {p pos : Pos} (hm : X.mg "range" = none) (ha : AJ X Wx S [a, b] f) (hg : Gl X "range" := by rfl) (hs : starEach [a, b] X.env = [(false, eval a X.env), (false, eval b X.env)] := by rfl) (hs2 : starEach [b] X.env = [(false, eval b X.env)] := by rfl) :
    IJ X Wx S tg (.Call (.Name "range" p) [a, b] [] pos) (iRange2 f) := by
  obtain ⟨t, pa, qa⟩ := ha.ex
  refine ⟨_, pi_range2 hg hm pa hs hs2, fun B F0 F H σ ρ R st post => qa B F0 F H σ ρ _ st ?_⟩
  unfold iRange2 at post
  cases ef : f ρ with
  | bad => rw [ef] at post; exact post
  | exc x ρ1 => rw [ef] at post; exact post
  | ok ds ρ1 =>
    rw [ef, Res.bind_ok] at post
    intro vs F1 H1 st1 s1 r1
    split at post
    · rename_i ds' ρ' e
      split at e
      · rename_i i j
        split at e
        · rename_i hj
          cases e
          rw [Bool.and_eq_true] at hj
          obtain rfl := repL_int2 r1
          obtain ⟨h1, h2⟩ := okR_ok hj.1
          obtain ⟨h3, h4⟩ := okR_ok hj.2
          refine ⟨i, j, rfl, ⟨h1, h2, h3, h4⟩, ?_⟩
          refine post _ (fun _ => True) (YFn fun k => .int (i + (k : Nat))) F1 H1 st1 s1 (by rw [dRange_len]; exact walk_range) (fun _ _ => trivial) (fun k Fi Hi x Hi' hi sF sH y => ?_)
          obtain ⟨rfl, rfl⟩ := y
          rw [dRange_len] at hi
          exact ⟨Fi, _, Ext.refl sH, dRange_get _ _ _ hi, .int _⟩
        · cases e
      · cases e
    · rename_i e
      split at e
      · split at e <;> cases e
      · cases e
    · exact post.elim
/-- a text's signs -/
def chars (x : Str) : List D := x.cps.toList.map fun c => D.str ⟨#[c]⟩
/-- a list, a tuple, a text: by what it is -/
def iSeq (f : En → Res D) : En → Res (List D) := fun ρ => (f ρ).bind fun d ρ1 => match d with
  | .lst xs => .ok xs ρ1
  | .tup xs => .ok xs ρ1
  | .str x => .ok (chars x) ρ1
  | _ => .bad
theorem pi_or {tg iter : Expr} {w1 w2 : TI} (h1 : PI X tg iter w1) (h2 : PI X tg iter w2) : PI X tg iter (fun σ H R => w1 σ H R ∨ w2 σ H R) :=
  ⟨fun pins s σ H R I h => h.elim (h1.run pins s σ H R I) (h2.run pins s σ H R I)⟩
theorem ij_seq {tg e : Expr} {f : En → Res D} (he : EJ X Wx S e f) : IJ X Wx S tg e (iSeq f) := by
  obtain ⟨t, pa, qa⟩ := he.ex
  refine ⟨_, pi_or (pi_list pa) (pi_or (pi_tup pa) (pi_str pa)), fun B F0 F H σ ρ R st post => ?_⟩
  unfold iSeq at post
  cases ef : f ρ with
  | bad => rw [ef] at post; exact post.elim
  | exc x ρ1 =>
    rw [ef] at post
    exact .inl (qa B F0 F H σ ρ _ st (by rw [ef]; exact post))
  | ok d ρ1 =>
    rw [ef, Res.bind_ok] at post
    cases d with
    | lst xs =>
      refine .inl (qa B F0 F H σ ρ _ st ?_)
      rw [ef]
      intro v F1 H1 st1 s1 r1
      cases r1 with
      | @lst a vs ds h1 h2 =>
        refine ⟨a, rfl, ⟨vs, Same.seq st1.fz.fH h1⟩, ?_⟩
        have hl := h2.length
        refine post _ (fun H => SqL X.K H a vs) (YAt vs) F1 H1 st1 s1 (by rw [← hl]; exact walk_list) (fun H'' s => Same.seq s h1) (fun i Fi Hi x Hi' hi sF sH y => ?_)
        obtain ⟨rfl, hx⟩ := y
        obtain ⟨d, hd, rd⟩ := h2.get' hx
        exact ⟨Fi, d, Ext.refl sH, hd, rd.mono sF⟩
    | tup xs =>
      refine .inr (.inl (qa B F0 F H σ ρ _ st ?_))
      rw [ef]
      intro v F1 H1 st1 s1 r1
      cases r1 with
      | @tup a vs ds h1 h2 =>
        refine ⟨a, rfl, ⟨vs, Same.seqT st1.fz.fH h1⟩, ?_⟩
        have hl := h2.length
        refine post _ (fun H => SqT X.K H a vs) (YAt vs) F1 H1 st1 s1 (by rw [← hl]; exact walk_tup) (fun H'' s => Same.seqT s h1) (fun i Fi Hi x Hi' hi sF sH y => ?_)
        obtain ⟨rfl, hx⟩ := y
        obtain ⟨d, hd, rd⟩ := h2.get' hx
        exact ⟨Fi, d, Ext.refl sH, hd, rd.mono sF⟩
    | str z =>
      refine .inr (.inr (qa B F0 F H σ ρ _ st ?_))
      rw [ef]
      intro v F1 H1 st1 s1 r1
      cases r1
      refine ⟨z, rfl, ?_⟩
      have hl : (chars z).length = z.cps.size := by simp [chars]
      refine post _ (fun _ => True) _ F1 H1 st1 s1 (by rw [hl]; exact walk_str) (fun _ _ => trivial) (fun i Fi Hi x Hi' hi sF sH y => ?_)
      obtain ⟨rfl, c, hc, rfl⟩ := y
      refine ⟨Fi, .str ⟨#[c]⟩, Ext.refl sH, ?_, .str _⟩
      have hc' : z.cps.toList[i]? = some c := by rw [Array.getElem?_toList]; exact hc
      simp [chars, List.getElem?_map, hc']
    | _ => exact post.elim
end
end PD
set_option Elab.async false
set_option linter.all false
set_option maxRecDepth 100000
set_option maxHeartbeats 4000000
/-! PD4: operators, comparisons, subscripts, slices, built-in functions. -/
namespace PD
open PySem PySem.Spec L2

section
variable {X : Cx} {Wx : WX} {S : Sx}

/-! ### arithmetic -/
def addI : D → D → Option D
  | .int i, .int j => some (.int (i + j))
  | _, _ => none
def addS : D → D → Option D
  | .str a, .str b => if a.length + b.length ≤ lim then some (.str (a ++ b)) else none
  | _, _ => none
def addL : D → D → Option D
  | .lst a, .lst b => if a.length + b.length ≤ lim then some (.lst (a ++ b)) else none
  | _, _ => none
def addT : D → D → Option D
  | .tup a, .tup b => if a.length + b.length ≤ lim then some (.tup (a ++ b)) else none
  | _, _ => none
def addB : D → D → Option D
  | .int i, .bl k => some (.int (i + PyProof.Rows.b2i k))
  | _, _ => none
def addD : D → D → Option D
  | .int i, .int j => some (.int (i + j))
  | .int i, .bl k => some (.int (i + PyProof.Rows.b2i k))
  | .str a, .str b => if a.length + b.length ≤ lim then some (.str (a ++ b)) else none
  | .lst a, .lst b => if a.length + b.length ≤ lim then some (.lst (a ++ b)) else none
  | .tup a, .tup b => if a.length + b.length ≤ lim then some (.tup (a ++ b)) else none
  | _, _ => none
theorem oj_addI : OpJ X (binaryOp .Add) addI := OpJ.pure op_add fun F H x y d e z Q s rx ry hz k => by
  cases rx <;> (try (cases hz; done))
  cases ry <;> (try (cases hz; done))
  cases hz
  exact ⟨_, _, rfl, rfl, k _ (.int _)⟩
theorem oj_addB : OpJ X (binaryOp .Add) addB := OpJ.pure op_add_ib fun F H x y d e z Q s rx ry hz k => by
  cases rx <;> (try (cases hz; done))
  cases ry <;> (try (cases hz; done))
  cases hz
  exact ⟨_, _, rfl, rfl, k _ (.int _)⟩
theorem oj_addS : OpJ X (binaryOp .Add) addS := OpJ.pure op_add_str fun F H x y d e z Q s rx ry hz k => by
  cases rx <;> (try (cases hz; done))
  cases ry <;> (try (cases hz; done))
  rename_i a b
  replace hz : (if a.length + b.length ≤ lim then some (D.str (a ++ b)) else none) = some z := hz
  split at hz
  · rename_i hl
    cases hz
    exact ⟨_, _, rfl, rfl, lim_le hl, k _ (.str _)⟩
  · cases hz
/-- xs + ys, any lists -/
def rCatL (K : PySem.W.Frag) : R2 := fun x y H Q => ∃ l b xs zs, x = .ref l ∧ y = .ref b ∧ SqL K H l xs ∧ SqL K H b zs ∧ xs.length + zs.length ≤ sizeLine ∧ ∀ p, H p = none → Q (.ref p) (upd H p (.lst (xs ++ zs)))
theorem op_catL : OpR X (binaryOp .Add) (rCatL X.K) := by
  intro pins s σ H x y v u Q I rx ry h
  obtain ⟨l, b, xs, zs, rfl, rfl, hH, hB, hz, q⟩ := h
  cases rx
  cases ry
  obtain ⟨its, r, ⟨⟨cls, dd, data, sl⟩, n, e, hc, hd0, hd⟩, _⟩ := I.list hH
  obtain ⟨its2, r2, ⟨⟨cls2, dd2, data2, sl2⟩, n2, e2, hc2, hd02, hd2⟩, _⟩ := I.list hB
  simp only at hc hd hc2 hd2
  subst hc hd hc2 hd2
  have h1 := r.length
  have h2 := r2.length
  refine PySem.concat_meets ⟨_, e, rfl⟩ ⟨_, e2, rfl⟩ PySem.noFill_list_add PySem.seq_list_add PySem.F.slot_list_add PySem.F.entry_list_add (PySem.F.args_list_add_2 _ _) (PyProof.Rows.list_addW l b its.toArray its2.toArray n n2 dd dd2 sl sl2 (by rw [List.size_toArray, List.size_toArray]; omega)) ⟨e, e2, ?_⟩
  have ea : its.toArray ++ its2.toArray = (its ++ its2).toArray := by simp
  rw [ea]
  exact ⟨.ref _, _, I.lnew (t' := s.toks) (r.append r2) (by rw [List.length_append]; omega), rfl, q _ I.fresh⟩
theorem oj_addL : OpJ X (binaryOp .Add) addL := by
  refine ⟨_, op_catL, fun F H x y d e z Q s rx ry hz k => ?_⟩
  cases rx <;> (try (cases hz; done))
  cases ry <;> (try (cases hz; done))
  rename_i a vs ds h1 h2 b ws es h3 h4
  replace hz : (if ds.length + es.length ≤ lim then some (D.lst (ds ++ es)) else none) = some z := hz
  split at hz
  · rename_i hl
    cases hz
    refine ⟨_, _, _, _, rfl, rfl, Same.seqL s h1, Same.seqL s h3, lim_le (by rw [h2.length, h4.length]; exact hl), fun p hp => ?_⟩
    have ex := Ext.laid (o := .lst (vs ++ ws)) s hp
    exact k _ _ _ ex (.lst (.inl (.inl upd_same)) ((h2.append h4).mono ex.ff))
  · cases hz
theorem oj_addT : OpJ X (binaryOp .Add) addT := by
  refine ⟨_, op_catA, fun F H x y d e z Q s rx ry hz k => ?_⟩
  cases rx <;> (try (cases hz; done))
  cases ry <;> (try (cases hz; done))
  rename_i a vs ds h1 h2 b ws es h3 h4
  replace hz : (if ds.length + es.length ≤ lim then some (D.tup (ds ++ es)) else none) = some z := hz
  split at hz
  · rename_i hl
    cases hz
    refine ⟨_, _, _, _, rfl, rfl, Same.seqT s h1, Same.seqT s h3, lim_le (by rw [h2.length, h4.length]; exact hl), fun z => ?_, fun _ z => ?_, fun _ _ p hp => ?_⟩
    · subst z
      cases h2
      exact k _ F H (Ext.refl s) (.tup h3 h4)
    · subst z
      cases h4
      rw [List.append_nil] at k
      exact k _ F H (Ext.refl s) (.tup h1 h2)
    · have ex := Ext.laid (o := .tup (vs ++ ws)) s hp
      exact k _ _ _ ex (.tup (.inl (.inl upd_same)) ((h2.append h4).mono ex.ff))
  · cases hz
theorem oj_add : OpJ X (binaryOp .Add) addD := by
  have o1 := OpJ.or (X := X) oj_addI (OpJ.or oj_addB (OpJ.or oj_addS (OpJ.or oj_addL oj_addT)))
  refine o1.imp fun d e z h => ?_
  cases d <;> cases e <;> first | (cases h; done) | exact h | (simp only [addD] at h; simp only [addI, addB, addS, addL, addT]; split at h <;> simp_all)

def subI : D → D → Option D
  | .int i, .int j => some (.int (i - j))
  | _, _ => none
theorem oj_sub : OpJ X (binaryOp .Sub) subI := OpJ.pure op_sub fun F H x y d e z Q s rx ry hz k => by
  cases rx <;> (try (cases hz; done))
  cases ry <;> (try (cases hz; done))
  cases hz
  exact ⟨_, _, rfl, rfl, k _ (.int _)⟩
def okM (i j : Int) : Bool := decide (i.natAbs < 2 ^ 64) || decide (j.natAbs < 2 ^ 64)
def mulI : D → D → Option D
  | .int i, .int j => if okM i j = true then some (.int (i * j)) else none
  | _, _ => none
theorem okM_ok {i j : Int} (h : okM i j = true) : CMul i j := by
  unfold okM at h
  rcases Bool.or_eq_true_iff.mp h with z | z
  · have z := of_decide_eq_true z
    exact .inl ⟨by omega, by omega⟩
  · have z := of_decide_eq_true z
    exact .inr ⟨by omega, by omega⟩
theorem oj_mulI : OpJ X (binaryOp .Mult) mulI := OpJ.pure op_mul fun F H x y d e z Q s rx ry hz k => by
  cases rx <;> (try (cases hz; done))
  cases ry <;> (try (cases hz; done))
  rename_i i j
  replace hz : (if okM i j = true then some (D.int (i * j)) else none) = some z := hz
  split at hz
  · rename_i hl
    cases hz
    exact ⟨_, _, rfl, rfl, okM_ok hl, k _ (.int _)⟩
  · cases hz
def fdivI : D → D → Option D
  | .int i, .int j => if (decide (0 < j) && decide (j.natAbs < 2 ^ 64)) = true then some (.int (i / j)) else none
  | _, _ => none
theorem oj_fdiv : OpJ X (binaryOp .FloorDiv) fdivI := OpJ.pure op_fdivW fun F H x y d e z Q s rx ry hz k => by
  cases rx <;> (try (cases hz; done))
  cases ry <;> (try (cases hz; done))
  rename_i i j
  replace hz : (if (decide (0 < j) && decide (j.natAbs < 2 ^ 64)) = true then some (D.int (i / j)) else none) = some z := hz
  split at hz
  · rename_i hl
    rw [Bool.and_eq_true] at hl
    have h1 := of_decide_eq_true hl.1
    have h2 := of_decide_eq_true hl.2
    cases hz
    refine ⟨_, _, rfl, rfl, wide_div (b := 64) h1 ?_ (by decide) (by decide), k _ (.int _)⟩
    have : j.natAbs < 2 ^ 64 := by omega
    exact this
  · cases hz
def modI : D → D → Option D
  | .int i, .int j => if 0 < j then some (.int (i % j)) else none
  | _, _ => none
theorem oj_mod : OpJ X (binaryOp .Mod) modI := OpJ.pure op_mod fun F H x y d e z Q s rx ry hz k => by
  cases rx <;> (try (cases hz; done))
  cases ry <;> (try (cases hz; done))
  rename_i i j
  replace hz : (if 0 < j then some (D.int (i % j)) else none) = some z := hz
  split at hz
  · rename_i hl
    cases hz
    exact ⟨_, _, rfl, rfl, hl, k _ (.int _)⟩
  · cases hz
def powI : D → D → Option D
  | .int i, .int j => if (decide (0 ≤ j) && decide (j ≤ 1000) && decide (i.natAbs < 2 ^ 64)) = true then some (.int (i ^ j.toNat)) else none
  | _, _ => none
theorem oj_pow : OpJ X (binaryOp .Pow) powI := OpJ.pure op_pow fun F H x y d e z Q s rx ry hz k => by
  cases rx <;> (try (cases hz; done))
  cases ry <;> (try (cases hz; done))
  rename_i i j
  replace hz : (if (decide (0 ≤ j) && decide (j ≤ 1000) && decide (i.natAbs < 2 ^ 64)) = true then some (D.int (i ^ j.toNat)) else none) = some z := hz
  split at hz
  · rename_i hl
    rw [Bool.and_eq_true, Bool.and_eq_true] at hl
    have h2 := of_decide_eq_true hl.1.2
    cases hz
    exact ⟨_, _, rfl, rfl, ⟨of_decide_eq_true hl.1.1, by omega, of_decide_eq_true hl.2⟩, k _ (.int _)⟩
  · cases hz
/-- text * int -/
theorem ediv_anti {a b c : Int} (ha : 0 ≤ a) (hb : 0 < b) (hc : b ≤ c) : a / c ≤ a / b := by
  have h1 : 0 ≤ a / c := Int.ediv_nonneg ha (by omega)
  rw [Int.le_ediv_iff_mul_le hb]
  have h2 : a / c * b ≤ a / c * c := Int.mul_le_mul_of_nonneg_left hc h1
  have h3 : a / c * c ≤ a := Int.ediv_mul_le a (by omega)
  omega
def mulS : D → D → Option D
  | .str x, .int n => if (decide (0 ≤ n) && decide (n ≤ 100000) && decide (x.length * n.toNat ≤ lim)) = true then some (.str (Txt.mul x n)) else none
  | _, _ => none
theorem op_mulS : OpR X (binaryOp .Mult) (fun x y H Q => ∃ z n, x = .str z ∧ y = .int n ∧ MulOk z n ∧ Q (.str (Txt.mul z n)) H) := by
  intro pins s σ H x y v u Q I rx ry h
  obtain ⟨z, n, rfl, rfl, ok, q⟩ := h
  obtain ⟨t, rfl⟩ := rx
  obtain ⟨t', rfl⟩ := ry
  exact SB.mul ok fun t2 k => ⟨.str _, H, I.tok _, ⟨_, rfl⟩, q⟩
theorem oj_mulS : OpJ X (binaryOp .Mult) mulS := OpJ.pure op_mulS fun F H x y d e z Q s rx ry hz k => by
  cases rx <;> (try (cases hz; done))
  cases ry <;> (try (cases hz; done))
  rename_i x n
  replace hz : (if (decide (0 ≤ n) && decide (n ≤ 100000) && decide (x.length * n.toNat ≤ lim)) = true then some (D.str (Txt.mul x n)) else none) = some z := hz
  split at hz
  · rename_i hl
    rw [Bool.and_eq_true, Bool.and_eq_true] at hl
    have h1 := of_decide_eq_true hl.1.1
    have h2 := of_decide_eq_true hl.1.2
    have h3 : x.length * n.toNat ≤ 1000000 := of_decide_eq_true hl.2
    cases hz
    refine ⟨_, _, rfl, rfl, ⟨?_, fun h4 h5 => ?_, fun h4 h5 => ?_⟩, k _ (.str _)⟩
    · simp only [Bool.or_eq_false_iff, decide_eq_false_iff_not]
      omega
    · have h6 : 0 < x.length := by
        rw [Bool.or_eq_false_iff] at h5
        have := h5.2
        simp at this
        omega
      have h7 : x.length ≤ 1000000 := by
        have : x.length * 1 ≤ x.length * n.toNat := Nat.mul_le_mul_left _ (by omega)
        omega
      have h8 : (2 ^ 63 - 1) / 100000 ≤ (2 ^ 63 - 1) / n := ediv_anti (by decide) (by omega) h2
      omega
    · show decide (x.length * n.toNat > sizeLine) = false
      rw [sizeLine_eq]
      exact decide_eq_false (by omega)
  · cases hz
end
end PD
set_option Elab.async false
set_option linter.all false
set_option maxRecDepth 100000
set_option maxHeartbeats 4000000
/-! PD5: comparisons, subscripts, slices, built-in functions. -/
namespace PD
open PySem PySem.Spec L2

section
variable {X : Cx} {Wx : WX} {S : Sx}

/-! ### comparisons -/
def mulD : D → D → Option D
  | .int i, .int j => if okM i j = true then some (.int (i * j)) else none
  | .str x, .int n => if (decide (0 ≤ n) && decide (n ≤ 100000) && decide (x.length * n.toNat ≤ lim)) = true then some (.str (Txt.mul x n)) else none
  | _, _ => none
theorem oj_mul : OpJ X (binaryOp .Mult) mulD := (OpJ.or oj_mulI oj_mulS).imp fun d e z h => by
  cases d <;> cases e <;> first | (cases h; done) | exact h | (simp only [mulD] at h; simp only [mulI, mulS]; split at h <;> simp_all)
def cmpI (p : Int → Int → Bool) : D → D → Option D
  | .int i, .int j => some (.bl (p i j))
  | _, _ => none
theorem oj_cmpI {f : Value → Value → Sem Value} {p : Int → Int → Bool} (ho : OpR X f (rI0 fun i j => .bl (p i j))) : OpJ X f (cmpI p) := OpJ.pure ho fun F H x y d e z Q s rx ry hz k => by
  cases rx <;> (try (cases hz; done))
  cases ry <;> (try (cases hz; done))
  cases hz
  exact ⟨_, _, rfl, rfl, k _ (.bl _)⟩
abbrev ltD : D → D → Option D := cmpI fun i j => decide (i < j)
abbrev leD : D → D → Option D := cmpI fun i j => decide (i ≤ j)
abbrev gtD : D → D → Option D := cmpI fun i j => decide (j < i)
abbrev geD : D → D → Option D := cmpI fun i j => decide (j ≤ i)
theorem oj_lt : OpJ X (compareOp .Lt) ltD := oj_cmpI op_lt
theorem oj_le : OpJ X (compareOp .LtE) leD := oj_cmpI op_le
theorem oj_gt : OpJ X (compareOp .Gt) gtD := oj_cmpI op_gt
theorem oj_ge : OpJ X (compareOp .GtE) geD := oj_cmpI op_ge
/-- is None -/
def D.isNon : D → Bool
  | .non => true
  | _ => false
def isNonD : D → D → Option D
  | d, .non => some (.bl d.isNon)
  | _, _ => none
def isNotNonD : D → D → Option D
  | d, .non => some (.bl (!d.isNon))
  | _, _ => none
theorem rep_non {K : PySem.W.Frag} {F : Hp} {v : V} {d : D} (r : Rep K F v d) : decide (v = .non) = d.isNon := by
  cases r <;> simp [D.isNon]
theorem oj_isN : OpJ X (compareOp .Is) isNonD := OpJ.pure op_isN fun F H x y d e z Q s rx ry hz k => by
  cases ry <;> (try (cases hz; done))
  cases hz
  refine ⟨rfl, ?_⟩
  rw [rep_non rx]
  exact k _ (.bl _)
theorem oj_notN : OpJ X (compareOp .IsNot) isNotNonD := OpJ.pure op_notN fun F H x y d e z Q s rx ry hz k => by
  cases ry <;> (try (cases hz; done))
  cases hz
  refine ⟨rfl, ?_⟩
  rw [rep_non rx]
  exact k _ (.bl _)
/-! ### == -/
mutual
def D.py : D → Option PyData
  | .non => some .none
  | .bl b => some (.bool b)
  | .int i => some (.int i)
  | .str x => some (.str x)
  | .lst xs => (D.pyL xs).map PyData.list
  | .tup xs => (D.pyL xs).map PyData.tuple
  | .ty _ => none
  | .ins _ _ => none
  | .dic _ => none
  | .dit _ => none
def D.pyL : List D → Option (List PyData)
  | [] => some []
  | d :: r => (D.py d).bind fun a => (D.pyL r).map fun b => a :: b
end
mutual
theorem dp_of {K : PySem.W.Frag} {F H : Hp} (s : Same F H) : ∀ {v : V} {d : D} {p : PyData}, Rep K F v d → D.py d = some p → Dp K H v p
  | _, _, _, .non, h => by
    rw [D.py] at h
    cases h
    exact .non
  | _, _, _, .bl b, h => by
    rw [D.py] at h
    cases h
    exact .bl b
  | _, _, _, .int b, h => by
    rw [D.py] at h
    cases h
    exact .int b
  | _, _, _, .str b, h => by
    rw [D.py] at h
    cases h
    exact .str b
  | _, _, _, .ty b, h => by
    rw [D.py] at h
    cases h
  | _, _, _, .lst (ds := ds) h1 h2, h => by
    rw [D.py] at h
    cases e : D.pyL ds with
    | none => rw [e] at h; cases h
    | some ps =>
      rw [e] at h
      cases h
      exact .lst (Same.seq s h1) (dpAll_of s h2 e)
  | _, _, _, .tup (ds := ds) h1 h2, h => by
    rw [D.py] at h
    cases e : D.pyL ds with
    | none => rw [e] at h; cases h
    | some ps =>
      rw [e] at h
      cases h
      exact .tup (Same.seqT s h1) (dpAll_of s h2 e)
  | _, _, _, .ins _ _ _, h => by
    rw [D.py] at h
    cases h
  | _, _, _, .dic _ _, h => by
    rw [D.py] at h
    cases h
  | _, _, _, .dit _ _, h => by
    rw [D.py] at h
    cases h
theorem dpAll_of {K : PySem.W.Frag} {F H : Hp} (s : Same F H) : ∀ {v : List V} {d : List D} {p : List PyData}, RepL K F v d → D.pyL d = some p → DpAll K H v p
  | _, _, _, .nil, h => by
    rw [D.pyL] at h
    cases h
    exact .nil
  | _, _, _, .cons (d := d) (ds := ds) h1 h2, h => by
    rw [D.pyL] at h
    cases e : D.py d with
    | none => rw [e] at h; cases h
    | some a =>
      rw [e, Option.bind_some] at h
      cases e2 : D.pyL ds with
      | none => rw [e2] at h; cases h
      | some b =>
        rw [e2] at h
        cases h
        exact .cons (dp_of s h1 e) (dpAll_of s h2 e2)
end
/-- == of any data -/
def eqG (d e : D) : Option Bool := (D.py d).bind fun a => (D.py e).bind fun b => if min a.depth b.depth ≤ 64 then some (PyData.eqv a b) else none
def eqB : D → D → Option Bool
  | .int i, .int j => some (decide (i = j))
  | .str i, .str j => some (decide (i = j))
  | .bl i, .bl j => some (decide (i = j))
  | d, e => eqG d e
def eqD (d e : D) : Option D := (eqB d e).map D.bl
def neD (d e : D) : Option D := (eqB d e).map fun b => .bl (!b)
def eqF (n : Bool) : D → D → Option D
  | .int i, .int j => some (.bl (n != decide (i = j)))
  | .str i, .str j => some (.bl (n != decide (i = j)))
  | .bl i, .bl j => some (.bl (n != decide (i = j)))
  | _, _ => none
theorem oj_eqF : OpJ X (compareOp .Eq) (eqF false) := OpJ.pure op_eq fun F H x y d e z Q s rx ry hz k => by
  cases rx <;> (try (cases hz; done)) <;> cases ry <;> (try (cases hz; done)) <;> cases hz <;> refine ⟨rfl, ?_⟩
  · rename_i i j
    have e : (decide (V.bl i = V.bl j)) = (false != decide (i = j)) := by simp
    rw [e]
    exact k _ (.bl _)
  · rename_i i j
    have e : (decide (V.int i = V.int j)) = (false != decide (i = j)) := by simp
    rw [e]
    exact k _ (.bl _)
  · rename_i i j
    have e : (decide (V.str i = V.str j)) = (false != decide (i = j)) := by simp
    rw [e]
    exact k _ (.bl _)
theorem oj_neF : OpJ X (compareOp .NotEq) (eqF true) := OpJ.pure op_ne fun F H x y d e z Q s rx ry hz k => by
  cases rx <;> (try (cases hz; done)) <;> cases ry <;> (try (cases hz; done)) <;> cases hz <;> refine ⟨rfl, ?_⟩
  · rename_i i j
    have e : (!decide (V.bl i = V.bl j)) = (true != decide (i = j)) := by simp
    rw [e]
    exact k _ (.bl _)
  · rename_i i j
    have e : (!decide (V.int i = V.int j)) = (true != decide (i = j)) := by simp
    rw [e]
    exact k _ (.bl _)
  · rename_i i j
    have e : (!decide (V.str i = V.str j)) = (true != decide (i = j)) := by simp
    rw [e]
    exact k _ (.bl _)
mutual
theorem py_plain : ∀ {d : D} {a : PyData}, D.py d = some a → a.plain = true
  | .non, a, h => by rw [D.py] at h; cases h; rfl
  | .bl _, a, h => by rw [D.py] at h; cases h; rfl
  | .int _, a, h => by rw [D.py] at h; cases h; rfl
  | .str _, a, h => by rw [D.py] at h; cases h; rfl
  | .lst xs, a, h => by
    rw [D.py] at h
    cases e : D.pyL xs with
    | none => rw [e] at h; cases h
    | some ps =>
      rw [e] at h
      cases h
      simp only [PyData.plain]
      exact pyL_plain e
  | .tup xs, a, h => by
    rw [D.py] at h
    cases e : D.pyL xs with
    | none => rw [e] at h; cases h
    | some ps =>
      rw [e] at h
      cases h
      simp only [PyData.plain]
      exact pyL_plain e
  | .ty _, a, h => by rw [D.py] at h; cases h
  | .ins _ _, a, h => by rw [D.py] at h; cases h
  | .dic _, a, h => by rw [D.py] at h; cases h
  | .dit _, a, h => by rw [D.py] at h; cases h
theorem pyL_plain : ∀ {d : List D} {a : List PyData}, D.pyL d = some a → PyData.plainAll a = true
  | [], a, h => by rw [D.pyL] at h; cases h; rfl
  | d :: r, a, h => by
    rw [D.pyL] at h
    cases e : D.py d with
    | none => rw [e] at h; cases h
    | some b =>
      rw [e, Option.bind_some] at h
      cases e2 : D.pyL r with
      | none => rw [e2] at h; cases h
      | some c =>
        rw [e2] at h
        cases h
        simp only [PyData.plainAll, py_plain e, pyL_plain e2, Bool.and_self]
end
theorem eqG_some {d e : D} {b : Bool} (h : eqG d e = some b) : ∃ a c, D.py d = some a ∧ D.py e = some c ∧ min a.depth c.depth ≤ 64 ∧ PyData.eqv a c = b := by
  unfold eqG at h
  cases e1 : D.py d with
  | none => rw [e1] at h; cases h
  | some a =>
    rw [e1, Option.bind_some] at h
    cases e2 : D.py e with
    | none => rw [e2] at h; cases h
    | some c =>
      rw [e2, Option.bind_some] at h
      split at h
      · rename_i hs
        cases h
        exact ⟨a, c, rfl, rfl, hs, rfl⟩
      · cases h
def rEqP (K : PySem.W.Frag) (n : Bool) : R2 := fun x y H Q => ∃ d e, Dp K H x d ∧ Dp K H y e ∧ d.plain = true ∧ e.plain = true ∧ min d.depth e.depth ≤ 64 ∧ Q (.bl (n != PyData.eqv d e)) H
theorem op_eqP (hu : X.A.units + 64 < cLine) : OpR X (compareOp .Eq) (rEqP X.K false) := by
  intro pins s σ H x y v u Q I rx ry h
  obtain ⟨d, e, hd, he, sd, se, hm, q⟩ := h
  obtain ⟨as, r1⟩ := Dp.reads I d x v hd rx
  obtain ⟨bs, r2⟩ := Dp.reads I e y u he ry
  exact SeqAt.eq_plain r1 r2 sd se (by omega) ⟨_, H, I, by simp [RelV], q⟩
theorem op_neP (hu : X.A.units + 64 < cLine) : OpR X (compareOp .NotEq) (rEqP X.K true) := by
  intro pins s σ H x y v u Q I rx ry h
  obtain ⟨d, e, hd, he, sd, se, hm, q⟩ := h
  obtain ⟨as, r1⟩ := Dp.reads I d x v hd rx
  obtain ⟨bs, r2⟩ := Dp.reads I e y u he ry
  exact SeqAt.ne_plain r1 r2 sd se (by omega) ⟨_, H, I, by simp [RelV], q⟩
theorem oj_eqG (hu : X.A.units + 64 < cLine) : OpJ X (compareOp .Eq) (fun d e => (eqG d e).map D.bl) := OpJ.pure (op_eqP hu) fun F H x y d e z Q s rx ry hz k => by
  cases h : eqG d e with
  | none => rw [h] at hz; cases hz
  | some b =>
    rw [h] at hz
    cases hz
    obtain ⟨a, c, h1, h2, h3, rfl⟩ := eqG_some h
    refine ⟨a, c, dp_of s rx h1, dp_of s ry h2, py_plain h1, py_plain h2, h3, k _ ?_⟩
    simp only [Bool.false_bne]
    exact .bl _
theorem oj_neG (hu : X.A.units + 64 < cLine) : OpJ X (compareOp .NotEq) (fun d e => (eqG d e).map fun b => D.bl (!b)) := OpJ.pure (op_neP hu) fun F H x y d e z Q s rx ry hz k => by
  cases h : eqG d e with
  | none => rw [h] at hz; cases hz
  | some b =>
    rw [h] at hz
    cases hz
    obtain ⟨a, c, h1, h2, h3, rfl⟩ := eqG_some h
    refine ⟨a, c, dp_of s rx h1, dp_of s ry h2, py_plain h1, py_plain h2, h3, k _ ?_⟩
    simp only [Bool.true_bne]
    exact .bl _
theorem oj_eq (hu : X.A.units + 64 < cLine) : OpJ X (compareOp .Eq) eqD := (OpJ.or oj_eqF (oj_eqG hu)).imp fun d e z h => by
  unfold eqD at h
  unfold eqB at h
  split at h
  · cases h; simp [eqF]
  · cases h; simp [eqF]
  · cases h; simp [eqF]
  · rename_i h1 h2 h3
    have e0 : eqF false d e = none := by
      unfold eqF
      split
      · exact absurd rfl (h1 _ _ rfl)
      · exact absurd rfl (h2 _ _ rfl)
      · exact absurd rfl (h3 _ _ rfl)
      · rfl
    rw [e0]
    exact h
theorem oj_ne (hu : X.A.units + 64 < cLine) : OpJ X (compareOp .NotEq) neD := (OpJ.or oj_neF (oj_neG hu)).imp fun d e z h => by
  unfold neD at h
  unfold eqB at h
  split at h
  · cases h; simp [eqF]
  · cases h; simp [eqF]
  · cases h; simp [eqF]
  · rename_i h1 h2 h3
    have e0 : eqF true d e = none := by
      unfold eqF
      split
      · exact absurd rfl (h1 _ _ rfl)
      · exact absurd rfl (h2 _ _ rfl)
      · exact absurd rfl (h3 _ _ rfl)
      · rfl
    rw [e0]
    exact h
/-! ### in -/
def flatD : D → Bool
  | .non => true
  | .bl _ => true
  | .int _ => true
  | .str _ => true
  | _ => false
def eqFl : D → D → Bool
  | .non, .non => true
  | .bl a, .bl b => a == b
  | .bl a, .int b => (if a then 1 else 0) == b
  | .int a, .bl b => a == (if b then 1 else 0)
  | .int a, .int b => a == b
  | .str a, .str b => a == b
  | _, _ => false
def seqOf : D → Option (List D)
  | .lst xs => some xs
  | .tup xs => some xs
  | _ => none
def inSeq (n : Bool) (d e : D) : Option D := (seqOf e).bind fun xs => if (flatD d && xs.all flatD) = true then some (.bl (n != xs.any fun z => eqFl z d)) else none
def inStr (n : Bool) : D → D → Option D
  | .str c, .str z => if c.cps.size = 1 then some (.bl (n != decide (c.cps.getD 0 0 ∈ z.cps.toList))) else none
  | _, _ => none
theorem flat_rep {K : PySem.W.Frag} {F : Hp} {v : V} {d : D} (r : Rep K F v d) (h : flatD d = true) : flatV v = true := by
  cases r <;> first | rfl | (cases h)
theorem flat_repL {K : PySem.W.Frag} {F : Hp} : ∀ {vs : List V} {ds : List D}, RepL K F vs ds → ds.all flatD = true → vs.all flatV = true
  | _, _, .nil, _ => rfl
  | _, _, .cons h r, e => by
    rw [List.all_cons, Bool.and_eq_true] at e ⊢
    exact ⟨flat_rep h e.1, flat_repL r e.2⟩
theorem eqFl_rep {K : PySem.W.Frag} {F : Hp} {v w : V} {d e : D} (r : Rep K F v d) (q : Rep K F w e) : flatD d = true → flatD e = true → eqV v w = eqFl d e := by
  cases r <;> intro h <;> (try (cases h; done)) <;> cases q <;> intro h2 <;> (try (cases h2; done)) <;> rfl
theorem any_rep {K : PySem.W.Frag} {F : Hp} {v : V} {d : D} (r : Rep K F v d) (h : flatD d = true) : ∀ {vs : List V} {ds : List D}, RepL K F vs ds → ds.all flatD = true → inV v vs = ds.any fun z => eqFl z d
  | _, _, .nil, _ => rfl
  | _, _, .cons h1 r1, e => by
    rw [List.all_cons, Bool.and_eq_true] at e
    unfold inV
    rw [List.any_cons, List.any_cons, eqFl_rep h1 r e.1 h]
    have := any_rep r h r1 e.2
    unfold inV at this
    rw [this]
theorem oj_inSeq : OpJ X (compareOp .In) (inSeq false) := OpJ.pure op_in_seq fun F H x y d e z Q s rx ry hz k => by
  cases ry <;> (try (cases hz; done))
  all_goals
    rename_i a vs ds h1 h2
    replace hz : (if (flatD d && ds.all flatD) = true then some (D.bl (false != ds.any fun z => eqFl z d)) else none) = some z := hz
    split at hz
    · rename_i hf
      rw [Bool.and_eq_true] at hf
      cases hz
      have e1 := any_rep rx hf.1 h2 hf.2
      refine ⟨a, vs, rfl, ?_, flat_rep rx hf.1, flat_repL h2 hf.2, ?_⟩
      · first
          | exact .inl (Same.seq s h1)
          | exact .inr (Same.seqT s h1)
      · rw [if_neg Bool.false_ne_true, e1]
        have e2 : (false != ds.any fun z => eqFl z d) = ds.any fun z => eqFl z d := by cases ds.any fun z => eqFl z d <;> rfl
        rw [e2] at k
        exact k _ (.bl _)
    · cases hz
theorem oj_ninSeq : OpJ X (compareOp .NotIn) (inSeq true) := OpJ.pure op_notIn_seq fun F H x y d e z Q s rx ry hz k => by
  cases ry <;> (try (cases hz; done))
  all_goals
    rename_i a vs ds h1 h2
    replace hz : (if (flatD d && ds.all flatD) = true then some (D.bl (true != ds.any fun z => eqFl z d)) else none) = some z := hz
    split at hz
    · rename_i hf
      rw [Bool.and_eq_true] at hf
      cases hz
      have e1 := any_rep rx hf.1 h2 hf.2
      refine ⟨a, vs, rfl, ?_, flat_rep rx hf.1, flat_repL h2 hf.2, ?_⟩
      · first
          | exact .inl (Same.seq s h1)
          | exact .inr (Same.seqT s h1)
      · rw [if_pos rfl, e1]
        have e2 : (true != ds.any fun z => eqFl z d) = !ds.any fun z => eqFl z d := by cases ds.any fun z => eqFl z d <;> rfl
        rw [e2] at k
        exact k _ (.bl _)
    · cases hz
theorem one_sign {c : Str} (h : c.cps.size = 1) : c = ⟨#[c.cps.getD 0 0]⟩ := by
  obtain ⟨a⟩ := c
  have h' : a.size = 1 := h
  show Str.mk a = ⟨#[a.getD 0 0]⟩
  congr 1
  apply Array.ext
  · simp [h']
  · intro i h1 h2
    have : i = 0 := by omega
    subst this
    simp [Array.getD, h1]
theorem oj_inStr : OpJ X (compareOp .In) (inStr false) := OpJ.pure op_in_sign fun F H x y d e z Q s rx ry hz k => by
  cases rx <;> (try (cases hz; done))
  cases ry <;> (try (cases hz; done))
  rename_i c w
  replace hz : (if c.cps.size = 1 then some (D.bl (false != decide (c.cps.getD 0 0 ∈ w.cps.toList))) else none) = some z := hz
  split at hz
  · rename_i hl
    cases hz
    refine ⟨_, _, congrArg V.str (one_sign hl), rfl, ?_⟩
    have e2 : (false != decide (c.cps.getD 0 0 ∈ w.cps.toList)) = decide (c.cps.getD 0 0 ∈ w.cps.toList) := by cases decide (c.cps.getD 0 0 ∈ w.cps.toList) <;> rfl
    rw [e2] at k
    exact k _ (.bl _)
  · cases hz
theorem oj_ninStr : OpJ X (compareOp .NotIn) (inStr true) := OpJ.pure op_notIn_sign fun F H x y d e z Q s rx ry hz k => by
  cases rx <;> (try (cases hz; done))
  cases ry <;> (try (cases hz; done))
  rename_i c w
  replace hz : (if c.cps.size = 1 then some (D.bl (true != decide (c.cps.getD 0 0 ∈ w.cps.toList))) else none) = some z := hz
  split at hz
  · rename_i hl
    cases hz
    refine ⟨_, _, congrArg V.str (one_sign hl), rfl, ?_⟩
    have e2 : (true != decide (c.cps.getD 0 0 ∈ w.cps.toList)) = !decide (c.cps.getD 0 0 ∈ w.cps.toList) := by cases decide (c.cps.getD 0 0 ∈ w.cps.toList) <;> rfl
    rw [e2] at k
    exact k _ (.bl _)
  · cases hz
def inD : D → D → Option D
  | .str c, .str z => inStr false (.str c) (.str z)
  | d, e => inSeq false d e
def ninD : D → D → Option D
  | .str c, .str z => inStr true (.str c) (.str z)
  | d, e => inSeq true d e
theorem oj_in : OpJ X (compareOp .In) inD := (OpJ.or oj_inStr oj_inSeq).imp fun d e z h => by
  unfold inD at h
  split at h
  · rw [h]; rfl
  · rename_i h1
    have e0 : inStr false d e = none := by
      unfold inStr
      split
      · exact absurd rfl (h1 _ _ rfl)
      · rfl
    rw [e0]
    exact h
theorem oj_nin : OpJ X (compareOp .NotIn) ninD := (OpJ.or oj_ninStr oj_ninSeq).imp fun d e z h => by
  unfold ninD at h
  split at h
  · rw [h]; rfl
  · rename_i h1
    have e0 : inStr true d e = none := by
      unfold inStr
      split
      · exact absurd rfl (h1 _ _ rfl)
      · rfl
    rw [e0]
    exact h
end
end PD
set_option Elab.async false
set_option linter.all false
set_option maxRecDepth 100000
set_option maxHeartbeats 4000000
/-! PD6: comprehensions; calls of defs; what a def is worth. -/
namespace PD
open PySem PySem.Spec L2

/-! ### comprehensions -/
def wipeE (ρ : En) : List Nat → En
  | [] => ρ
  | v :: vs => (wipeE ρ vs).set v .un
abbrev W0 : WX := fun _ _ _ _ => False
section
variable {Z : Fx} {F H : Hp} {σ : St} {ρ : En}
theorem set_un {α : Type} {l : List α} {i j : Nat} {x y : α} (h : (l.set i x)[j]? = some y) (hne : x ≠ y) : i ≠ j ∧ l[j]? = some y := by
  by_cases hij : i = j
  · subst hij
    rw [List.getElem?_set] at h
    simp only [↓reduceIte] at h
    split at h
    · cases h
      exact absurd rfl hne
    · cases h
  · rw [List.getElem?_set_ne hij] at h
    exact ⟨hij, h⟩
/-- what a slot holds where nothing is known of it does not matter -/
theorem St2.anySlot {τ : St} (s : St2 Z F H σ ρ) (hl : τ.length = σ.length) (h : ∀ (i : Nat), ρ[i]? ≠ some .un → τ[i]? = σ[i]?) : St2 Z F H τ ρ where
  fz := s.fz
  len := hl.trans s.len
  atD := fun i d e => by rw [h i (by rw [e]; intro z; cases z)]; exact s.atD i d e
  atO := fun i d e => by rw [h i (by rw [e]; intro z; cases z)]; exact s.atO i d e
  atX := fun i d e => by rw [h i (by rw [e]; intro z; cases z)]; exact s.atX i d e
  dis := fun i j p xs ys hij h1 h2 h3 => by
    rw [h i (by rw [h1]; intro z; cases z)] at h3
    rw [h j (by rw [h2]; intro z; cases z)]
    exact s.dis i j p xs ys hij h1 h2 h3
theorem wipeE_len : ∀ vs : List Nat, (wipeE ρ vs).length = ρ.length
  | [] => rfl
  | v :: vs => by
    unfold wipeE
    rw [List.length_set, wipeE_len vs]
theorem wipeE_un : ∀ (vs : List Nat) (i : Nat), i ∈ vs → i < ρ.length → (wipeE ρ vs)[i]? = some .un
  | v :: vs, i, h, hl => by
    unfold wipeE
    by_cases e : v = i
    · subst e
      exact List.getElem?_set_self (by rw [wipeE_len]; exact hl)
    · rw [List.getElem?_set_ne e]
      rcases List.mem_cons.mp h with z | z
      · exact absurd z.symm e
      · exact wipeE_un vs i z hl
theorem wipe_len2 (vs : List Nat) : (wipe σ vs).length = σ.length := wipe_length σ vs
theorem wipe_get : ∀ (vs : List Nat) (i : Nat), i ∉ vs → (wipe σ vs)[i]? = σ[i]?
  | [], _, _ => rfl
  | v :: vs, i, h => by
    unfold wipe
    rw [List.getElem?_set_ne (fun e => h (by rw [e]; exact List.mem_cons_self))]
    exact wipe_get vs i fun z => h (List.mem_cons_of_mem _ z)
theorem wipe_none : ∀ (vs : List Nat) (i : Nat), i ∈ vs → i < σ.length → (wipe σ vs)[i]? = some none
  | v :: vs, i, h, hl => by
    unfold wipe
    by_cases e : v = i
    · subst e
      exact List.getElem?_set_self (by rw [wipe_length]; exact hl)
    · rw [List.getElem?_set_ne e]
      rcases List.mem_cons.mp h with z | z
      · exact absurd z.symm e
      · exact wipe_none vs i z hl
theorem wipe_eq {τ : St} {vs : List Nat} (hl : τ.length = σ.length) (h : ∀ j, j ∉ vs → τ[j]? = σ[j]?) : wipe τ vs = wipe σ vs := by
  apply List.ext_getElem?
  intro i
  by_cases hi : i ∈ vs
  · by_cases hs : i < σ.length
    · rw [wipe_none vs i hi hs, wipe_none vs i hi (by rw [hl]; exact hs)]
    · rw [List.getElem?_eq_none (by rw [wipe_length]; omega), List.getElem?_eq_none (by rw [wipe_length]; omega)]
  · rw [wipe_get vs i hi, wipe_get vs i hi, h i hi]
theorem St2.wipeB (s : St2 Z F H σ ρ) : ∀ vs : List Nat, St2 Z F H σ (wipeE ρ vs)
  | [] => s
  | v :: vs => (St2.wipeB s vs).toUn v
theorem St2.wipeS (s : St2 Z F H σ ρ) (vs : List Nat) : St2 Z F H (wipe σ vs) (wipeE ρ vs) := by
  refine (s.wipeB vs).anySlot (wipe_length σ vs) fun i h => ?_
  by_cases hi : i ∈ vs
  · by_cases hl : i < ρ.length
    · exact absurd (wipeE_un vs i hi hl) h
    · have hs := s.len
      rw [List.getElem?_eq_none (by rw [wipe_length]; omega), List.getElem?_eq_none (by omega)]
  · exact wipe_get vs i hi
/-- the slots of the block are forgotten on both sides: the outer slots do as well -/
theorem St2.unwipe {vs : List Nat} {τ : St} (s : St2 Z F H τ (wipeE ρ vs)) (hl : τ.length = σ.length) (h : ∀ j, j ∉ vs → τ[j]? = σ[j]?) : St2 Z F H σ (wipeE ρ vs) := by
  refine s.anySlot hl.symm fun i hi => ?_
  by_cases hv : i ∈ vs
  · by_cases hl2 : i < ρ.length
    · exact absurd (wipeE_un vs i hv hl2) hi
    · have hs := s.len
      rw [wipeE_len] at hs
      rw [List.getElem?_eq_none (by omega), List.getElem?_eq_none (by omega)]
  · exact (h i hv).symm
end

section
variable {X : Cx} {Wx : WX} {S : Sx}
/-- a target that stores into the slots of vs alone -/
def Fram (vs : List Nat) (σ σ' : St) : Prop := (∀ j, j ∉ vs → σ'[j]? = σ[j]?) ∧ σ'.length = σ.length
def GFr (t : TG) (vs : List Nat) : Prop := ∀ v σ H (Q1 Q2 : St → Hp → Prop), t v σ H Q1 → (∀ σ' H', Fram vs σ σ' → Q1 σ' H' → Q2 σ' H') → t v σ H Q2
def GFrs (t : TGs) (vs : List Nat) : Prop := ∀ v σ H (Q1 Q2 : St → Hp → Prop), t v σ H Q1 → (∀ σ' H', Fram vs σ σ' → Q1 σ' H' → Q2 σ' H') → t v σ H Q2
theorem Fram.refl {vs : List Nat} {σ : St} : Fram vs σ σ := ⟨fun _ _ => rfl, rfl⟩
theorem Fram.trans {vs : List Nat} {σ σ1 σ2 : St} (a : Fram vs σ σ1) (b : Fram vs σ1 σ2) : Fram vs σ σ2 := ⟨fun j h => (b.1 j h).trans (a.1 j h), b.2.trans a.2⟩
structure GCJ (X : Cx) (S : Sx) (tg : Expr) (g : D → En → Fl) (vs : List Nat) : Prop where
  ex : ∃ t, PG X tg t ∧ GFr t vs ∧ ∀ B F0 F H σ ρ v d (Q : St → Hp → Prop), St2 (fx X S B F0) F H σ ρ → Rep X.K F v d → SPost (fx X S B F0) W0 F (g d ρ) { nx := Q, rt := fun _ _ => False } → t v σ H Q
structure GsCJ (X : Cx) (S : Sx) (tgs : List Expr) (g : List D → En → Fl) (vs : List Nat) : Prop where
  ex : ∃ t, PGs X tgs t ∧ GFrs t vs ∧ ∀ B F0 F H σ ρ us ds (Q : St → Hp → Prop), St2 (fx X S B F0) F H σ ρ → RepL X.K F us ds → SPost (fx X S B F0) W0 F (g ds ρ) { nx := Q, rt := fun _ _ => False } → t us σ H Q
theorem gcj_name (i : Nat) {x : Str} {pos : Pos} {vs : List Nat} (hN : X.N.Nodup) (hi : X.N[i]? = some x := by rfl) (hv : i ∈ vs := by decide) (hx : Loc X.env.scope x := by first | exact Or.inl rfl | exact Or.inr rfl) (hf : X.fn x = true ∨ X.env.scope.names.lookup x = some .local := by first | exact .inl rfl | exact .inr rfl) : GCJ X S (.Name x pos) (setD i) vs := by
  refine ⟨_, pg_name hN hi hx hf, fun v σ H Q1 Q2 h k => k _ _ ⟨fun j hj => List.getElem?_set_ne (fun e => hj (by rw [← e]; exact hv)), List.length_set⟩ h, fun B F0 F H σ ρ v d Q st r post => ?_⟩
  unfold setD at post
  split at post
  · rename_i hl
    exact post _ F H (st.store hl r) (Same.refl _)
  · exact post.elim
theorem gscj_nil {vs : List Nat} : GsCJ X S [] tsNil vs := by
  refine ⟨_, pgs_nil, fun us σ H Q1 Q2 h k => ⟨h.1, k _ _ Fram.refl h.2⟩, fun B F0 F H σ ρ vs ds Q st r post => ?_⟩
  cases r with
  | nil => exact ⟨rfl, post σ F H st (Same.refl _)⟩
  | cons _ _ => exact post.elim
theorem gscj_cons {e : Expr} {es : List Expr} {g : D → En → Fl} {gs : List D → En → Fl} {ws : List Nat} (h1 : GCJ X S e g ws) (h2 : GsCJ X S es gs ws)
    (hs : (assignEach (e :: es) X.env).map (·.2) = assign e X.env :: (assignEach es X.env).map (·.2) := by rfl) : GsCJ X S (e :: es) (tsCons g gs) ws := by
  obtain ⟨t, p, fr, q⟩ := h1.ex
  obtain ⟨u, p2, fr2, q2⟩ := h2.ex
  refine ⟨_, pgs_cons p p2 hs, fun us σ H Q1 Q2 h k => ?_, fun B F0 F H σ ρ vs ds Q st r post => ?_⟩
  · obtain ⟨v, r, e1, z⟩ := h
    exact ⟨v, r, e1, fr v σ H _ _ z fun σ1 H1 f1 z1 => fr2 r σ1 H1 _ _ z1 fun σ2 H2 f2 z2 => k σ2 H2 (f1.trans f2) z2⟩
  · cases r with
    | nil => exact post.elim
    | cons r1 r2 =>
      refine ⟨_, _, rfl, q B F0 F H σ ρ _ _ _ st r1 ?_⟩
      have k : ∀ (z : Fl), SPost (fx X S B F0) W0 F (z.seq (gs _)) { nx := Q, rt := fun _ _ => False } → SPost (fx X S B F0) W0 F z { nx := fun σ' H' => u _ σ' H' Q, rt := fun _ _ => False } := fun z pz => by
        cases z with
        | nx ρ' => exact fun σ' F' H' st' s' => q2 B F0 F' H' σ' ρ' _ _ Q st' (r2.mono s') (SPost.mono pz s')
        | bk ρ => exact pz
        | ct ρ => exact pz
        | rt d => exact pz
        | exc x ρ => exact pz
        | bad => exact pz
      exact k _ post
theorem gcj_tup {es : List Expr} {k : Nat} {pos : Pos} {gs : List D → En → Fl} {vs : List Nat} (n : Nat) (h : GsCJ X S es gs vs) (hc : X.calm = true := by rfl)
    (hn : (assignEach es X.env).length = n := by rfl) (hst : (assignEach es X.env).findIdx? (·.1) = none := by rfl) : GCJ X S (.Tuple es k pos) (gUn n gs) vs := by
  obtain ⟨t, p, fr, q⟩ := h.ex
  refine ⟨_, pg_or (pg_tup hc p hn hst) (pg_lst hc p hn hst), fun v σ H Q1 Q2 h k => ?_, fun B F0 F H σ ρ v d Q st r post => ?_⟩
  · rcases h with ⟨a, xs, e1, e2, e3, z⟩ | ⟨a, xs, e1, e2, e3, z⟩
    · exact .inl ⟨a, xs, e1, e2, e3, fr xs σ H _ _ z k⟩
    · exact .inr ⟨a, xs, e1, e2, e3, fr xs σ H _ _ z k⟩
  cases r with
  | @tup a vs ds h1 h2 =>
    replace post : SPost (fx X S B F0) W0 F (if ds.length = n then gs ds ρ else .bad) _ := post
    split at post
    · rename_i hl
      exact .inl ⟨a, vs, rfl, Same.seqT st.fz.fH h1, by rw [h2.length]; exact hl, q B F0 F H σ ρ vs ds Q st h2 post⟩
    · exact post.elim
  | @lst a vs ds h1 h2 =>
    replace post : SPost (fx X S B F0) W0 F (if ds.length = n then gs ds ρ else .bad) _ := post
    split at post
    · rename_i hl
      exact .inr ⟨a, vs, rfl, Same.seq st.fz.fH h1, by rw [h2.length]; exact hl, q B F0 F H σ ρ vs ds Q st h2 post⟩
    · exact post.elim
  | _ => exact post.elim
/-- the tests of a comprehension -/
structure TsJ (X : Cx) (Wx : WX) (S : Sx) (es : List Expr) (f : En → Res Bool) : Prop where
  ex : ∃ t, PTs X es t ∧ ∀ B F0 F H σ ρ Q, St2 (fx X S B F0) F H σ ρ → Post (fun _ b c => b = c) (fx X S B F0) Wx σ F (f ρ) Q → t σ H Q
def tYesD : En → Res Bool := fun ρ => .ok true ρ
theorem tsj_nil : TsJ X Wx S [] tYesD := ⟨_, pts_nil, fun B F0 F H σ ρ Q st post => post true F H st (Same.refl _) rfl⟩
theorem tsj_one {c : Expr} {f : En → Res Bool} (h : TJ X Wx S c f) : TsJ X Wx S [c] f := by
  obtain ⟨t, p, q⟩ := h.ex
  exact ⟨_, pts_one p, q⟩
def lcGo (g : D → En → Fl) (tt : En → Res Bool) (te : En → Res D) (vs : List Nat) : List D → List D → En → Res (List D)
  | [], acc, ρ => .ok acc ρ
  | d :: r, acc, ρ => match g d ρ with
    | .nx ρ1 => (match tt ρ1 with
      | .ok b ρ2 => if b = true then (match te ρ2 with
          | .ok y ρ3 => if acc.length < lim then lcGo g tt te vs r (acc ++ [y]) (wipeE ρ3 vs) else .bad
          | _ => .bad) else lcGo g tt te vs r acc (wipeE ρ2 vs)
      | _ => .bad)
    | _ => .bad
def fLc (fi : En → Res (List D)) (g : D → En → Fl) (tt : En → Res Bool) (te : En → Res D) (vs : List Nat) : En → Res (List D) := fun ρ => (fi ρ).bind fun ds ρ1 => lcGo g tt te vs ds [] (wipeE ρ1 vs)

/-- what is built while a comprehension runs -/
structure LcSt (Z : Fx) (D0 : Addr) (F H : Hp) (σ : St) (ρ : En) (acc : List D) : Prop where
  st : St2 Z F H σ ρ
  ac : ∃ vs, H D0 = some (.lst vs) ∧ RepL Z.K F vs acc
  nf : F D0 = none
  nb : Z.B D0 = none
  no : ∀ (i : Nat) (ys : List D), ρ[i]? = some (.own ys) → σ[i]? ≠ some (some (.ref D0))
section
variable {Z : Fx} {D0 : Addr} {F F' H H' : Hp} {σ σ' : St} {ρ ρ' : En} {acc : List D} {us : List V}
abbrev Fx.plus (Z : Fx) (D0 : Addr) (us : List V) : Fx := ⟨Z.K, Z.S, upd Z.B D0 (.lst us), Z.F0⟩
theorem LcSt.toB (l : LcSt Z D0 F H σ ρ acc) (h : H D0 = some (.lst us)) : St2 (Z.plus D0 us) F H σ ρ where
  fz := ⟨l.st.fz.f01, l.st.fz.fH, fun b u e => by
      by_cases hb : b = D0
      · subst hb
        have e' : some (HO.lst us) = some u := by rw [← e]; exact upd_same.symm
        rw [h]
        exact e'
      · have e' : Z.B b = some u := by rw [← e]; exact (upd_ne hb).symm
        exact l.st.fz.bH b u e', fun b u e => by
      by_cases hb : b = D0
      · subst hb
        have hf : Z.F0 b = none := none_of_same l.st.fz.f01 l.nf
        show F b = Z.F0 b
        rw [hf, l.nf]
      · have e' : Z.B b = some u := by rw [← e]; exact (upd_ne hb).symm
        exact l.st.fz.new b u e'⟩
  len := l.st.len
  atD := l.st.atD
  atO := fun i xs e => by
    obtain ⟨p, vs, h1, h2, h3, h4, h5⟩ := l.st.atO i xs e
    refine ⟨p, vs, h1, h2, h3, ?_, h5⟩
    have hb : p ≠ D0 := fun z => l.no i xs e (by rw [← z]; exact h1)
    show upd Z.B D0 (.lst us) p = none
    rw [upd_ne hb]
    exact h4
  atX := l.st.atX
  dis := l.st.dis
theorem lc_fromB (s : St2 (Z.plus D0 us) F' H' σ' ρ') (hf : Z.F0 D0 = none) (hb : Z.B D0 = none) (r : RepL Z.K F' us acc) : LcSt Z D0 F' H' σ' ρ' acc := by
  have up : ∀ b u, Z.B b = some u → (Z.plus D0 us).B b = some u := fun b u e => by
    show upd Z.B D0 (.lst us) b = some u
    rw [upd_ne (ne_of_none e hb)]
    exact e
  have h0 : (Z.plus D0 us).B D0 = some (.lst us) := upd_same
  have no : ∀ (i : Nat) (ys : List D) (p : Addr), ρ'[i]? = some (.own ys) → σ'[i]? = some (some (.ref p)) → p ≠ D0 := fun i ys p e e2 z => by
    obtain ⟨q, vs, h1, h2, h3, h4, h5⟩ := s.atO i ys e
    rw [e2] at h1
    cases h1
    rw [z, h0] at h4
    cases h4
  refine ⟨⟨⟨s.fz.f01, s.fz.fH, fun b u e => s.fz.bH b u (up b u e), fun b u e => s.fz.new b u (up b u e)⟩, s.len, s.atD, fun i xs e => ?_, s.atX, s.dis⟩, ⟨us, s.fz.bH _ _ h0, r⟩, (s.fz.new _ _ h0).trans hf, hb, fun i ys e e2 => no i ys D0 e e2 rfl⟩
  obtain ⟨p, vs, h1, h2, h3, h4, h5⟩ := s.atO i xs e
  have hp := no i xs p e h1
  refine ⟨p, vs, h1, h2, h3, ?_, h5⟩
  have h4' : upd Z.B D0 (.lst us) p = none := h4
  rw [upd_ne hp] at h4'
  exact h4'
theorem LcSt.push {v : V} {d : D} (l : LcSt Z D0 F H σ ρ acc) (h : H D0 = some (.lst us)) (r : RepL Z.K F us acc) (rv : Rep Z.K F v d) : LcSt Z D0 F (upd H D0 (.lst (us ++ [v]))) σ ρ (acc ++ [d]) where
  st := {
    fz := ⟨l.st.fz.f01, fun b u e => by rw [upd_ne (ne_of_none e l.nf)]; exact l.st.fz.fH b u e, fun b u e => by rw [upd_ne (ne_of_none e l.nb)]; exact l.st.fz.bH b u e, l.st.fz.new⟩
    len := l.st.len
    atD := l.st.atD
    atO := fun i xs e => by
      obtain ⟨p, vs, h1, h2, h3, h4, h5⟩ := l.st.atO i xs e
      refine ⟨p, vs, h1, ?_, h3, h4, h5⟩
      rw [upd_ne (fun z => l.no i xs e (by rw [← z]; exact h1))]
      exact h2
    atX := l.st.atX
    dis := l.st.dis }
  ac := ⟨_, upd_same, r.snoc rv⟩
  nf := l.nf
  nb := l.nb
  no := l.no
theorem LcSt.wipe (l : LcSt Z D0 F H σ ρ acc) (vs : List Nat) : LcSt Z D0 F H (wipe σ vs) (wipeE ρ vs) acc where
  st := l.st.wipeS vs
  ac := l.ac
  nf := l.nf
  nb := l.nb
  no := fun i ys e e2 => by
    have h1 := (l.st.wipeS vs).atO i ys e
    obtain ⟨p, ws, e3, e4, e5, e6, e7⟩ := h1
    rw [e2] at e3
    cases e3
    have hv : i ∉ vs := fun hv => by
      have hl : i < ρ.length := by
        have := get_lt e
        rw [wipeE_len] at this
        exact this
      rw [wipeE_un vs i hv hl] at e
      cases e
    have e8 : ρ[i]? = some (.own ys) := by
      have : ∀ ws : List Nat, i ∉ ws → (wipeE ρ ws)[i]? = ρ[i]? := by
        intro ws
        induction ws with
        | nil => intro _; rfl
        | cons w ws ih =>
          intro h
          unfold wipeE
          rw [List.getElem?_set_ne (fun z => h (by rw [z]; exact List.mem_cons_self))]
          exact ih fun z => h (List.mem_cons_of_mem _ z)
      rw [← this vs hv]
      exact e
    rw [wipe_get vs i hv] at e2
    exact l.no i ys e8 e2
theorem LcSt.ext (l : LcSt Z D0 F H σ ρ acc) (e : Ext F H F' H') : LcSt Z D0 F' H' σ ρ acc where
  st := l.st.ext e
  ac := by
    obtain ⟨vs, h1, h2⟩ := l.ac
    exact ⟨vs, e.hh _ _ h1, h2.mono e.ff⟩
  nf := by
    obtain ⟨vs, h1, h2⟩ := l.ac
    rw [e.new _ _ h1]
    exact l.nf
  nb := l.nb
  no := l.no
theorem wipe_wipe (vs : List Nat) : L2.wipe (L2.wipe σ vs) vs = L2.wipe σ vs := wipe_eq (wipe_length σ vs) fun j hj => wipe_get vs j hj
end
theorem PostO.mono {Z : Fx} {σ : St} {F F' : Hp} {r : Res (List D)} {Q : VK} (post : PostO Z Wx σ F r Q) (s : Same F F') : PostO Z Wx σ F' r Q := by
  cases r with
  | bad => exact post
  | exc x ρ => exact fun cls dd F2 H2 st2 s2 r2 => post cls dd F2 H2 st2 (s.trans s2) r2
  | ok d ρ => exact fun p vs F2 H2 st2 s2 => post p vs F2 H2 st2 (s.trans s2)
theorem lc_core_post {Z : Fx} {vs : List Nat} {J : It} {G : Hp → Prop} {Y : Nat → Hp → V → Hp → Prop} {ds : List D} {g : D → En → Fl} {tt : En → Res Bool} {te : En → Res D} {tg : TG} {tts : TT} {tes : TE} {σ : St} {ρ : En} {F1 H1 : Hp} {D0 : Addr} {Q : VK}
    (w : Walk J ds.length G Y) (hG : ∀ H'', Same F1 H'' → G H'') (hY : ∀ i Fi Hi x Hi', i < ds.length → Same F1 Fi → Same Fi Hi → Y i Hi x Hi' → ∃ Fj d, Ext Fi Hi Fj Hi' ∧ ds[i]? = some d ∧ Rep Z.K Fj x d)
    (fr : GFr tg vs)
    (hg : ∀ B F0 F H σ ρ v d (Q : St → Hp → Prop), St2 ⟨Z.K, Z.S, B, F0⟩ F H σ ρ → Rep Z.K F v d → SPost ⟨Z.K, Z.S, B, F0⟩ W0 F (g d ρ) { nx := Q, rt := fun _ _ => False } → tg v σ H Q)
    (ht : ∀ B F0 F H σ ρ Q, St2 ⟨Z.K, Z.S, B, F0⟩ F H σ ρ → Post (fun _ b c => b = c) ⟨Z.K, Z.S, B, F0⟩ W0 σ F (tt ρ) Q → tts σ H Q)
    (he : ∀ B F0 F H σ ρ Q, St2 ⟨Z.K, Z.S, B, F0⟩ F H σ ρ → Post (Rep Z.K) ⟨Z.K, Z.S, B, F0⟩ W0 σ F (te ρ) Q → tes σ H Q)
    (st1 : St2 Z F1 H1 σ ρ) (hD : H1 D0 = none) (post : PostO Z Wx σ F1 (lcGo g tt te vs ds [] (wipeE ρ vs)) Q) :
    ∃ W : Nat → Nat → Hp → Prop, (∃ m, W 0 m (upd H1 D0 (.lst []))) ∧ ∀ i m H, W i m H →
      (J.stop i H ∧ Q (.ref D0) H) ∨ (J.go i H ∧ ∃ Nx : Hp → Prop, (∀ H', Nx H' → ∃ m', m' < m ∧ W (i + 1) m' H') ∧ ∀ x H', J.yld i H x H' → tg x (wipe σ vs) H' fun σ2 H2 => wipe σ2 vs = wipe σ vs ∧ tts σ2 H2 fun b H3 =>
        if b = true then tes σ2 H3 fun y H4 => ∃ acc, H4 D0 = some (.lst acc) ∧ acc.length < sizeLine ∧ Nx (upd H4 D0 (.lst (acc ++ [y]))) else Nx H3) := by
  have hlen : ∀ (i : Nat), i ≤ ds.length → True := fun _ _ => trivial
  have hnf : Z.F0 D0 = none := none_of_same st1.fz.f01 (none_of_same st1.fz.fH hD)
  have hnb : Z.B D0 = none := none_of_same st1.fz.bH hD
  refine lc_it w (fun i H => ∃ F' ρ' acc, LcSt Z D0 F' H (wipe σ vs) (wipeE ρ' vs) acc ∧ Same F1 F' ∧ PostO Z Wx σ F' (lcGo g tt te vs (ds.drop i) acc (wipeE ρ' vs)) Q) ?_ (fun i H _ h => ?_) (fun i x H H' hi h y => ?_) (fun H h => ?_)
  · refine ⟨F1, ρ, [], ⟨(st1.laid hD).wipeS vs, ⟨[], upd_same, .nil⟩, none_of_same st1.fz.fH hD, hnb, fun i ys e e2 => ?_⟩, Same.refl _, post⟩
    obtain ⟨p, ws, e3, e4, e5, e6, e7⟩ := (st1.wipeS vs).atO i ys e
    rw [e2] at e3
    cases e3
    rw [hD] at e4
    cases e4
  · obtain ⟨F', ρ', acc, l, s, _⟩ := h
    exact hG H (s.trans l.st.fz.fH)
  · obtain ⟨F', ρ', acc, l, s, post'⟩ := h
    obtain ⟨Fj, d, ex, hd, rd⟩ := hY i F' H x H' hi s l.st.fz.fH y
    have hdrop : ds.drop i = d :: ds.drop (i + 1) := by
      obtain ⟨hl, he⟩ := List.getElem?_eq_some_iff.mp hd
      rw [List.drop_eq_getElem_cons hl, he]
    rw [hdrop] at post'
    have l1 := l.ext ex
    obtain ⟨us, hu, ru⟩ := l1.ac
    have b1 := l1.toB hu
    unfold lcGo at post'
    cases eg : g d (wipeE ρ' vs) with
    | nx ρ1 =>
      rw [eg] at post'
      refine fr x _ _ (fun σ2 H2 => Fram vs (wipe σ vs) σ2 → wipe σ2 vs = wipe σ vs ∧ tts σ2 H2 fun b H3 => if b = true then tes σ2 H3 fun y H4 => ∃ acc, H4 D0 = some (.lst acc) ∧ acc.length < sizeLine ∧ _ else _) _ (hg _ _ Fj H' _ _ x d _ b1 rd ?_) (fun σ2 H2 f z => z f)
      rw [eg]
      intro σ2 F2 H2 st2 s2 f2
      have ew : wipe σ2 vs = wipe σ vs := by rw [wipe_eq f2.2 f2.1, wipe_wipe]
      refine ⟨ew, ht _ _ F2 H2 σ2 ρ1 _ st2 ?_⟩
      cases et : tt ρ1 with
      | bad => simp only [et] at post'; exact post'.elim
      | exc x2 ρ2 => simp only [et] at post'; exact post'.elim
      | ok b ρ2 =>
        simp only [et] at post'
        intro b' F3 H3 st3 s3 eb
        subst eb
        cases b' with
        | true =>
          rw [if_pos rfl] at post'
          refine iteT (he _ _ F3 H3 σ2 ρ2 _ st3 ?_)
          cases ee : te ρ2 with
          | bad => simp only [ee] at post'; exact post'.elim
          | exc x3 ρ3 => simp only [ee] at post'; exact post'.elim
          | ok yv ρ3 =>
            simp only [ee] at post'
            intro v F4 H4 st4 s4 rv
            split at post'
            · rename_i hacc
              have s14 : Same Fj F4 := (s2.trans s3).trans s4
              have l4 := lc_fromB st4 hnf hnb (ru.mono s14)
              have hu4 : H4 D0 = some (.lst us) := st4.fz.bH _ _ upd_same
              refine ⟨us, hu4, lim_lt (by rw [ru.length]; exact hacc), F4, ρ3, acc ++ [yv], ?_, (s.trans ex.ff).trans s14, PostO.mono post' (ex.ff.trans s14)⟩
              have l5 := (l4.push hu4 (ru.mono s14) rv).wipe vs
              rw [ew] at l5
              exact l5
            · exact post'.elim
        | false =>
          rw [if_neg Bool.false_ne_true] at post'
          have s13 : Same Fj F3 := s2.trans s3
          refine iteF ⟨F3, ρ2, acc, ?_, (s.trans ex.ff).trans s13, PostO.mono post' (ex.ff.trans s13)⟩
          have l5 := (lc_fromB st3 hnf hnb (ru.mono s13)).wipe vs
          rw [ew] at l5
          exact l5
    | rt _ => rw [eg] at post'; exact post'.elim
    | bk _ => rw [eg] at post'; exact post'.elim
    | ct _ => rw [eg] at post'; exact post'.elim
    | exc _ _ => rw [eg] at post'; exact post'.elim
    | bad => rw [eg] at post'; exact post'.elim
  · obtain ⟨F', ρ', acc, l, s, post'⟩ := h
    rw [List.drop_length] at post'
    obtain ⟨us, hu, ru⟩ := l.ac
    refine post' D0 us F' H (l.st.unwipe (wipe_length σ vs) fun j hj => wipe_get vs j hj) (Same.refl _) hu l.nf hnb (fun i ys e e2 => ?_) ru
    obtain ⟨p, ws, e3, e4, e5, e6, e7⟩ := l.st.atO i ys e
    refine l.no i ys e ?_
    have hv : i ∉ vs := fun hv => by
      have hl : i < ρ'.length := by
        have := get_lt e
        rw [wipeE_len] at this
        exact this
      rw [wipeE_un vs i hv hl] at e
      cases e
    rw [wipe_get vs i hv]
    exact e2
end
end PD
set_option Elab.async false
set_option linter.all false
set_option maxRecDepth 100000
set_option maxHeartbeats 4000000
/-! PD7: comprehensions as rules; calls of defs; what a def is worth. -/
namespace PD
open PySem PySem.Spec L2

section
variable {X : Cx} {Wx : WX} {S : Sx}
/-- a look at a block's names -/
def blkQ (N : List Str) (sc scope : Scope) (own : List (Str × Nat)) : Bool :=
  decide (scope.kind = .function) && scope.names.all (fun y => decide (scope.names.lookup y.1 = some y.2)) && own.all (fun p => decide (N[p.2]? = some p.1)) &&
  scope.names.all (fun y => !decide (y.2 = .free) || (decide (sc.names.lookup y.1 = some .cell) || decide (sc.names.lookup y.1 = some .free))) &&
  scope.names.all (fun y => !(decide (y.2 = .local) || decide (y.2 = .cell)) || (decide (y.1 ∈ own.map (·.1)) || !decide (y.1 ∈ N)))
theorem blkQ_by {N : List Str} {sc scope : Scope} {own : List (Str × Nat)} (h : blkQ N sc scope own = true) : BlkOk N sc scope own := by
  unfold blkQ at h
  simp only [Bool.and_eq_true, decide_eq_true_eq, List.all_eq_true, Bool.or_eq_true, Bool.not_eq_true', decide_eq_false_iff_not] at h
  obtain ⟨⟨⟨⟨h1, h2⟩, h3⟩, h4⟩, h5⟩ := h
  exact ⟨h1, fun y hy => h2 y hy, fun p hp => h3 p hp, fun y hy hf => (h4 y hy).resolve_left fun z => z hf, fun y hy hl => by
    rcases h5 y hy with z | z
    · exact absurd hl (by
        intro hh
        rcases hh with hh | hh
        · simp [hh] at z
        · simp [hh] at z)
    · exact z⟩
/-- one reading for all the blocks -/
theorem lc_main {own : List (Str × Nat)} {elt tg iter : Expr} {ifs : List Expr} {scope : Scope} {pos : Pos} {fi : En → Res (List D)} {g : D → En → Fl} {tt : En → Res Bool} {te : En → Res D} (hi : IJ X Wx S tg iter fi)
    (hg : ∀ (s : Shared) (H : Hp) (C : Addr) (cl : List (Str × Addr)) (fp : List Addr), GCJ (X.blk s H scope (compEnvC scope cl C X.env) fp) S tg g (own.map (·.2)))
    (ht : ∀ (s : Shared) (H : Hp) (C : Addr) (cl : List (Str × Addr)) (fp : List Addr), TsJ (X.blk s H scope (compEnvC scope cl C X.env) fp) W0 S ifs tt)
    (he : ∀ (s : Shared) (H : Hp) (C : Addr) (cl : List (Str × Addr)) (fp : List Addr), EJ (X.blk s H scope (compEnvC scope cl C X.env) fp) W0 S elt te) :
    ∃ (wi : TI) (tgU : TG) (ttU : TT) (teU : TE), PI X tg iter wi ∧ (∀ s H C cl fp, PG (X.blk s H scope (compEnvC scope cl C X.env) fp) tg tgU) ∧ (∀ s H C cl fp, PTs (X.blk s H scope (compEnvC scope cl C X.env) fp) ifs ttU) ∧ (∀ s H C cl fp, PE (X.blk s H scope (compEnvC scope cl C X.env) fp) elt teU) ∧
      ∀ B F0 F H σ ρ Q, St2 (fx X S B F0) F H σ ρ → PostO (fx X S B F0) Wx σ F (fLc fi g tt te (own.map (·.2)) ρ) Q → tLc wi tgU ttU teU (own.map (·.2)) σ H Q := by
  obtain ⟨wi, p, q⟩ := hi.ex
  have hg' := fun s H C cl fp => (hg s H C cl fp).ex
  have ht' := fun s H C cl fp => (ht s H C cl fp).ex
  have he' := fun s H C cl fp => (he s H C cl fp).ex
  let tgU : TG := fun v σ H Q => ∀ s H0 C cl fp, Classical.choose (hg' s H0 C cl fp) v σ H Q
  let ttU : TT := fun σ H Q => ∀ s H0 C cl fp, Classical.choose (ht' s H0 C cl fp) σ H Q
  let teU : TE := fun σ H Q => ∀ s H0 C cl fp, Classical.choose (he' s H0 C cl fp) σ H Q
  have hgU : ∀ s H C cl fp, PG (X.blk s H scope (compEnvC scope cl C X.env) fp) tg tgU := fun s H C cl fp => ⟨fun pins s1 σ H1 v u Q I r h => (Classical.choose_spec (hg' s H C cl fp)).1.run pins s1 σ H1 v u Q I r (h s H C cl fp)⟩
  have htU : ∀ s H C cl fp, PTs (X.blk s H scope (compEnvC scope cl C X.env) fp) ifs ttU := fun s H C cl fp => ⟨fun pins s1 σ H1 Q I h => (Classical.choose_spec (ht' s H C cl fp)).1.run pins s1 σ H1 Q I (h s H C cl fp)⟩
  have heU : ∀ s H C cl fp, PE (X.blk s H scope (compEnvC scope cl C X.env) fp) elt teU := fun s H C cl fp => ⟨fun pins s1 σ H1 Q I h => (Classical.choose_spec (he' s H C cl fp)).1.run pins s1 σ H1 Q I (h s H C cl fp)⟩
  refine ⟨wi, tgU, ttU, teU, p, hgU, htU, heU, fun B F0 F H σ ρ Q st post => q B F0 F H σ ρ _ st ?_⟩
  unfold fLc at post
  cases ef : fi ρ with
  | bad => rw [ef] at post; exact post
  | exc x ρ1 => rw [ef] at post; exact fun cls dd F' H' st' s rx => post cls dd F' H' st' s rx
  | ok ds ρ1 =>
    rw [ef, Res.bind_ok] at post
    intro J G Y F1 H1 st1 s1 w hG hY D0 hD
    exact lc_core_post (Z := fx X S B F0) w hG hY (fun v σ H Q1 Q2 h k s H0 C cl fp => (Classical.choose_spec (hg' s H0 C cl fp)).2.1 v σ H Q1 Q2 (h s H0 C cl fp) k)
      (fun B F0 F H σ ρ v d Q st r post s H0 C cl fp => (Classical.choose_spec (hg' s H0 C cl fp)).2.2 B F0 F H σ ρ v d Q st r post)
      (fun B F0 F H σ ρ Q st post s H0 C cl fp => (Classical.choose_spec (ht' s H0 C cl fp)).2 B F0 F H σ ρ Q st post)
      (fun B F0 F H σ ρ Q st post s H0 C cl fp => (Classical.choose_spec (he' s H0 C cl fp)).2 B F0 F H σ ρ Q st post) st1 hD (PostO.mono post s1)
theorem oj_lc {own : List (Str × Nat)} {elt tg iter : Expr} {ifs : List Expr} {scope : Scope} {pos : Pos} {fi : En → Res (List D)} {g : D → En → Fl} {tt : En → Res Bool} {te : En → Res D} (hN : X.N.Nodup) (hi : IJ X Wx S tg iter fi) (ok : BlkOk X.N X.env.scope scope own)
    (hg : ∀ (s : Shared) (H : Hp) (C : Addr) (cl : List (Str × Addr)) (fp : List Addr), GCJ (X.blk s H scope (compEnvC scope cl C X.env) fp) S tg g (own.map (·.2)))
    (ht : ∀ (s : Shared) (H : Hp) (C : Addr) (cl : List (Str × Addr)) (fp : List Addr), TsJ (X.blk s H scope (compEnvC scope cl C X.env) fp) W0 S ifs tt)
    (he : ∀ (s : Shared) (H : Hp) (C : Addr) (cl : List (Str × Addr)) (fp : List Addr), EJ (X.blk s H scope (compEnvC scope cl C X.env) fp) W0 S elt te) (hc : X.calm = true := by rfl) (hs : ∀ x, foldedSetIterable iter X.env x = pure x := by intro _; rfl) :
    OJ X Wx S (.ListComp elt [⟨tg, iter, ifs, 0⟩] scope pos) (fLc fi g tt te (own.map (·.2))) := by
  obtain ⟨wi, tgU, ttU, teU, p, hgU, htU, heU, k⟩ := lc_main (own := own) (pos := pos) hi hg ht he
  exact ⟨_, pe_lc hc hN p ok hgU htU heU hs, k⟩
/-- name = [..], the name a local that no block sees -/
theorem sj_setLc {own : List (Str × Nat)} (i : Nat) {y : Str} {py spos : Pos} {elt tg iter : Expr} {ifs : List Expr} {scope : Scope} {pos : Pos} {fi : En → Res (List D)} {g : D → En → Fl} {tt : En → Res Bool} {te : En → Res D} (hN : X.N.Nodup) (hi : IJ X Wx S tg iter fi) (ok : BlkOk X.N X.env.scope scope own)
    (hg : ∀ (s : Shared) (H : Hp) (C : Addr) (cl : List (Str × Addr)) (fp : List Addr), GCJ (X.blk s H scope (compEnvC scope cl C X.env) fp) S tg g (own.map (·.2)))
    (ht : ∀ (s : Shared) (H : Hp) (C : Addr) (cl : List (Str × Addr)) (fp : List Addr), TsJ (X.blk s H scope (compEnvC scope cl C X.env) fp) W0 S ifs tt)
    (he : ∀ (s : Shared) (H : Hp) (C : Addr) (cl : List (Str × Addr)) (fp : List Addr), EJ (X.blk s H scope (compEnvC scope cl C X.env) fp) W0 S elt te) (hy : X.N[i]? = some y := by rfl) (hyl : X.env.scope.names.lookup y = some .local := by rfl)
    (hsw : swapsWith (.ListComp elt [⟨tg, iter, ifs, 0⟩] scope pos) (some (.Name y py)) spos.line X.env = pure true := by rfl) (hc : X.calm = true := by rfl) (hs : ∀ x, foldedSetIterable iter X.env x = pure x := by intro _; rfl) :
    SJ X Wx S (.Assign [.Name y py] (.ListComp elt [⟨tg, iter, ifs, 0⟩] scope pos) spos) (sAsgO (fLc fi g tt te (own.map (·.2))) i) := by
  obtain ⟨wi, tgU, ttU, teU, p, hgU, htU, heU, k⟩ := lc_main (own := own) (pos := pos) hi hg ht he
  refine ⟨_, ps_setLc hc hN hy hyl hsw p ok hgU htU heU hs, fun B F0 F H σ ρ E st post => k B F0 F H σ ρ _ st (fl_postO post fun xs ρ' a vs F' H' post' st' s' h1 h2 h3 h4 r => ?_)⟩
  unfold setO at post'
  split at post'
  · rename_i hl
    exact post' _ F' H' (st'.storeO hl h1 h2 h3 h4 r) (Same.refl _)
  · exact post'.elim

/-! ### calls of defs -/
def spD (K : PySem.W.Frag) (n : Nat) (den : List D → FR) : Sp := fun vs H Q E => vs.length = n ∧ ∃ F ds, Same F H ∧ RepL K F vs ds ∧ (match den ds with
  | .ok r => ∀ v F' H', Ext F H F' H' → Rep K F' v r → Q v H'
  | .exc x => ∀ cls dd F' H', Ext F H F' H' → RepX K F' cls dd x → E cls dd H'
  | .bad => False)
/-- the def at f is worth den -/
structure FnJ (P : Program) (w : World) (K : PySem.W.Frag) (mg : Str → Option Value) (base : Heap) (k : Nat) (f : Addr) (fd : FuncData) (ps : List Str) (den : List D → FR) : Prop where
  ok : FnOk P w K mg base (L2.CX P w) k f fd ps (spD K ps.length den)
  len : ∀ ds, den ds ≠ .bad → ds.length = ps.length
theorem FnJ.mono {P : Program} {w : World} {K : PySem.W.Frag} {mg : Str → Option Value} {base : Heap} {j k : Nat} {f : Addr} {fd : FuncData} {ps : List Str} {den : List D → FR} (F : FnJ P w K mg base j f fd ps den) (h : j ≤ k) : FnJ P w K mg base k f fd ps den := ⟨F.ok.mono h, F.len⟩
def fCall (den : List D → FR) (fa : En → Res (List D)) (dd : List D) : En → Res D := fun ρ => (fa ρ).bind fun ds ρ1 => match den (ds ++ dd) with
  | .ok r => .ok r ρ1
  | .exc x => .exc x ρ1
  | .bad => .bad
/-- constants that stand in for arguments -/
structure DfJ (K : PySem.W.Frag) (us : List Value) (ds : List D) : Prop where
  ex : ∃ vs, Vals vs us ∧ ∀ F, RepL K F vs ds
theorem dfj_nil {K : PySem.W.Frag} : DfJ K [] [] := ⟨[], .nil, fun _ => .nil⟩
theorem dfj_int {K : PySem.W.Frag} {i : Int} {t : Tok} : DfJ K [.int i t] [.int i] := ⟨[.int i], .cons ⟨t, rfl⟩ .nil, fun _ => .cons (.int i) .nil⟩
theorem ej_call {k : Nat} {f : Addr} {fd : FuncData} {ps : List Str} {den : List D → FR} {us : List Value} {dd : List D} {x : Str} {p pos : Pos} {e : Expr} {es : List Expr} {fa : En → Res (List D)} (Fn : FnJ X.prog X.w X.K X.mg X.base k f fd ps den) (tk : Takes X Wx) (hr : Room k X.A)
    (hm : X.mg x = some (.ref f)) (hk : PySem.W.keepIn X.K (.ref f) = true) (hb : Binds X.K fd ps us) (hd : DfJ X.K us dd) (ha : AJ X Wx S (e :: es) fa) (hg : Gl X x := by rfl)
    (hdb : (x == ("__debug__" : Str)) = false := by decide) (he : starEach (e :: es) X.env = (false, eval e X.env) :: starEach es X.env := by rfl) (hpl : (backTo pos (starEach es X.env)).any (·.1) = false := by rfl) :
    EJ X Wx S (.Call (.Name x p) (e :: es) [] pos) (fCall den fa dd) := by
  obtain ⟨t, pa, qa⟩ := ha.ex
  obtain ⟨dv, hv, hrep⟩ := hd.ex
  refine ⟨_, pe_callSD Fn.ok hr hg hm hk hb hv (fun σ => passAt tk σ) pa hdb he hpl, fun B F0 F H σ ρ Q st post => qa B F0 F H σ ρ _ st (post.bind fun ds ρ1 vs F1 H1 post1 st1 s1 r1 => ?_)⟩
  have rr := r1.append (hrep F1)
  replace post1 : Post (Rep X.K) (fx X S B F0) Wx σ F1 (match den (ds ++ dd) with | .ok r => .ok r ρ1 | .exc x => .exc x ρ1 | .bad => .bad) Q := post1
  have hlen : (vs ++ dv).length = ps.length := by
    rw [rr.length]
    refine Fn.len _ fun z => ?_
    rw [z] at post1
    exact post1
  refine ⟨hlen, F1, ds ++ dd, st1.fz.fH, rr, ?_⟩
  cases e : den (ds ++ dd) with
  | ok r =>
    rw [e] at post1
    exact fun v F' H' ex rv => post1 v F' H' (st1.ext ex) ex.ff rv
  | exc x =>
    rw [e] at post1
    exact fun cls d F' H' ex rx => post1 cls d F' H' (st1.ext ex) ex.ff rx
  | bad =>
    rw [e] at post1
    exact post1.elim

/-! ### a def by its body -/
def startE (n : Nat) (ds : List D) : En := ds.map Sl.d ++ List.replicate (n - ds.length) .un
def fnD (np n : Nat) (body : En → Fl) (ds : List D) : FR := if ds.length = np then (body (startE n ds)).fin else .bad
theorem st2_start {K : PySem.W.Frag} {S : Sx} {F H : Hp} {N : List Str} {vs : List V} {ds : List D} (s : Same F H) (r : RepL K F vs ds) : St2 ⟨K, S, H, F⟩ F H (L2.start N vs) (startE N.length ds) := by
  have hl := r.length
  have noO : ∀ (i : Nat) (xs : List D), (startE N.length ds)[i]? ≠ some (.own xs) := fun i xs h => by
    unfold startE at h
    by_cases hi : i < ds.length
    · rw [List.getElem?_append_left (by simpa using hi), List.getElem?_map] at h
      cases e : ds[i]? with
      | none => rw [e] at h; cases h
      | some d => rw [e] at h; cases h
    · rw [List.getElem?_append_right (by simpa using hi), List.getElem?_replicate] at h
      split at h <;> cases h
  refine ⟨⟨Same.refl _, s, Same.refl _, fun _ _ _ => rfl⟩, ?_, fun i d h => ?_, fun i xs h => absurd h (noO i xs), fun i x h => ?_, fun i j p xs ys _ h => absurd h (noO i xs)⟩
  · unfold L2.start startE
    rw [List.length_append, List.length_append, List.length_map, List.length_map, List.length_replicate, List.length_replicate, hl]
  · unfold startE at h
    by_cases hi : i < ds.length
    · rw [List.getElem?_append_left (by simpa using hi), List.getElem?_map] at h
      cases e : ds[i]? with
      | none => rw [e] at h; cases h
      | some d' =>
        rw [e] at h
        cases h
        obtain ⟨v, h1, h2⟩ := r.get e
        refine ⟨v, ?_, h2⟩
        unfold L2.start
        rw [List.getElem?_append_left (by rw [List.length_map, hl]; exact hi), List.getElem?_map, h1]
        rfl
    · rw [List.getElem?_append_right (by simpa using hi), List.getElem?_replicate] at h
      split at h <;> cases h
  · unfold startE at h
    by_cases hi : i < ds.length
    · rw [List.getElem?_append_left (by simpa using hi), List.getElem?_map] at h
      cases e : ds[i]? with
      | none => rw [e] at h; cases h
      | some d => rw [e] at h; cases h
    · rw [List.getElem?_append_right (by simpa using hi), List.getElem?_replicate] at h
      split at h <;> cases h
abbrev S0 : Sx := ⟨0, .none, none⟩
abbrev wE (E : XK) : WX := fun cls d _ H => E cls d H
theorem fnj_of {P : Program} {w : World} {K : PySem.W.Frag} {mg : Str → Option Value} {base : Heap} {x qual : Str} {st : Stmt} {f : Addr} {fd : FuncData} {N ps : List Str} {k : Nat} {body : En → Fl} (Fn : Fun K x qual st f fd) (Sc : FnScope N ps (defScope st))
    (hb : ∀ (cdv : Value) (A : Around) (outer : List Env) (s : Shared) (H : Hp) (E : XK), Room k (A.deeper (PyProof.Rows.envOfC qual (defScope st) s.heap.objs.size f cdv)) →
      BJ (cxOf (L2.CX P w) P w K mg base N qual (defScope st) f cdv A outer s H E) (wE E) S0 (defBody st) body) : FnJ P w K mg base (k + 1) f fd ps (fnD ps.length N.length body) := by
  refine ⟨Fn.okX Sc (fun vs H Q E h => h.1) fun cdv A outer s H vs Q E hr h => ?_, fun ds h => ?_⟩
  · obtain ⟨hl, F, ds, sF, r, post⟩ := h
    obtain ⟨t, p, q⟩ := (hb cdv A outer s H E hr).ex
    refine ⟨t, p, q H F F H _ _ _ (st2_start sF r) ?_⟩
    have hdl : ds.length = ps.length := by rw [← r.length]; exact hl
    unfold fnD at post
    rw [if_pos hdl] at post
    have ext : ∀ {F' H' : Hp}, Fz ⟨K, S0, H, F⟩ F' H' → Ext F H F' H' := fun z => ⟨z.f01, z.fH, z.bH, z.new⟩
    cases e : body (startE N.length ds) with
    | nx ρ =>
      rw [e] at post
      exact fun σ' F' H' st' _ => post .non F' H' (ext st'.fz) .non
    | rt d =>
      rw [e] at post
      exact fun v F' H' z rv => post v F' H' (ext z) rv
    | exc x ρ =>
      rw [e] at post
      exact fun cls dd σ' F' H' st' _ rx => post cls dd F' H' (ext st'.fz) rx
    | bk ρ =>
      rw [e] at post
      exact post.elim
    | ct ρ =>
      rw [e] at post
      exact post.elim
    | bad =>
      rw [e] at post
      exact post.elim
  · unfold fnD at h
    split at h
    · assumption
    · exact absurd rfl h
end
end PD
set_option Elab.async false
set_option linter.all false
set_option maxRecDepth 100000
set_option maxHeartbeats 4000000
/-! PD8: subscripts, slices, built-in functions, methods. -/
namespace PD
open PySem PySem.Spec L2

section
variable {X : Cx} {Wx : WX} {S : Sx}

/-! ### subscripts -/
def subD : D → D → Option D
  | .lst xs, .int i => atI xs i
  | .tup xs, .int i => atI xs i
  | .str z, .int i => if z.length ≤ lim then (atI z.cps.toList i).map fun c => .str ⟨#[c]⟩ else none
  | _, _ => none
theorem repL_atI {K : PySem.W.Frag} {F : Hp} {vs : List V} {ds : List D} {i : Int} {d : D} (r : RepL K F vs ds) (h : atI ds i = some d) : ∃ v, atI vs i = some v ∧ Rep K F v d := by
  unfold atI at h ⊢
  rw [r.length]
  cases e : ixN ds.length i with
  | none => rw [e] at h; cases h
  | some j =>
    rw [e] at h
    exact r.get h
theorem sub_rep {K : PySem.W.Frag} {F H : Hp} {x y : V} {d e z : D} {Q : VK} (s : Same F H) (rx : Rep K F x d) (ry : Rep K F y e) (hz : subD d e = some z) (k : ∀ v, Rep K F v z → Q v H) : rIx K x y H Q := by
  cases rx <;> (try (cases hz; done)) <;> cases ry <;> (try (cases hz; done))
  · rename_i w i
    replace hz : (if w.length ≤ lim then (atI w.cps.toList i).map fun c => D.str ⟨#[c]⟩ else none) = some z := hz
    split at hz
    · rename_i hl
      cases e : atI w.cps.toList i with
      | none => rw [e] at hz; cases hz
      | some c =>
        rw [e] at hz
        cases hz
        exact .inr (.inr ⟨w, i, c, rfl, rfl, lim_le hl, e, k _ (.str _)⟩)
    · cases hz
  · rename_i a vs ds h1 h2 i
    obtain ⟨v, h3, h4⟩ := repL_atI h2 hz
    exact .inl ⟨a, vs, i, v, rfl, rfl, Same.seq s h1, h3, k v h4⟩
  · rename_i a vs ds h1 h2 i
    obtain ⟨v, h3, h4⟩ := repL_atI h2 hz
    exact .inr (.inl ⟨a, vs, i, v, rfl, rfl, Same.seqT s h1, h3, k v h4⟩)
theorem ej_sub {a b : Expr} {pos : Pos} {fa fb : En → Res D} (ha : EJ X Wx S a fa) (hb : EJ X Wx S b fb) (hs : PlainIx b := by intro _ _; rfl) : EJ X Wx S (.Subscript a b pos) (fBin subD fa fb) := by
  obtain ⟨ta, pa, qa⟩ := ha.ex
  obtain ⟨tb, pb, qb⟩ := hb.ex
  refine ⟨_, pe_ix ix_seq pa pb hs, fun B F0 F H σ ρ Q st post => ?_⟩
  refine qa B F0 F H σ ρ _ st (post.bind fun d ρ1 v F1 H1 post1 st1 s1 r1 => ?_)
  refine qb B F0 F1 H1 σ ρ1 _ st1 (post1.bind fun e ρ2 u F2 H2 post2 st2 s2 r2 => ?_)
  obtain ⟨z, hz, k⟩ := post2.ofO
  exact sub_rep st2.fz.fH (r1.mono s2) r2 hz fun v rv => k v F2 H2 st2 (Same.refl _) rv
/-- a name that is read late: where it stands, what is told of it -/
theorem slot_cases {Z : Fx} {F H : Hp} {σ : St} {ρ : En} {i : Nat} {d : D} (s : St2 Z F H σ ρ) (h : slotD ρ i = some d) :
    ∃ v, σ[i]? = some (some v) ∧ (Rep Z.K F v d ∨ ∃ p vs xs, v = .ref p ∧ d = .lst xs ∧ H p = some (.lst vs) ∧ RepL Z.K F vs xs) := by
  unfold slotD at h
  split at h
  · rename_i e he
    cases h
    obtain ⟨v, h1, h2⟩ := s.atD i _ he
    exact ⟨v, h1, .inl h2⟩
  · rename_i xs he
    cases h
    obtain ⟨p, vs, h1, h2, h3, h4, h5⟩ := s.atO i _ he
    exact ⟨.ref p, h1, .inr ⟨p, vs, xs, rfl, rfl, h2, h5⟩⟩
  · cases h
/-- f of a name that is read late and of a second value that is reckoned between -/
def fLate (i : Nat) (g : D → D → Option D) (fb : En → Res D) : En → Res D := fun ρ => match slotD ρ i with
  | some _ => (fb ρ).bind fun y ρ1 => ofO ((slotD ρ1 i).bind fun x => g x y) ρ1
  | none => .bad
theorem late_core {K : PySem.W.Frag} {B F0 F H : Hp} {σ : St} {ρ : En} {i : Nat} {g : D → D → Option D} {fb : En → Res D} {Q : VK} {r : R2} {tb : TE}
    (qb : ∀ B F0 F H σ ρ Q, St2 ⟨K, S, B, F0⟩ F H σ ρ → Post (Rep K) ⟨K, S, B, F0⟩ Wx σ F (fb ρ) Q → tb σ H Q) (st : St2 ⟨K, S, B, F0⟩ F H σ ρ) (post : Post (Rep K) ⟨K, S, B, F0⟩ Wx σ F (fLate i g fb ρ) Q)
    (h : ∀ (F2 H2 : Hp) (ρ2 : En) (v u : V) (d e z : D), St2 ⟨K, S, B, F0⟩ F2 H2 σ ρ2 → Rep K F2 u e → g d e = some z → (Rep K F2 v d ∨ ∃ p vs xs, v = .ref p ∧ d = .lst xs ∧ H2 p = some (.lst vs) ∧ RepL K F2 vs xs) →
      (∀ w F' H', Ext F2 H2 F' H' → Rep K F' w z → Q w H') → r v u H2 Q) :
    tOp r (tVar i) tb σ H Q := by
  unfold fLate at post
  split at post
  · rename_i d0 e0
    obtain ⟨v, hvs, _⟩ := slot_cases st e0
    refine ⟨v, hvs, qb B F0 F H σ ρ _ st (post.bind fun e ρ2 u F2 H2 post2 st2 s2 r2 => ?_)⟩
    obtain ⟨z, hz, k⟩ := post2.ofO
    cases es : slotD ρ2 i with
    | none => rw [es] at hz; cases hz
    | some d =>
      rw [es, Option.bind_some] at hz
      obtain ⟨v', h1, h2⟩ := slot_cases st2 es
      rw [hvs] at h1
      cases h1
      exact h F2 H2 ρ2 v u d e z st2 r2 hz h2 fun w F' H' ex rw' => k w F' H' (st2.ext ex) ex.ff rw'
  · exact post.elim
section
variable {x : Str} {b : Expr} {pos pos' : Pos} {fb : En → Res D}
theorem ej_subN (i : Nat) (hb : EJ X Wx S b fb) (hN : X.N[i]? = some x := by rfl) (hv : Vis X.env.scope x := by first | exact Or.inl rfl | exact Or.inr (Or.inl rfl) | exact Or.inr (Or.inr rfl)) (hd : (x == ("__debug__" : Str)) = false := by decide)
    (hcd : (x == ("__classdict__" : Str)) = false := by decide) (hs : PlainIx b := by intro _ _; rfl) : EJ X Wx S (.Subscript (.Name x pos') b pos) (fLate i subD fb) := by
  obtain ⟨tb, pb, qb⟩ := hb.ex
  refine ⟨_, pe_ix ix_seq (pe_var hN hv hd hcd) pb hs, fun B F0 F H σ ρ Q st post => late_core qb st post fun F2 H2 ρ2 v u d e z st2 ru hz hv k => ?_⟩
  rcases hv with hv | ⟨p, vs, xs, rfl, rfl, hp, rl⟩
  · exact sub_rep st2.fz.fH hv ru hz fun w rw' => k w F2 H2 (Ext.refl st2.fz.fH) rw'
  · cases ru <;> (try (cases hz; done))
    rename_i j
    obtain ⟨w, h3, h4⟩ := repL_atI rl hz
    exact .inl ⟨p, vs, j, w, rfl, rfl, .inl (.inl hp), h3, k w F2 H2 (Ext.refl st2.fz.fH) h4⟩
/-- x == e, x != e, x a name that is read late: data -/
theorem ej_cmpN (i : Nat) {op : CmpOp} {n : Bool} (hu : X.A.units + 64 < cLine) (hop : (op = .Eq ∧ n = false) ∨ (op = .NotEq ∧ n = true)) (hb : EJ X Wx S b fb) (hN : X.N[i]? = some x := by rfl) (hv : Vis X.env.scope x := by first | exact Or.inl rfl | exact Or.inr (Or.inl rfl) | exact Or.inr (Or.inr rfl)) (hd : (x == ("__debug__" : Str)) = false := by decide)
    (hcd : (x == ("__classdict__" : Str)) = false := by decide) : EJ X Wx S (.Compare (.Name x pos') [op] [b] pos) (fLate i (if n = true then neD else eqD) fb) := by
  obtain ⟨tb, pb, qb⟩ := hb.ex
  obtain ⟨r, pr, qr⟩ : OpJ X (compareOp op) (if n = true then neD else eqD) := by
    rcases hop with ⟨rfl, rfl⟩ | ⟨rfl, rfl⟩
    · exact oj_eq hu
    · exact oj_ne hu
  refine ⟨_, pe_cmpR pr (pe_var hN hv hd hcd) pb (by rcases hop with ⟨rfl, _⟩ | ⟨rfl, _⟩ <;> exact nomark _), fun B F0 F H σ ρ Q st post => late_core qb st post fun F2 H2 ρ2 v u d e z st2 ru hz hv k => ?_⟩
  rcases hv with hv | ⟨p, vs, xs, rfl, rfl, hp, rl⟩
  · exact qr F2 H2 v u d e z Q st2.fz.fH hv ru hz k
  · -- the whole heap taken as frozen
    refine qr H2 H2 (.ref p) u _ e z Q (Same.refl _) (.lst (.inl (.inl hp)) (rl.mono st2.fz.fH)) (ru.mono st2.fz.fH) hz fun w F' H' ex rw' => ?_
    have hb : ∃ c, z = .bl c := by
      cases n with
      | true =>
        replace hz : neD (.lst xs) e = some z := hz
        unfold neD at hz
        cases eb : eqB (.lst xs) e with
        | none => rw [eb] at hz; cases hz
        | some c => rw [eb] at hz; cases hz; exact ⟨_, rfl⟩
      | false =>
        replace hz : eqD (.lst xs) e = some z := hz
        unfold eqD at hz
        cases eb : eqB (.lst xs) e with
        | none => rw [eb] at hz; cases hz
        | some c => rw [eb] at hz; cases hz; exact ⟨_, rfl⟩
    obtain ⟨c, rfl⟩ := hb
    cases rw'
    exact k _ F2 H' ⟨Same.refl _, st2.fz.fH.trans ex.hh, ex.hh, fun _ _ _ => rfl⟩ (.bl c)
/-- the same as a test -/
theorem tj_cmpN (i : Nat) {op : CmpOp} {n : Bool} (hu : X.A.units + 64 < cLine) (hop : (op = .Eq ∧ n = false) ∨ (op = .NotEq ∧ n = true)) (hb : EJ X Wx S b fb) (hN : X.N[i]? = some x := by rfl) (hv : Vis X.env.scope x := by first | exact Or.inl rfl | exact Or.inr (Or.inl rfl) | exact Or.inr (Or.inr rfl)) (hd : (x == ("__debug__" : Str)) = false := by decide)
    (hcd : (x == ("__classdict__" : Str)) = false := by decide) : TJ X Wx S (.Compare (.Name x pos') [op] [b] pos) (fTst boolD (fLate i (if n = true then neD else eqD) fb)) := by
  obtain ⟨tb, pb, qb⟩ := hb.ex
  obtain ⟨r, pr, qr⟩ : OpJ X (compareOp op) (if n = true then neD else eqD) := by
    rcases hop with ⟨rfl, rfl⟩ | ⟨rfl, rfl⟩
    · exact oj_eq hu
    · exact oj_ne hu
  refine ⟨_, pt_cmpR pr (pe_var hN hv hd hcd) pb (by rcases hop with ⟨rfl, _⟩ | ⟨rfl, _⟩ <;> exact nomark _), fun B F0 F H σ ρ Q st post => ?_⟩
  have post' : Post (Rep X.K) (fx X S B F0) Wx σ F (fLate i (if n = true then neD else eqD) fb ρ) (fun x H' => ∃ k, x = V.bl k ∧ Q k H') := post.bind fun d ρ1 v F1 H1 post1 st1 s1 r1 => by
    obtain ⟨k, hk, q⟩ := post1.ofO
    cases r1 <;> first | cases hk | skip
    exact ⟨_, rfl, q _ F1 H1 st1 (Same.refl _) rfl⟩
  refine late_core qb st post' fun F2 H2 ρ2 v u d e z st2 ru hz hv k => ?_
  rcases hv with hv | ⟨p, vs, xs, rfl, rfl, hp, rl⟩
  · exact qr F2 H2 v u d e z _ st2.fz.fH hv ru hz k
  · refine qr H2 H2 (.ref p) u _ e z _ (Same.refl _) (.lst (.inl (.inl hp)) (rl.mono st2.fz.fH)) (ru.mono st2.fz.fH) hz fun w F' H' ex rw' => ?_
    have hb : ∃ c, z = .bl c := by
      cases n with
      | true =>
        replace hz : neD (.lst xs) e = some z := hz
        unfold neD at hz
        cases eb : eqB (.lst xs) e with
        | none => rw [eb] at hz; cases hz
        | some c => rw [eb] at hz; cases hz; exact ⟨_, rfl⟩
      | false =>
        replace hz : eqD (.lst xs) e = some z := hz
        unfold eqD at hz
        cases eb : eqB (.lst xs) e with
        | none => rw [eb] at hz; cases hz
        | some c => rw [eb] at hz; cases hz; exact ⟨_, rfl⟩
    obtain ⟨c, rfl⟩ := hb
    cases rw'
    exact k _ F2 H' ⟨Same.refl _, st2.fz.fH.trans ex.hh, ex.hh, fun _ _ _ => rfl⟩ (.bl c)
end

/-! ### slices -/
abbrev OJo := En → Res (Option Int)
structure PJ (X : Cx) (Wx : WX) (S : Sx) (e : Option Expr) (f : En → Res (Option Int)) : Prop where
  ex : ∃ t, PO X e t ∧ ∀ B F0 F H σ ρ Q, St2 (fx X S B F0) F H σ ρ → Post (fun _ b c => b = c) (fx X S B F0) Wx σ F (f ρ) Q → t σ H Q
def pNone : En → Res (Option Int) := fun ρ => .ok none ρ
def intD : D → Option (Option Int)
  | .int i => some (some i)
  | _ => none
def pSome (f : En → Res D) : En → Res (Option Int) := fun ρ => (f ρ).bind fun d ρ1 => ofO (intD d) ρ1
theorem pj_none : PJ X Wx S none pNone := ⟨_, po_none, fun B F0 F H σ ρ Q st post => post none F H st (Same.refl _) rfl⟩
theorem pj_some {e : Expr} {f : En → Res D} (h : EJ X Wx S e f) : PJ X Wx S (some e) (pSome f) := by
  obtain ⟨t, p, q⟩ := h.ex
  refine ⟨_, po_some p, fun B F0 F H σ ρ Q st post => q B F0 F H σ ρ _ st (post.bind fun d ρ1 v F1 H1 post1 st1 s1 r1 => ?_)⟩
  obtain ⟨z, hz, k⟩ := post1.ofO
  cases r1 <;> (try (cases hz; done))
  cases hz
  exact ⟨_, rfl, k _ F1 H1 st1 (Same.refl _) rfl⟩
def cutD (xs : List D) (lo hi : Option Int) : List D := (xs.drop (HT.sIx xs.length 0 lo)).take (HT.sIx xs.length xs.length hi - HT.sIx xs.length 0 lo)
def slD (d : D) (lo hi : Option Int) : Option D := match d with
  | .lst xs => some (.lst (cutD xs lo hi))
  | .tup xs => some (.tup (cutD xs lo hi))
  | .str z => if z.length ≤ lim then some (.str (cutS z lo hi)) else none
  | _ => none
theorem cut_rep {K : PySem.W.Frag} {F : Hp} {vs : List V} {ds : List D} (r : RepL K F vs ds) (lo hi : Option Int) : RepL K F (cutV vs lo hi) (cutD ds lo hi) := by
  unfold cutV cutD
  rw [r.length]
  exact (r.drop _).take _
theorem cut_all {ds : List D} {lo hi : Option Int} (h : HT.sIx ds.length 0 lo = 0 ∧ HT.sIx ds.length ds.length hi = ds.length) : cutD ds lo hi = ds := by
  unfold cutD
  rw [h.1, h.2]
  simp
def rSlAny (K : PySem.W.Frag) : V → Option Int → Option Int → Hp → VK → Prop := fun x lo hi H Q => rSlL K x lo hi H Q ∨ (rSlA K x lo hi H Q ∨ rSlS x lo hi H Q)
theorem sl_any : SlR X (rSlAny X.K) := sl_list.or (sl_tupA.or sl_str)
theorem sl_rep {K : PySem.W.Frag} {F H : Hp} {x : V} {d z : D} {lo hi : Option Int} {Q : VK} (s : Same F H) (rx : Rep K F x d) (hz : slD d lo hi = some z) (k : ∀ v F' H', Ext F H F' H' → Rep K F' v z → Q v H') : rSlAny K x lo hi H Q := by
  cases rx <;> (try (cases hz; done))
  · rename_i w
    replace hz : (if w.length ≤ lim then some (D.str (cutS w lo hi)) else none) = some z := hz
    split at hz
    · rename_i hl
      cases hz
      exact .inr (.inr ⟨w, rfl, lim_le hl, k _ F H (Ext.refl s) (.str _)⟩)
    · cases hz
  · rename_i a vs ds h1 h2
    cases hz
    refine .inl ⟨a, vs, rfl, Same.seq s h1, fun p hp => ?_⟩
    have ex := Ext.laid (o := .lst (cutV vs lo hi)) s hp
    exact k _ _ _ ex (.lst (.inl (.inl upd_same)) ((cut_rep h2 lo hi).mono ex.ff))
  · rename_i a vs ds h1 h2
    cases hz
    refine .inr (.inl ⟨a, vs, rfl, Same.seqT s h1, fun hw => ?_, fun _ p hp => ?_⟩)
    · rw [h2.length] at hw
      rw [cut_all hw] at k
      exact k _ F H (Ext.refl s) (.tup h1 h2)
    · have ex := Ext.laid (o := .tup (cutV vs lo hi)) s hp
      exact k _ _ _ ex (.tup (.inl (.inl upd_same)) ((cut_rep h2 lo hi).mono ex.ff))
def fSl (fa : En → Res D) (fl fh : En → Res (Option Int)) : En → Res D := fun ρ => (fa ρ).bind fun d ρ1 => (fl ρ1).bind fun lo ρ2 => (fh ρ2).bind fun hi ρ3 => ofO (slD d lo hi) ρ3
theorem ej_slice {e : Expr} {lo hi : Option Expr} {p2 pos : Pos} {fa : En → Res D} {fl fh : En → Res (Option Int)} (ha : EJ X Wx S e fa) (hl : PJ X Wx S lo fl) (hh : PJ X Wx S hi fh) : EJ X Wx S (.Subscript e (.Slice lo hi none p2) pos) (fSl fa fl fh) := by
  obtain ⟨ta, pa, qa⟩ := ha.ex
  obtain ⟨tl, pl, ql⟩ := hl.ex
  obtain ⟨th, ph, qh⟩ := hh.ex
  refine ⟨_, pe_slice sl_any pa pl ph, fun B F0 F H σ ρ Q st post => ?_⟩
  refine qa B F0 F H σ ρ _ st (post.bind fun d ρ1 v F1 H1 post1 st1 s1 r1 => ?_)
  refine ql B F0 F1 H1 σ ρ1 _ st1 (post1.bind fun l ρ2 u F2 H2 post2 st2 s2 r2 => ?_)
  refine qh B F0 F2 H2 σ ρ2 _ st2 (post2.bind fun h ρ3 w F3 H3 post3 st3 s3 r3 => ?_)
  subst r2 r3
  obtain ⟨z, hz, k⟩ := post3.ofO
  exact sl_rep st3.fz.fH (r1.mono (s2.trans s3)) hz fun v F' H' ex rv => k v F' H' (st3.ext ex) ex.ff rv
end
end PD
set_option Elab.async false
set_option linter.all false
set_option maxRecDepth 100000
set_option maxHeartbeats 4000000
/-! PD9: built-in functions, methods, lists of one's own. -/
namespace PD
open PySem PySem.Spec L2

section
variable {X : Cx} {Wx : WX} {S : Sx}

/-! ### built-in functions and types -/
def CallJ (X : Cx) (f : Value) (g : List D → Option D) : Prop :=
  ∃ r, CallR X f r ∧ ∀ F H vs ds z Q, Same F H → RepL X.K F vs ds → g ds = some z → (∀ v F' H', Ext F H F' H' → Rep X.K F' v z → Q v H') → r vs H Q
theorem CallJ.or {f : Value} {g1 g2 : List D → Option D} (h1 : CallJ X f g1) (h2 : CallJ X f g2) : CallJ X f (fun d => (g1 d).orElse fun _ => g2 d) := by
  obtain ⟨r1, p1, q1⟩ := h1
  obtain ⟨r2, p2, q2⟩ := h2
  refine ⟨_, p1.or p2, fun F H vs ds z Q s rx hz k => ?_⟩
  replace hz : (g1 ds).orElse (fun _ => g2 ds) = some z := hz
  cases e1 : g1 ds with
  | some w =>
    rw [e1] at hz
    cases hz
    exact .inl (q1 F H vs ds _ Q s rx e1 k)
  | none =>
    rw [e1] at hz
    exact .inr (q2 F H vs ds z Q s rx hz k)
theorem CallJ.imp {f : Value} {g g' : List D → Option D} (h : CallJ X f g) (i : ∀ d z, g' d = some z → g d = some z) : CallJ X f g' := by
  obtain ⟨r, p, q⟩ := h
  exact ⟨r, p, fun F H vs ds z Q s rx hz k => q F H vs ds z Q s rx (i ds z hz) k⟩
def fBlt (g : List D → Option D) (fa : En → Res (List D)) : En → Res D := fun ρ => (fa ρ).bind fun ds ρ1 => ofO (g ds) ρ1
section
variable {x : Str} {id T : String} {p pos : Pos} {e : Expr} {es : List Expr} {fa : En → Res (List D)} {g : List D → Option D}
theorem ej_blt (hc : CallJ X (.builtin id) g) (hm : X.mg x = none) (ha : AJ X Wx S (e :: es) fa) (hv : bootBuiltins x = some (.builtin id) := by decide +kernel) (hg : Gl X x := by rfl) (hn : x ≠ "__name__" := by decide) (hdb : (x == ("__debug__" : Str)) = false := by decide)
    (he : starEach (e :: es) X.env = (false, eval e X.env) :: starEach es X.env := by rfl) (hpl : (backTo pos (starEach es X.env)).any (·.1) = false := by rfl) : EJ X Wx S (.Call (.Name x p) (e :: es) [] pos) (fBlt g fa) := by
  obtain ⟨t, pa, qa⟩ := ha.ex
  obtain ⟨r, pr, qr⟩ := hc
  refine ⟨_, pe_callB pr hg hm hv pa hn hdb he hpl, fun B F0 F H σ ρ Q st post => qa B F0 F H σ ρ _ st (post.bind fun ds ρ1 vs F1 H1 post1 st1 s1 r1 => ?_)⟩
  obtain ⟨z, hz, k⟩ := post1.ofO
  exact qr F1 H1 vs ds z Q st1.fz.fH r1 hz fun v F' H' ex rv => k v F' H' (st1.ext ex) ex.ff rv
theorem ej_bty (hc : CallJ X (.type T) g) (hm : X.mg x = none) (ha : AJ X Wx S (e :: es) fa) (hv : bootBuiltins x = some (.type T) := by decide +kernel) (hg : Gl X x := by rfl) (hn : x ≠ "__name__" := by decide) (hdb : (x == ("__debug__" : Str)) = false := by decide)
    (he : starEach (e :: es) X.env = (false, eval e X.env) :: starEach es X.env := by rfl) (hpl : (backTo pos (starEach es X.env)).any (·.1) = false := by rfl) : EJ X Wx S (.Call (.Name x p) (e :: es) [] pos) (fBlt g fa) := by
  obtain ⟨t, pa, qa⟩ := ha.ex
  obtain ⟨r, pr, qr⟩ := hc
  refine ⟨_, pe_callTy pr hg hm hv pa hn hdb he hpl, fun B F0 F H σ ρ Q st post => qa B F0 F H σ ρ _ st (post.bind fun ds ρ1 vs F1 H1 post1 st1 s1 r1 => ?_)⟩
  obtain ⟨z, hz, k⟩ := post1.ofO
  exact qr F1 H1 vs ds z Q st1.fz.fH r1 hz fun v F' H' ex rv => k v F' H' (st1.ext ex) ex.ff rv
end
/-- len -/
def lenOf : D → Option D
  | .lst xs => some (.int xs.length)
  | .tup xs => some (.int xs.length)
  | .str z => if z.length ≤ lim then some (.int z.length) else none
  | _ => none
def lenL : List D → Option D
  | [d] => lenOf d
  | _ => none
theorem repL_1 {K : PySem.W.Frag} {F : Hp} {vs : List V} {d : D} (r : RepL K F vs [d]) : ∃ v, vs = [v] ∧ Rep K F v d := by
  cases r with
  | cons h t => cases t; exact ⟨_, rfl, h⟩
theorem repL_2 {K : PySem.W.Frag} {F : Hp} {vs : List V} {d e : D} (r : RepL K F vs [d, e]) : ∃ v w, vs = [v, w] ∧ Rep K F v d ∧ Rep K F w e := by
  cases r with
  | cons h t =>
    obtain ⟨w, rfl, h2⟩ := repL_1 t
    exact ⟨_, w, rfl, h, h2⟩
theorem len_rep {K : PySem.W.Frag} {F H : Hp} {v : V} {d z : D} (s : Same F H) (r : Rep K F v d) (h : lenOf d = some z) : ∃ n : Nat, LenV K v H n ∧ z = .int n := by
  cases r <;> (try (cases h; done))
  · rename_i x
    replace h : (if x.length ≤ lim then some (D.int x.length) else none) = some z := h
    split at h
    · rename_i hl
      cases h
      exact ⟨_, ⟨lim_le hl, rfl⟩, rfl⟩
    · cases h
  · rename_i a vs ds h1 h2
    cases h
    exact ⟨_, .inl ⟨vs, Same.seq s h1, h2.length.symm⟩, rfl⟩
  · rename_i a vs ds h1 h2
    cases h
    exact ⟨_, .inr ⟨vs, Same.seqT s h1, h2.length.symm⟩, rfl⟩
theorem cj_len : CallJ X (.builtin "len") lenL := by
  refine ⟨_, call_len, fun F H vs ds z Q s rx hz k => ?_⟩
  match ds, hz with
  | [d], hz =>
    obtain ⟨v, rfl, rv⟩ := repL_1 rx
    obtain ⟨n, hn, rfl⟩ := len_rep s rv hz
    exact ⟨v, n, rfl, hn, k _ F H (Ext.refl s) (.int _)⟩
/-- len(x), x a name that is read late -/
def fLenN (i : Nat) : En → Res D := fun ρ => ofO ((slotD ρ i).bind lenOf) ρ
theorem ej_lenN (i : Nat) {x : Str} {p p' pos : Pos} (hm : X.mg "len" = none) (hN : X.N[i]? = some x := by rfl) (hv : Vis X.env.scope x := by first | exact Or.inl rfl | exact Or.inr (Or.inl rfl) | exact Or.inr (Or.inr rfl)) (hd : (x == ("__debug__" : Str)) = false := by decide)
    (hcd : (x == ("__classdict__" : Str)) = false := by decide) (hg : Gl X "len" := by rfl) (hs : starEach [.Name x p'] X.env = (false, eval (.Name x p') X.env) :: starEach [] X.env := by rfl) (hpl : (backTo pos (starEach [] X.env)).any (·.1) = false := by rfl) :
    EJ X Wx S (.Call (.Name "len" p) [.Name x p'] [] pos) (fLenN i) := by
  refine ⟨_, pe_callB call_len hg hm PySem.boot_len (pa_cons (pe_var hN hv hd hcd) pa_nil hs) (by decide) (by decide) hs hpl, fun B F0 F H σ ρ Q st post => ?_⟩
  obtain ⟨z, hz, k⟩ := post.ofO
  cases es : slotD ρ i with
  | none => rw [es] at hz; cases hz
  | some d =>
    rw [es, Option.bind_some] at hz
    obtain ⟨v, h1, h2⟩ := slot_cases st es
    refine ⟨v, h1, v, ?_⟩
    rcases h2 with h2 | ⟨p, vs, xs, rfl, rfl, hp, rl⟩
    · obtain ⟨n, hn, rfl⟩ := len_rep st.fz.fH h2 hz
      exact ⟨n, rfl, hn, k _ F H st (Same.refl _) (.int _)⟩
    · cases hz
      exact ⟨xs.length, rfl, .inl ⟨vs, .inl (.inl hp), rl.length.symm⟩, k _ F H st (Same.refl _) (.int _)⟩
/-- int -/
def intL : List D → Option D
  | [.int i] => some (.int i)
  | [.bl k] => some (.int (if k then 1 else 0))
  | _ => none
theorem cj_int : CallJ X (.type "int") intL := by
  refine ⟨_, call_int1, fun F H vs ds z Q s rx hz k => ?_⟩
  match ds, hz with
  | [.int i], hz =>
    obtain rfl := repL_int1 rx
    cases hz
    exact .inl ⟨i, rfl, k _ F H (Ext.refl s) (.int _)⟩
  | [.bl b], hz =>
    obtain ⟨v, rfl, rv⟩ := repL_1 rx
    cases rv
    cases hz
    exact .inr ⟨b, rfl, k _ F H (Ext.refl s) (.int _)⟩
/-- min, max -/
def intsOf : List D → Option (List Int)
  | [] => some []
  | .int i :: r => (intsOf r).map fun l => i :: l
  | _ :: _ => none
theorem intsOf_some {ds : List D} : ∀ {ns : List Int}, intsOf ds = some ns → ds = ns.map D.int := by
  induction ds with
  | nil => intro ns h; cases h; rfl
  | cons d r ih =>
    intro ns h
    cases d <;> (try (cases h; done))
    rename_i i
    unfold intsOf at h
    cases e : intsOf r with
    | none => rw [e] at h; cases h
    | some l =>
      rw [e] at h
      cases h
      rw [ih e]
      rfl
def minI (l : List Int) : Option Int := l.min?
def maxI (l : List Int) : Option Int := l.max?
def min2 : List D → Option D
  | [.int i, .int j] => some (.int (if j < i then j else i))
  | _ => none
def max2 : List D → Option D
  | [.int i, .int j] => some (.int (if j > i then j else i))
  | _ => none
theorem cj_min2 (hc : X.calm = true := by rfl) : CallJ X (.builtin "min") min2 := by
  refine ⟨_, call_min2 hc, fun F H vs ds z Q s rx hz k => ?_⟩
  match ds, hz with
  | [.int i, .int j], hz =>
    obtain rfl := repL_int2 rx
    cases hz
    exact ⟨i, j, rfl, k _ F H (Ext.refl s) (.int _)⟩
theorem cj_max2 (hc : X.calm = true := by rfl) : CallJ X (.builtin "max") max2 := by
  refine ⟨_, call_max2 hc, fun F H vs ds z Q s rx hz k => ?_⟩
  match ds, hz with
  | [.int i, .int j], hz =>
    obtain rfl := repL_int2 rx
    cases hz
    exact ⟨i, j, rfl, k _ F H (Ext.refl s) (.int _)⟩
def min3 : List D → Option D
  | [.int i, .int j, .int l] => some (.int (let m := if j < i then j else i; if l < m then l else m))
  | _ => none
theorem cj_min3 (hc : X.calm = true := by rfl) : CallJ X (.builtin "min") min3 := by
  refine ⟨_, call_min3Nu hc, fun F H vs ds z Q s rx hz k => ?_⟩
  match ds, hz with
  | [.int i, .int j, .int l], hz =>
    obtain rfl := repL_int3 rx
    cases hz
    refine ⟨.int i, .int j, .int l, .int (let m := if j < i then j else i; if l < m then l else m), rfl, ?_, k _ F H (Ext.refl s) (.int _)⟩
    have e1 : nuMin2 (V.int i) (V.int j) = some (V.int (if j < i then j else i)) := by
      show (some (decide (j < i))).map (fun c => if c = true then V.int j else V.int i) = _
      by_cases h : j < i <;> simp [h]
    show (nuMin2 (V.int i) (V.int j)).bind (fun m => nuMin2 m (V.int l)) = _
    rw [e1, Option.bind_some]
    generalize (if j < i then j else i) = m
    show (some (decide (l < m))).map (fun c => if c = true then V.int l else V.int m) = _
    by_cases h : l < m <;> simp [h]
def minLs : List D → Option D
  | [.lst xs] => (intsOf xs).bind fun ns => (ns.min?).map D.int
  | _ => none
def maxLs : List D → Option D
  | [.lst xs] => (intsOf xs).bind fun ns => (ns.max?).map D.int
  | _ => none
theorem min_least {ns : List Int} {m : Int} (h : m ∈ ns) (h2 : ∀ y, y ∈ ns → m ≤ y) : ns.min? = some m := by
  rw [List.min?_eq_some_iff]
  exact ⟨h, h2⟩
theorem max_most {ns : List Int} {m : Int} (h : m ∈ ns) (h2 : ∀ y, y ∈ ns → y ≤ m) : ns.max? = some m := by
  rw [List.max?_eq_some_iff]
  exact ⟨h, h2⟩
theorem cj_minLs (hc : X.calm = true := by rfl) : CallJ X (.builtin "min") minLs := by
  refine ⟨_, cr_min hc, fun F H vs ds z Q s rx hz k => ?_⟩
  match ds, hz with
  | [.lst xs], hz =>
    obtain ⟨v, rfl, rv⟩ := repL_1 rx
    cases rv with
    | @lst a us ds h1 h2 =>
      replace hz : (intsOf xs).bind (fun ns => (ns.min?).map D.int) = some z := hz
      cases e : intsOf xs with
      | none => rw [e] at hz; cases hz
      | some ns =>
        rw [e, Option.bind_some] at hz
        have e2 := intsOf_some e
        subst e2
        have e3 := RepL.ints_inv h2
        subst e3
        refine ⟨a, ns, rfl, Same.seq s h1, ?_, fun m hm hl => ?_⟩
        · cases ns with
          | nil => cases hz
          | cons n r => exact Nat.succ_pos _
        · rw [min_least hm hl] at hz
          cases hz
          exact k _ F H (Ext.refl s) (.int _)
theorem cj_maxLs (hc : X.calm = true := by rfl) : CallJ X (.builtin "max") maxLs := by
  refine ⟨_, cr_max hc, fun F H vs ds z Q s rx hz k => ?_⟩
  match ds, hz with
  | [.lst xs], hz =>
    obtain ⟨v, rfl, rv⟩ := repL_1 rx
    cases rv with
    | @lst a us ds h1 h2 =>
      replace hz : (intsOf xs).bind (fun ns => (ns.max?).map D.int) = some z := hz
      cases e : intsOf xs with
      | none => rw [e] at hz; cases hz
      | some ns =>
        rw [e, Option.bind_some] at hz
        have e2 := intsOf_some e
        subst e2
        have e3 := RepL.ints_inv h2
        subst e3
        refine ⟨a, ns, rfl, Same.seq s h1, ?_, fun m hm hl => ?_⟩
        · cases ns with
          | nil => cases hz
          | cons n r => exact Nat.succ_pos _
        · rw [max_most hm hl] at hz
          cases hz
          exact k _ F H (Ext.refl s) (.int _)
def minL : List D → Option D
  | [.int i, .int j] => some (.int (if j < i then j else i))
  | [.int i, .int j, .int l] => some (.int (let m := if j < i then j else i; if l < m then l else m))
  | [.lst xs] => (intsOf xs).bind fun ns => (ns.min?).map D.int
  | _ => none
def maxL : List D → Option D
  | [.int i, .int j] => some (.int (if j > i then j else i))
  | [.lst xs] => (intsOf xs).bind fun ns => (ns.max?).map D.int
  | _ => none
theorem cj_min (hc : X.calm = true := by rfl) : CallJ X (.builtin "min") minL := (CallJ.or (cj_min2 hc) (CallJ.or (cj_min3 hc) (cj_minLs hc))).imp fun d z h => by
  unfold minL at h
  split at h
  · exact h
  · exact h
  · exact h
  · cases h
theorem cj_max (hc : X.calm = true := by rfl) : CallJ X (.builtin "max") maxL := (CallJ.or (cj_max2 hc) (cj_maxLs hc)).imp fun d z h => by
  unfold maxL at h
  split at h
  · exact h
  · exact h
  · cases h
/-- isinstance(x, T), T a built-in type -/
def tyN : D → Option String
  | .non => some "NoneType"
  | .bl _ => some "bool"
  | .int _ => some "int"
  | .str _ => some "str"
  | .lst _ => some "list"
  | .tup _ => some "tuple"
  | .dic _ => some "dict"
  | .dit _ => some "dict"
  | _ => none
def isiL : List D → Option D
  | [d, .ty n] => (tyN d).bind fun t => (kitB t n).map D.bl
  | _ => none
theorem tyX_rep {K : PySem.W.Frag} {F H : Hp} {v : V} {d : D} {t : String} (s : Same F H) (r : Rep K F v d) (h : tyN d = some t) : TyX K H v (.type t) := by
  cases r <;> (try (cases h; done)) <;> cases h
  · exact .base .non
  · exact .base (.bl _)
  · exact .base (.int _)
  · exact .base (.str _)
  · rename_i a vs ds h1 h2
    rcases h1 with (h1 | ⟨o, h1⟩) | ⟨o, its, n, h1, h2, _⟩
    · exact .base (.lst (s _ _ h1))
    · exact .base (.frz (s _ _ h1))
    · exact .kList h1 h2
  · rename_i a vs ds h1 h2
    rcases h1 with (h1 | ⟨o, h1⟩) | ⟨o, its, n, h1, h2, _⟩
    · exact .base (.tup (s _ _ h1))
    · exact .fTuple (s _ _ h1)
    · exact .kTuple h1 h2
  · rename_i h1 h2
    exact .base (.dK (s _ _ h1))
  · rename_i h1 h2
    exact .base (.dT (s _ _ h1))
theorem cj_isi : CallJ X (.builtin "isinstance") isiL := by
  refine ⟨_, call_isi, fun F H vs ds z Q s rx hz k => ?_⟩
  match ds, hz with
  | [d, .ty n], hz =>
    obtain ⟨v, w, rfl, rv, rw'⟩ := repL_2 rx
    cases rw'
    replace hz : (tyN d).bind (fun t => (kitB t n).map D.bl) = some z := hz
    cases e : tyN d with
    | none => rw [e] at hz; cases hz
    | some t =>
      rw [e, Option.bind_some] at hz
      cases e2 : kitB t n with
      | none => rw [e2] at hz; cases hz
      | some b =>
        rw [e2] at hz
        cases hz
        exact ⟨v, .ty n, .type t, .type n, b, rfl, .ty n, tyX_rep s rv e, kit_ty e2, k _ F H (Ext.refl s) (.bl b)⟩
/-- list(x), tuple(x) -/
def tupleL : List D → Option D
  | [.lst xs] => some (.tup xs)
  | [.tup xs] => some (.tup xs)
  | _ => none
theorem cj_tuple : CallJ X (.type "tuple") tupleL := by
  refine ⟨_, call_tuple_of, fun F H vs ds z Q s rx hz k => ?_⟩
  match ds, hz with
  | [.lst xs], hz =>
    obtain ⟨v, rfl, rv⟩ := repL_1 rx
    cases rv with
    | @lst a us ds h1 h2 =>
      cases hz
      refine ⟨a, us, rfl, .inl ⟨Same.seq s h1, fun p hp => ?_⟩⟩
      have ex := Ext.laid (o := .tup us) s hp
      exact k _ _ _ ex (.tup (.inl (.inl upd_same)) (h2.mono ex.ff))
  | [.tup xs], hz =>
    obtain ⟨v, rfl, rv⟩ := repL_1 rx
    cases rv with
    | @tup a us ds h1 h2 =>
      cases hz
      exact ⟨a, us, rfl, .inr ⟨Same.seqT s h1, k _ F H (Ext.refl s) (.tup h1 h2)⟩⟩
/-- list(x): a fresh list -/
def listL : List D → Option (List D)
  | [.lst xs] => some xs
  | [.tup xs] => some xs
  | _ => none
def oList (fa : En → Res (List D)) : En → Res (List D) := fun ρ => (fa ρ).bind fun ds ρ1 => ofO (listL ds) ρ1
theorem PostO.ofO {Z : Fx} {σ : St} {F : Hp} {o : Option (List D)} {ρ : En} {Q : VK} (post : PostO Z Wx σ F (ofO o ρ) Q) : ∃ xs, o = some xs ∧ PostO Z Wx σ F (.ok xs ρ) Q := by
  cases o with
  | none => exact post.elim
  | some a => exact ⟨a, rfl, post⟩
theorem oj_list {p pos : Pos} {e : Expr} {fa : En → Res (List D)} (hm : X.mg "list" = none) (ha : AJ X Wx S [e] fa) (hg : Gl X "list" := by rfl)
    (he : starEach [e] X.env = (false, eval e X.env) :: starEach [] X.env := by rfl) (hpl : (backTo pos (starEach [] X.env)).any (·.1) = false := by rfl) : OJ X Wx S (.Call (.Name "list" p) [e] [] pos) (oList fa) := by
  obtain ⟨t, pa, qa⟩ := ha.ex
  refine ⟨_, pe_callTy call_list_of hg hm (by decide +kernel) pa (by decide) (by decide) he hpl, fun B F0 F H σ ρ Q st post => qa B F0 F H σ ρ _ st (post.bind fun ds ρ1 vs F1 H1 post1 st1 s1 r1 => ?_)⟩
  obtain ⟨xs, hz, k⟩ := post1.ofO
  match ds, hz with
  | [.lst xs], hz =>
    obtain ⟨v, rfl, rv⟩ := repL_1 r1
    cases rv with
    | @lst a us ds h1 h2 =>
      cases hz
      exact ⟨a, us, rfl, .inl (Same.seq st1.fz.fH h1), fun l hl => fresh_lst k st1 h2 hl⟩
  | [.tup xs], hz =>
    obtain ⟨v, rfl, rv⟩ := repL_1 r1
    cases rv with
    | @tup a us ds h1 h2 =>
      cases hz
      exact ⟨a, us, rfl, .inr (Same.seqT st1.fz.fH h1), fun l hl => fresh_lst k st1 h2 hl⟩
/-- list(range(n)), list(range(a, b)) -/
def okL (a b : Int) : Bool := okR a && okR b && decide ((b - a).toNat ≤ 100000)
def oRange1 (f : En → Res D) : En → Res (List D) := fun ρ => (f ρ).bind fun d ρ1 => match d with
  | .int n => if okL 0 n = true then .ok (dRange 0 n.toNat) ρ1 else .bad
  | _ => .bad
theorem okL_ok {a b : Int} (h : okL a b = true) : RgOk a b := by
  unfold okL at h
  rw [Bool.and_eq_true, Bool.and_eq_true] at h
  obtain ⟨h1, h2⟩ := okR_ok h.1.1
  obtain ⟨h3, h4⟩ := okR_ok h.1.2
  have h5 := of_decide_eq_true h.2
  exact ⟨h1, h2, h3, h4, by omega⟩
theorem rgV_rep {K : PySem.W.Frag} {F : Hp} (a b : Int) : RepL K F (rgV a b) (dRange a (b - a).toNat) := by
  unfold rgV dRange
  have : ∀ l : List Nat, RepL K F (l.map fun i => V.int (a + (i : Nat))) (l.map fun i => D.int (a + (i : Nat))) := by
    intro l
    induction l with
    | nil => exact .nil
    | cons x r ih => exact .cons (.int _) ih
  exact this _
theorem oj_listRange {p p2 pos pos2 : Pos} {e : Expr} {f : En → Res D} (hm : X.mg "list" = none) (hm2 : X.mg "range" = none) (he : EJ X Wx S e f) (hg : Gl X "list" := by rfl) (hg2 : Gl X "range" := by rfl) (hc : X.calm = true := by rfl)
    (na : starEach [.Call (.Name "range" p2) [e] [] pos2] X.env = (false, eval (.Call (.Name "range" p2) [e] [] pos2) X.env) :: starEach [] X.env := by rfl) (nb : starEach [e] X.env = (false, eval e X.env) :: starEach [] X.env := by rfl) :
    OJ X Wx S (.Call (.Name "list" p) [.Call (.Name "range" p2) [e] [] pos2] [] pos) (oRange1 f) := by
  obtain ⟨t, pa, qa⟩ := he.ex
  refine ⟨_, pe_listRg hc hg hm (prg_1 hg2 hm2 pa nb) na, fun B F0 F H σ ρ Q st post => qa B F0 F H σ ρ _ st (post.bind fun d ρ1 v F1 H1 post1 st1 s1 r1 => ?_)⟩
  cases r1 <;> (try exact post1.elim)
  rename_i n
  replace post1 : PostO (fx X S B F0) Wx σ F1 (if okL 0 n = true then .ok (dRange 0 n.toNat) ρ1 else .bad) Q := post1
  split at post1
  · rename_i hl
    refine ⟨n, rfl, okL_ok hl, fun q hq => ?_⟩
    have r := rgV_rep (K := X.K) (F := F1) 0 n
    have e0 : (n - 0).toNat = n.toNat := by omega
    rw [e0] at r
    exact fresh_lst post1 st1 r hq
  · exact post1.elim

/-! ### lists of one's own -/
def ownAt (ρ : En) (i : Nat) : Option (List D) := match ρ[i]? with
  | some (.own xs) => some xs
  | _ => none
theorem ownAt_some {ρ : En} {i : Nat} {xs : List D} (h : ownAt ρ i = some xs) : ρ[i]? = some (.own xs) := by
  unfold ownAt at h
  split at h
  · rename_i e
    cases h
    exact e
  · cases h
def sApp (i : Nat) (f : En → Res D) : En → Fl := fun ρ => match ownAt ρ i with
  | none => .bad
  | some _ => (f ρ).fl fun d ρ1 => match ownAt ρ1 i with
    | some xs => if xs.length < lim then .nx (ρ1.set i (.own (xs ++ [d]))) else .bad
    | none => .bad
theorem sj_app (i : Nat) {x : Str} {e : Expr} {f : En → Res D} {p apos cpos pos : Pos} (he : EJ X Wx S e f) (hN : X.N[i]? = some x := by rfl) (hv : Vis X.env.scope x := by first | exact Or.inl rfl | exact Or.inr (Or.inl rfl) | exact Or.inr (Or.inr rfl)) (hd : (x == ("__debug__" : Str)) = false := by decide)
    (hcd : (x == ("__classdict__" : Str)) = false := by decide) (hbase : attributeBase (.Name x p) "append" X.env (eval (.Name x p) X.env) = eval (.Name x p) X.env := by rfl)
    (hfew : ((backTo cpos (starEach [e] X.env)).all (fun x => !x.1) && (backToKw cpos (keywordEach [] X.env)).all (fun x => x.1.isSome)
      && decide (([e] : List Expr).length + ([] : List Keyword).length + (if ([] : List Keyword).isEmpty then 0 else 1) < 30)) = true := by rfl)
    (hline : (apos.endLine == cpos.line) = true := by rfl) (hs : starEach [e] X.env = (false, eval e X.env) :: starEach [] X.env := by rfl) (hplain : (backTo cpos (starEach [] X.env)).any (·.1) = false := by rfl)
    (hsw : swapsWith (.Call (.Attribute (.Name x p) "append" apos) [e] [] cpos) none pos.line X.env = pure false := by rfl) :
    SJ X Wx S (.Expr (.Call (.Attribute (.Name x p) "append" apos) [e] [] cpos) pos) (sApp i f) := by
  obtain ⟨t, pa, qa⟩ := he.ex
  refine ⟨_, ps_expr (pe_bm PySem.F.plainAttrs_list PySem.F.slot_list_append PySem.F.type_list_append mt_append (pe_var hN hv hd hcd) (pa_cons pa pa_nil hs) hbase hfew hline hs hplain) hsw, fun B F0 F H σ ρ E st post => ?_⟩
  unfold sApp at post
  cases e0 : ownAt ρ i with
  | none => rw [e0] at post; exact post.elim
  | some xs0 =>
    simp only [e0] at post
    obtain ⟨p0, vs0, h1, h2, _⟩ := st.atO i xs0 (ownAt_some e0)
    refine ⟨.ref p0, h1, .inl ⟨rfl, vs0, .inl (.inl h2)⟩, qa B F0 F H σ ρ _ st (fl_post post fun d ρ1 v F1 H1 post1 st1 s1 r1 => ?_)⟩
    cases e1 : ownAt ρ1 i with
    | none => simp only [e1] at post1; exact post1.elim
    | some xs =>
      simp only [e1] at post1
      split at post1
      · rename_i hl
        obtain ⟨p1, vs, h3, h4, h5, h6, h7⟩ := st1.atO i xs (ownAt_some e1)
        rw [h1] at h3
        cases h3
        refine ⟨p0, vs, v, rfl, rfl, h4, lim_lt (by rw [h7.length]; exact hl), ?_⟩
        exact post1 σ F1 _ (st1.change (ownAt_some e1) h1 (h7.snoc r1)) (Same.refl _)
      · exact post1.elim
/-- x.pop() -/
def fPop (i : Nat) : En → Res D := fun ρ => match ownAt ρ i with
  | none => .bad
  | some xs => match xs[xs.length - 1]? with
    | some d => .ok d (ρ.set i (.own xs.dropLast))
    | none => .bad
theorem ej_pop (i : Nat) {x : Str} {p apos cpos : Pos} (hN : X.N[i]? = some x := by rfl) (hv : Vis X.env.scope x := by first | exact Or.inl rfl | exact Or.inr (Or.inl rfl) | exact Or.inr (Or.inr rfl)) (hd : (x == ("__debug__" : Str)) = false := by decide)
    (hcd : (x == ("__classdict__" : Str)) = false := by decide) (hbase : attributeBase (.Name x p) "pop" X.env (eval (.Name x p) X.env) = eval (.Name x p) X.env := by rfl) (hline : (apos.endLine == cpos.line) = true := by rfl) :
    EJ X Wx S (.Call (.Attribute (.Name x p) "pop" apos) [] [] cpos) (fPop i) := by
  refine ⟨_, pe_bm0 PySem.F.plainAttrs_list PySem.F.slot_list_pop PySem.F.type_list_pop mt_pop (pe_var hN hv hd hcd) hbase hline, fun B F0 F H σ ρ Q st post => ?_⟩
  unfold fPop at post
  cases e0 : ownAt ρ i with
  | none => rw [e0] at post; exact post.elim
  | some xs =>
    simp only [e0] at post
    obtain ⟨p0, vs, h1, h2, h3, h4, h5⟩ := st.atO i xs (ownAt_some e0)
    cases e1 : xs[xs.length - 1]? with
    | none => simp only [e1] at post; exact post.elim
    | some d =>
      simp only [e1] at post
      obtain ⟨v, h6, h7⟩ := h5.get e1
      refine ⟨.ref p0, h1, .inl ⟨rfl, vs, .inl (.inl h2)⟩, p0, vs, v, rfl, rfl, h2, by rw [h5.length]; exact h6, ?_⟩
      exact post v F _ (st.change (ownAt_some e0) h1 h5.dropLast) (Same.refl _) h7

/-! ### texts -/
/-- sep.join(list of texts) -/
def strsOf : List D → Option (List Str)
  | [] => some []
  | .str i :: r => (strsOf r).map fun l => i :: l
  | _ :: _ => none
theorem strsOf_some {ds : List D} : ∀ {ns : List Str}, strsOf ds = some ns → ds = ns.map D.str := by
  induction ds with
  | nil => intro ns h; cases h; rfl
  | cons d r ih =>
    intro ns h
    cases d <;> (try (cases h; done))
    rename_i i
    unfold strsOf at h
    cases e : strsOf r with
    | none => rw [e] at h; cases h
    | some l =>
      rw [e] at h
      cases h
      rw [ih e]
      rfl
def joinD (a : Str) (e : D) : Option D := (seqOf e).bind fun xs => (strsOf xs).bind fun ys => if (ys.map (·.length)).sum + ys.length * a.length ≤ lim then some (.str (Txt.join a ys)) else none
theorem lim_16 {n : Nat} (h : n ≤ lim) : n ≤ 16777216 := Nat.le_trans h (by decide)
def fJoin (fo fe : En → Res D) : En → Res D := fun ρ => (fo ρ).bind fun d ρ1 => match d with
  | .str a => (fe ρ1).bind fun e ρ2 => ofO (joinD a e) ρ2
  | _ => .bad
theorem ej_join {o e : Expr} {apos cpos : Pos} {fo fe : En → Res D} (ho : EJ X Wx S o fo) (he : EJ X Wx S e fe) (hbase : attributeBase o "join" X.env (eval o X.env) = eval o X.env := by rfl)
    (hline : (apos.endLine == cpos.line) = true := by rfl) (hs : starEach [e] X.env = [(false, eval e X.env)] := by rfl) : EJ X Wx S (.Call (.Attribute o "join" apos) [e] [] cpos) (fJoin fo fe) := by
  obtain ⟨t, pa, qa⟩ := ho.ex
  obtain ⟨u, pb, qb⟩ := he.ex
  refine ⟨_, pe_join pa pb hs hbase hline, fun B F0 F H σ ρ Q st post => qa B F0 F H σ ρ _ st (post.bind fun d ρ1 v F1 H1 post1 st1 s1 r1 => ?_)⟩
  cases r1 <;> (try exact post1.elim)
  rename_i a
  refine ⟨⟨a, rfl⟩, qb B F0 F1 H1 σ ρ1 _ st1 (post1.bind fun e ρ2 w F2 H2 post2 st2 s2 r2 => ?_)⟩
  obtain ⟨z, hz, k⟩ := post2.ofO
  unfold joinD at hz
  cases e1 : seqOf e with
  | none => rw [e1] at hz; cases hz
  | some xs =>
    rw [e1, Option.bind_some] at hz
    cases e2 : strsOf xs with
    | none => rw [e2] at hz; cases hz
    | some ys =>
      rw [e2, Option.bind_some] at hz
      split at hz
      · rename_i hl
        cases hz
        have e3 := strsOf_some e2
        subst e3
        cases r2 <;> (try (cases e1; done)) <;> cases e1
        · rename_i p us h1 h2
          have e4 := RepL.strs_inv h2
          subst e4
          exact ⟨a, p, ys, rfl, rfl, .inl (Same.seq st2.fz.fH h1), lim_16 hl, k _ F2 H2 st2 (Same.refl _) (.str _)⟩
        · rename_i p us h1 h2
          have e4 := RepL.strs_inv h2
          subst e4
          exact ⟨a, p, ys, rfl, rfl, .inr (Same.seqT st2.fz.fH h1), lim_16 hl, k _ F2 H2 st2 (Same.refl _) (.str _)⟩
      · cases hz
end
end PD
set_option Elab.async false
set_option linter.all false
set_option maxRecDepth 100000
set_option maxHeartbeats 4000000
/-! PDE: enumerate of a tuple, of a text. -/
namespace PD
open PySem PySem.Spec PyProof.Rows
section
variable {prog : Program} {w : World} {A : Around} {E : Value → Shared → Prop} {s : Shared}
theorem meets_enum1 {v : Value} {o : Obj} {H : Heap → Prop} (B : Begins v o H) :
    Meets (Builtin.«enumerate.__new__» ⟨[.type "enumerate", v], []⟩) (fun _ R s => H s.heap ∧
      R (.ok (.ret (.ref (s.heap.push o).objs.size))) { s with heap := (s.heap.push o).push { cls := .type "enumerate", data := .fields #[.none, .bool false, .ref s.heap.objs.size, rawInt 0, .none, .none] } }) :=
  .of_wp fun prog w A R s h => by
    obtain ⟨hp, g, d, tk, os⟩ := s
    obtain ⟨h1, h⟩ := h
    have hsub := sub_enumerate
    have q1 : ∀ {A' : Around} {E : Value → Shared → Prop} {Q : Value → Shared → Prop}, Q (.ref hp.objs.size) ⟨hp.push o, g, d, tk, os⟩ → wpAny (model prog w) A' (pyIter v) Q E ⟨hp, g, d, tk, os⟩ :=
      fun q => B.iter prog w _ _ ⟨hp, g, d, tk, os⟩ _ h1 q
    wp_walk
    refine wpAny_stack_any fun st => wpAny_pure ?_
    split
    · rename_i c _ _ _ _ _
      cases (c == Value.type "enumerate")
      · wp_walk using q1
        exact ⟨_, rfl, h⟩
      · wp_walk using q1
        exact ⟨_, rfl, h⟩
    · wp_walk using q1
      exact ⟨_, rfl, h⟩
theorem call_enum1 {v : Value} {o : Obj} {H : Heap → Prop} {Q : Value → Shared → Prop} (B : Begins v o H) (h1 : H s.heap)
    (h : ∀ h', IsEnum h' (s.heap.objs.size + 1) s.heap.objs.size 0 .none → h'.get? s.heap.objs.size = some o → h'.objs.size = s.heap.objs.size + 2 →
      (∀ b o, s.heap.get? b = some o → h'.get? b = some o) → Q (.ref (s.heap.objs.size + 1)) { s with heap := h' }) :
    wpAny (model prog w) A (call (.type "enumerate") [v]) Q E s := by
  refine callType_new F.called_enumerate (by decide) (F.typeCall_enumerate_1 _) (F.newCall_enumerate_1 _) (fun obj => F.args_object_init_2 obj _) F.entry_enumerate_new
    (meets_enum1 B) ⟨h1, ?_⟩
  have hz : (s.heap.push o).objs.size = s.heap.objs.size + 1 := Heap.size_push ..
  show _ ∧ _
  rw [hz]
  have he : IsEnum ((s.heap.push o).push { cls := .type "enumerate", data := .fields #[.none, .bool false, .ref s.heap.objs.size, rawInt 0, .none, .none] }) (s.heap.objs.size + 1) s.heap.objs.size 0 .none := by
    have := Heap.get?_push_size (s.heap.push o) (o := { cls := .type "enumerate", data := .fields #[.none, .bool false, .ref s.heap.objs.size, rawInt 0, .none, .none] }) rfl
    rw [hz] at this; exact this
  refine ⟨⟨_, he, rfl⟩, h _ he (Heap.get?_push_of_some _ (Heap.get?_push_size _ B.free)) (by rw [Heap.size_push, hz]) fun b o x => Heap.get?_push_of_some _ (Heap.get?_push_of_some _ x)⟩
end
end PD
namespace PD
open PySem PySem.Spec L2
/-- pairs of a number and an item that stands for ever -/
def Ites (xs : Nat → Option V) (n : Nat) : It := ⟨fun i _ => i < n, fun i H v H' => ∃ T x, v = .ref T ∧ H T = none ∧ H' = upd H T (.tup [.int (i : Nat), x]) ∧ xs i = some x, fun i _ => n ≤ i⟩
def Itet (K : PySem.W.Frag) (a : Addr) : It :=
  ⟨fun i H => ∃ (xs : List V) (x : V), SqT K H a xs ∧ xs[i]? = some x, fun i H v H' => ∃ T x, v = .ref T ∧ H T = none ∧ H' = upd H T (.tup [.int (i : Nat), x]) ∧ ∀ xs, SqT K H a xs → xs[i]? = some x, fun i H => ∃ xs : List V, SqT K H a xs ∧ xs.length ≤ i⟩
theorem walk_enumS {xs : Nat → Option V} {n : Nat} : Walk (Ites xs n) n (fun _ => True) (YPair (fun i => some (.int (i : Nat))) xs) :=
  ⟨fun _ _ hi _ => hi, fun _ _ => Nat.le_refl _, fun i H v H' _ _ y => by
    obtain ⟨T, x, h1, h2, h3, h4⟩ := y
    exact ⟨T, .int (i : Nat), x, h1, h2, h3, rfl, h4⟩⟩
theorem walk_enumT {K : PySem.W.Frag} {a : Addr} {xs : List V} : Walk (Itet K a) xs.length (fun H => SqT K H a xs) (YPair (fun i => some (.int (i : Nat))) (fun i => xs[i]?)) := by
  refine ⟨fun i _ hi q => ⟨xs, xs[i], q, by simp [hi]⟩, fun _ q => ⟨xs, q, Nat.le_refl _⟩, fun i H v H' _ q y => ?_⟩
  obtain ⟨T, x, h1, h2, h3, h4⟩ := y
  exact ⟨T, .int (i : Nat), x, h1, h2, h3, rfl, h4 xs q⟩
def signV (z : Str) (i : Nat) : Option V := z.cps[i]?.map fun c => V.str ⟨#[c]⟩
theorem turn_enumS {P : Program} {w : World} {K : PySem.W.Frag} {elts : List Expr} {kk : Nat} {tpos : Pos} (z : Str) (t : Tok) (e it : Addr) :
    Turn P w K (.Tuple elts kk tpos) (Ites (signV z) z.cps.size) [e, it] e (fun i h => (∃ old, IsEnum h e it ((i : Nat) : Int) old) ∧ h.IsStrIter it (strIterType z) z t i ∧ e ≠ it ∧ i ≤ z.cps.size) where
  mem := by simp
  obj := fun i h st b hb => by
    obtain ⟨⟨old, he⟩, ⟨o, ho, hc, hd⟩, _, _⟩ := st
    have e' : b = e ∨ b = it := by simpa using hb
    rcases e' with z | z
    · rw [z]; exact ⟨_, he, fun v q => nomatch q⟩
    · rw [z]; exact ⟨o, ho, fun v q => by rw [hd] at q; cases q⟩
  keep := fun i h h' st k => let ⟨⟨old, he⟩, ⟨o, ho, r⟩, hne, hle⟩ := st; ⟨⟨old, k e (by simp) _ he⟩, ⟨o, k it (by simp) o ho, r⟩, hne, hle⟩
  item := by
    intro X hP hw hK hc i pins s σ H E I hf st hg
    subst hP hw hK
    obtain ⟨⟨old, he⟩, hit, hne, hle⟩ := st
    have D0 := PySem.Draws.text (prog := X.prog) (w := X.w) (A := X.A.in1) (I.ok.hd hc) it z t
    have hel : e < s.heap.objs.size := Heap.lt_size he
    have hil : it < s.heap.objs.size := by obtain ⟨_, q, _⟩ := hit; exact Heap.lt_size q
    refine wpAny_pyNext_enum_itemD D0 he hit hg hne (by simpa using hne) fun u h' tk hu ho hit' hT hsz hk => ?_
    obtain ⟨c, tc, hc1, rfl⟩ := hu
    refine ⟨_, rfl, wpAny_letOwnedTupleGo_enum (s := { s with heap := h', toks := tk + 1 }) ho fun h'' he' sb => ?_⟩
    have hT2 : h''.get? s.heap.objs.size = some { cls := .type "tuple", data := .seq #[.int i tk, .str ⟨#[c]⟩ tc] } := (sb.2 _ (Nat.ne_of_gt hel)).trans hT
    have new : ObjOk X.prog X.w (upd H s.heap.objs.size (.tup [.int (i : Nat), .str ⟨#[c]⟩])) h'' s.heap.objs.size (.tup [.int (i : Nat), .str ⟨#[c]⟩]) :=
      ⟨by show 2 ≤ sizeLine; decide, [.int i tk, .str ⟨#[c]⟩ tc], .cons ⟨_, rfl⟩ (.cons ⟨_, rfl⟩ .nil), ⟨_, hT2, rfl, _, rfl⟩⟩
    have I1 : Inv X pins σ (upd H s.heap.objs.size (.tup [.int (i : Nat), .str ⟨#[c]⟩])) { s with heap := h'', toks := tk + 1 } :=
      I.turnedNew (ch := [e, it]) (fun b ob hb q => (sb.2 b (fun z => hb (by simp [z]))).trans (hk b ob (fun z => hb (by simp [z])) (fun z => hb (by simp [z])) q)) hf (Nat.le_refl _) new
    refine ⟨.ref s.heap.objs.size, _, I1, rfl, ⟨_, .str ⟨#[c]⟩, rfl, I.hok.fresh (Nat.le_refl _), rfl, by unfold signV; rw [hc1]; rfl⟩, ⟨⟨.str ⟨#[c]⟩ tc, ?_⟩, ?_, hne, hg⟩, fun b hb => ?_⟩
    · have e1 : ((i + 1 : Nat) : Int) = (i : Int) + 1 := by omega
      rw [e1]; exact he'
    · obtain ⟨o, ho2, r⟩ := hit'
      exact ⟨o, (sb.2 it (Ne.symm hne)).trans ho2, r⟩
    · have hb' : b < s.heap.objs.size := by
        have e' : b = e ∨ b = it := by simpa using hb
        rcases e' with z | z
        · rw [z]; exact hel
        · rw [z]; exact hil
      rw [upd_ne (Nat.ne_of_lt hb')]
      exact (hf b hb).1
  done := by
    intro X hP hw hK hc i pins s σ H E I hf st hg
    subst hP hw hK
    obtain ⟨⟨old, he⟩, hit, hne, hle⟩ := st
    obtain ⟨f0, f1, f2, f3, f4, f5⟩ := hf it (by simp)
    have D0 := PySem.Draws.text (prog := X.prog) (w := X.w) (A := X.A.in1) (I.ok.hd hc) it z t
    have hi : i = z.cps.size := Nat.le_antisymm hle hg
    rw [hi] at hit
    exact PySem.wpAny_pyNext_enum_endD D0 he hit fun h' eb => ⟨rfl, I.turned (t' := s.toks) (fun b o hb q => eb b o hb q) f0 f1 f3 f4 f5⟩
  self := fun A i s Q E st h => let ⟨⟨_, he⟩, _⟩ := st; wpAny_pyIter_enum he h
theorem drawsEnd {prog : Program} {w : World} {A : Around} (hh : A.handled = none) (it t : Addr) (items : Array Value) (i : Nat) (hi : items.size ≤ i) :
    Draws prog w A it [it, t] i (fun i v => items[i]? = some v) (fun j h => j = i ∧ h.IsTupleIter it t j ∧ h.IsTuple t items) where
  live := fun _ _ st => let ⟨o, ho, _⟩ := st.2.1; ⟨o, ho⟩
  frame := fun _ _ _ st hk => ⟨st.1, st.2.1.at fun o e => hk it (by simp) o e, st.2.2.at fun o e => hk t (by simp) o e⟩
  item := fun j s Q E hj st hQ => absurd st.1 (by omega)
  done := fun s Q E st hE => wpAny_nextOf_tuple_end hh st.2.1 st.2.2 (by simp; omega) hE
theorem turn_enumT {P : Program} {w : World} {K : PySem.W.Frag} {elts : List Expr} {kk : Nat} {tpos : Pos} (a e it : Addr) :
    Turn P w K (.Tuple elts kk tpos) (Itet K a) [e, it] e (fun i h => (∃ old, IsEnum h e it ((i : Nat) : Int) old) ∧ h.IsTupleIter it a i ∧ e ≠ it ∧ a ≠ it ∧ a ≠ e) where
  mem := by simp
  obj := fun i h st b hb => by
    obtain ⟨⟨old, he⟩, ⟨o, ho, hc, hd⟩, _, _, _⟩ := st
    have e' : b = e ∨ b = it := by simpa using hb
    rcases e' with z | z
    · rw [z]; exact ⟨_, he, fun v q => nomatch q⟩
    · rw [z]; exact ⟨o, ho, fun v q => by rw [hd] at q; cases q⟩
  keep := fun i h h' st k => let ⟨⟨old, he⟩, hi, hne⟩ := st; ⟨⟨old, k e (by simp) _ he⟩, hi.at fun o q => k it (by simp) o q, hne⟩
  item := by
    intro X hP hw hK hc i pins s σ H E I hf st hg
    subst hP hw hK
    obtain ⟨⟨old, he⟩, hit, hne, hai, hae⟩ := st
    obtain ⟨xs, x, hq, hx⟩ := hg
    obtain ⟨its, rv, p, hz⟩ := I.tuple hq
    obtain ⟨u, hu, ru⟩ := rv.get hx
    have hel : e < s.heap.objs.size := Heap.lt_size he
    have hil : it < s.heap.objs.size := by obtain ⟨_, q, _⟩ := hit; exact Heap.lt_size q
    have pt : s.heap.IsTuple a its.toArray := p
    have D0 := PySem.Draws.tuple (prog := X.prog) (w := X.w) (A := X.A.in1) (I.ok.hd hc) it a hai its.toArray
    have hlt : i < its.toArray.size := by
      obtain ⟨h1, _⟩ := List.getElem?_eq_some_iff.mp hu
      simpa using h1
    refine wpAny_pyNext_enum_itemD D0 he ⟨hit, pt⟩ hlt hne (by simp [hne, hae.symm]) fun u2 h' tk hu2 ho hit' hT hsz hk => ?_
    have hu3 : u2 = u := by
      have : its[i]? = some u2 := by simpa using hu2
      rw [hu] at this
      exact (Option.some.inj this).symm
    subst hu3
    refine ⟨_, rfl, wpAny_letOwnedTupleGo_enum (s := { s with heap := h', toks := tk + 1 }) ho fun h'' he' sb => ?_⟩
    have hT2 : h''.get? s.heap.objs.size = some { cls := .type "tuple", data := .seq #[.int i tk, u2] } := (sb.2 _ (Nat.ne_of_gt hel)).trans hT
    have new : ObjOk X.prog X.w (upd H s.heap.objs.size (.tup [.int (i : Nat), x])) h'' s.heap.objs.size (.tup [.int (i : Nat), x]) :=
      ⟨by show 2 ≤ sizeLine; decide, [.int i tk, u2], .cons ⟨_, rfl⟩ (.cons ru .nil), ⟨_, hT2, rfl, _, rfl⟩⟩
    have I1 : Inv X pins σ (upd H s.heap.objs.size (.tup [.int (i : Nat), x])) { s with heap := h'', toks := tk + 1 } :=
      I.turnedNew (ch := [e, it]) (fun b ob hb q => (sb.2 b (fun z => hb (by simp [z]))).trans (hk b ob (fun z => hb (by simp [z])) (fun z => hb (by simp [z])) q)) hf (Nat.le_refl _) new
    refine ⟨.ref s.heap.objs.size, _, I1, rfl, ⟨_, x, rfl, I.hok.fresh (Nat.le_refl _), rfl, fun ys hy => ?_⟩, ⟨⟨u2, ?_⟩, hit'.1.at fun o q => (sb.2 it (Ne.symm hne)).trans q, hne, hai, hae⟩, fun b hb => ?_⟩
    · rw [I.tuple_inj hy hq]
      exact hx
    · have e1 : ((i + 1 : Nat) : Int) = (i : Int) + 1 := by omega
      rw [e1]; exact he'
    · have hb' : b < s.heap.objs.size := by
        have e' : b = e ∨ b = it := by simpa using hb
        rcases e' with z | z
        · rw [z]; exact hel
        · rw [z]; exact hil
      rw [upd_ne (Nat.ne_of_lt hb')]
      exact (hf b hb).1
  done := by
    intro X hP hw hK hc i pins s σ H E I hf st hg
    subst hP hw hK
    obtain ⟨⟨old, he⟩, hit, hne, hai, hae⟩ := st
    obtain ⟨xs, hq, hx⟩ := hg
    obtain ⟨its, rv, p, hz⟩ := I.tuple hq
    obtain ⟨f0, f1, f2, f3, f4, f5⟩ := hf it (by simp)
    have hl := rv.length
    have D0 := drawsEnd (prog := X.prog) (w := X.w) (A := X.A.in1) (I.ok.hd hc) it a its.toArray i (by simp; omega)
    exact wpAny_pyNext_enum_endD D0 he ⟨rfl, hit, p⟩ fun h' eb => ⟨rfl, I.turned (t' := s.toks) (fun b o hb q => eb b o hb q) f0 f1 f3 f4 f5⟩
  self := fun A i s Q E st h => let ⟨⟨_, he⟩, _⟩ := st; wpAny_pyIter_enum he h
/-- enumerate(x), x a list, a tuple, a text -/
def iEnumA (K : PySem.W.Frag) (ta : TA) : TI := fun σ H R => ta σ H fun vs H1 => (∃ a xs, vs = [.ref a] ∧ SqL K H1 a xs ∧ R (Ite K a) H1) ∨ (∃ a xs, vs = [.ref a] ∧ SqT K H1 a xs ∧ R (Itet K a) H1) ∨ ∃ z, vs = [.str z] ∧ R (Ites (signV z) z.cps.size) H1
theorem pi_enumA {X : Cx} {e : Expr} {ta : TA} {p pos tpos : Pos} {elts : List Expr} {kk : Nat} (hg : Gl X "enumerate") (hm : X.mg "enumerate" = none) (ha : PA X [e] ta) (hs : starEach [e] X.env = [(false, eval e X.env)] := by rfl) :
    PI X (.Tuple elts kk tpos) (.Call (.Name "enumerate" p) [e] [] pos) (iEnumA X.K ta) := by
  refine ⟨fun pins s σ H R I h => ?_⟩
  refine PyProof.Rows.Call_ (ld_blt I hg hm (show bootBuiltins "enumerate" = some (.type "enumerate") by decide +kernel) (PyProof.Rows.callWith_type1 (thn (ha.run pos pins s σ H _ I h) fun us s1 ⟨vs, H1, I1, r1, q1⟩ => ?_) hs rfl))
  have fp2 : ∀ b ∈ [s1.heap.objs.size + 1, s1.heap.objs.size], FpOk X pins H1 b := fun b hb => by
    have e' : b = s1.heap.objs.size + 1 ∨ b = s1.heap.objs.size := by simpa using hb
    have hle : s1.heap.objs.size ≤ b := by
      rcases e' with z | z
      · rw [z]; exact Nat.le_add_right _ _
      · rw [z]; exact Nat.le_refl _
    exact I1.fpOk hle (I1.hok.fresh hle)
  rcases q1 with ⟨a, xs, ex, hq, q⟩ | ⟨a, xs, ex, hq, q⟩ | ⟨z, ex, q⟩
  · subst ex
    cases r1 with
    | cons r rr =>
      cases rr
      cases r
      obtain ⟨its, rv, p', hz⟩ := I1.list hq
      refine call_enumerate_list p'.isList fun h' he hit hsz hk => wpAny_pyIter_enum he ?_
      have I2 : Inv X pins σ H1 { s1 with heap := h' } := I1.kept (t' := s1.toks) hk
      exact ⟨s1.heap.objs.size + 1, [s1.heap.objs.size + 1, s1.heap.objs.size], _, _, H1, rfl, I2, turn_enum a (s1.heap.objs.size + 1) s1.heap.objs.size, ⟨⟨.none, he⟩, hit, Nat.succ_ne_self _⟩, fp2, q⟩
  · subst ex
    cases r1 with
    | cons r rr =>
      cases rr
      cases r
      obtain ⟨its, rv, p', hz⟩ := I1.tuple hq
      have hal : a < s1.heap.objs.size := p'.lt
      refine call_enum1 (begins_tuple a its.toArray) p' fun h' he hit hsz hk => wpAny_pyIter_enum he ?_
      have I2 : Inv X pins σ H1 { s1 with heap := h' } := I1.kept (t' := s1.toks) hk
      exact ⟨s1.heap.objs.size + 1, [s1.heap.objs.size + 1, s1.heap.objs.size], _, _, H1, rfl, I2, turn_enumT a (s1.heap.objs.size + 1) s1.heap.objs.size, ⟨⟨.none, he⟩, ⟨_, hit, rfl, rfl⟩, Nat.succ_ne_self _, Nat.ne_of_lt hal, Nat.ne_of_lt (Nat.lt_succ_of_lt hal)⟩, fp2, q⟩
  · subst ex
    cases r1 with
    | cons r rr =>
      cases rr
      obtain ⟨t, rfl⟩ := r
      refine call_enumerate_str fun h' he hit hsz hk => wpAny_pyIter_enum he ?_
      have I2 : Inv X pins σ H1 { s1 with heap := h' } := I1.kept (t' := s1.toks) hk
      exact ⟨s1.heap.objs.size + 1, [s1.heap.objs.size + 1, s1.heap.objs.size], _, _, H1, rfl, I2, turn_enumS z t (s1.heap.objs.size + 1) s1.heap.objs.size, ⟨⟨.none, he⟩, hit, Nat.succ_ne_self _, Nat.zero_le _⟩, fp2, q⟩

section
variable {X : Cx} {Wx : WX} {S : Sx}
def dEnumAux : Nat → List D → List D
  | _, [] => []
  | n, d :: r => .tup [.int (n : Nat), d] :: dEnumAux (n + 1) r
def dEnum (xs : List D) : List D := dEnumAux 0 xs
theorem dEnumAux_len : ∀ (n : Nat) (xs : List D), (dEnumAux n xs).length = xs.length
  | _, [] => rfl
  | n, d :: r => by
    unfold dEnumAux
    rw [List.length_cons, List.length_cons, dEnumAux_len]
theorem dEnumAux_get : ∀ (n : Nat) (xs : List D) (i : Nat) (d : D), xs[i]? = some d → (dEnumAux n xs)[i]? = some (.tup [.int ((n + i : Nat) : Int), d])
  | _, [], i, d, h => by simp at h
  | n, a :: r, 0, d, h => by
    simp at h
    subst h
    rfl
  | n, a :: r, i + 1, d, h => by
    have := dEnumAux_get (n + 1) r i d (by simpa using h)
    unfold dEnumAux
    rw [List.getElem?_cons_succ, this]
    congr 4
    have : n + 1 + i = n + (i + 1) := by omega
    rw [this]
def iEnum1 (f : En → Res (List D)) : En → Res (List D) := fun ρ => (f ρ).bind fun ds ρ1 => match ds with
  | [.lst xs] => .ok (dEnum xs) ρ1
  | [.tup xs] => .ok (dEnum xs) ρ1
  | [.str z] => .ok (dEnum (chars z)) ρ1
  | _ => .bad
theorem enum_yield {K : PySem.W.Frag} {F1 : Hp} {xs : List D} {vx : Nat → Option V} (hv : ∀ i v, vx i = some v → ∃ d, xs[i]? = some d ∧ Rep K F1 v d) :
    ∀ i Fi Hi x Hi', i < (dEnum xs).length → Same F1 Fi → Same Fi Hi → YPair (fun i => some (.int (i : Nat))) vx i Hi x Hi' → ∃ Fj d, Ext Fi Hi Fj Hi' ∧ (dEnum xs)[i]? = some d ∧ Rep K Fj x d := by
  intro i Fi Hi x Hi' hi sF sH y
  obtain ⟨T, a, b, rfl, hT, rfl, e1, e2⟩ := y
  cases e1
  obtain ⟨d, hd, rd⟩ := hv i b e2
  have ex := Ext.laid (o := .tup [.int (i : Nat), b]) sH hT
  refine ⟨_, .tup [.int (i : Nat), d], ex, ?_, .tup (.inl (.inl upd_same)) (.cons (.int _) (.cons (rd.mono (sF.trans ex.ff)) .nil))⟩
  have := dEnumAux_get 0 xs i d hd
  rw [Nat.zero_add] at this
  exact this
theorem ij_enum {elts : List Expr} {kk : Nat} {tpos : Pos} {e : Expr} {f : En → Res (List D)} {p pos : Pos} (hm : X.mg "enumerate" = none) (ha : AJ X Wx S [e] f) (hg : Gl X "enumerate" := by rfl) (hs : starEach [e] X.env = [(false, eval e X.env)] := by rfl) :
    IJ X Wx S (.Tuple elts kk tpos) (.Call (.Name "enumerate" p) [e] [] pos) (iEnum1 f) := by
  obtain ⟨t, pa, qa⟩ := ha.ex
  refine ⟨_, pi_enumA hg hm pa hs, fun B F0 F H σ ρ R st post => qa B F0 F H σ ρ _ st ?_⟩
  unfold iEnum1 at post
  cases ef : f ρ with
  | bad => rw [ef] at post; exact post
  | exc x ρ1 => rw [ef] at post; exact post
  | ok ds ρ1 =>
    rw [ef, Res.bind_ok] at post
    intro vs F1 H1 st1 s1 r1
    match ds, post, r1 with
    | [.lst xs], post, r1 =>
      obtain ⟨v, rfl, rv⟩ := repL_1 r1
      cases rv with
      | @lst a us ds h1 h2 =>
        refine .inl ⟨a, us, rfl, Same.seq st1.fz.fH h1, ?_⟩
        have hl : us.length = (dEnum xs).length := by rw [h2.length]; exact (dEnumAux_len 0 xs).symm
        refine post _ (fun H => SqL X.K H a us) (YPair (fun i => some (.int (i : Nat))) (fun i => us[i]?)) F1 H1 st1 s1 (by rw [← hl]; exact walk_enum) (fun H'' s => Same.seq s h1) (enum_yield fun i v e => ?_)
        exact h2.get' e
    | [.tup xs], post, r1 =>
      obtain ⟨v, rfl, rv⟩ := repL_1 r1
      cases rv with
      | @tup a us ds h1 h2 =>
        refine .inr (.inl ⟨a, us, rfl, Same.seqT st1.fz.fH h1, ?_⟩)
        have hl : us.length = (dEnum xs).length := by rw [h2.length]; exact (dEnumAux_len 0 xs).symm
        refine post _ (fun H => SqT X.K H a us) (YPair (fun i => some (.int (i : Nat))) (fun i => us[i]?)) F1 H1 st1 s1 (by rw [← hl]; exact walk_enumT) (fun H'' s => Same.seqT s h1) (enum_yield fun i v e => ?_)
        exact h2.get' e
    | [.str z], post, r1 =>
      obtain ⟨v, rfl, rv⟩ := repL_1 r1
      cases rv
      refine .inr (.inr ⟨z, rfl, ?_⟩)
      have hl : z.cps.size = (dEnum (chars z)).length := by rw [show (dEnum (chars z)).length = (chars z).length from dEnumAux_len 0 _]; simp [chars]
      refine post _ (fun _ => True) (YPair (fun i => some (.int (i : Nat))) (signV z)) F1 H1 st1 s1 (by rw [← hl]; exact walk_enumS) (fun _ _ => trivial) (enum_yield fun i v e => ?_)
      unfold signV at e
      cases ec : z.cps[i]? with
      | none => rw [ec] at e; cases e
      | some c =>
        rw [ec] at e
        cases e
        refine ⟨.str ⟨#[c]⟩, ?_, .str _⟩
        have hc' : z.cps.toList[i]? = some c := by rw [Array.getElem?_toList]; exact ec
        simp [chars, List.getElem?_map, hc']
end
end PD
set_option Elab.async false
set_option linter.all false
set_option maxRecDepth 100000
set_option maxHeartbeats 4000000
/-! PDX0: own exceptions whose __init__ is super().__init__(msg); self.f = f. -/
namespace PySem
namespace PDX
open PySem.W PySem.Calls PyProof.Rows PySem.HandSPX
def iA (f : Str) (p1 p2 : Pos) : Arguments := { posonlyargs := [], args := [{ arg := "self", annotation := none, pos := p1 }, { arg := f, annotation := none, pos := p2 }], vararg := none, kwonlyargs := [], kw_defaults := [], kwarg := none, defaults := [] }
def iB (m f : Str) (j : Nat) (p1 p2 p3 p4 p5 p6 p7 p8 p9 p10 : Pos) : List Stmt :=
  [.Expr (.Call (.Attribute (.Call (.Name "super" p1) [] [] p2) "__init__" p3) [.Constant (.str m) j p4] [] p5) p6, .Assign [.Attribute (.Name "self" p7) f p8] (.Name f p9) p10]
def iS (f : Str) : Scope := { kind := .function, names := [(PySem.Str.ofString "self", .local), (f, .local), (PySem.Str.ofString "__class__", .free), (PySem.Str.ofString "super", .globalImplicit)], isGenerator := false, isCoroutine := false, more := [] }

section
variable {prog : Program} {w : World} {A : Around} {E : Value → Shared → Prop} {h : Heap} {g : Array GenState} {d : Drawn} {tk : Nat} {os : OsState} {B i newId : String} {bmB : List Value}
theorem init_super {nm q : Str} {C N : Addr} {bs bm : List Value} {hdct : Bool} {sn : List Str} {sub : List Value} {ab : Bool} {col : Option Bool} {dd : Option Addr} {k0 k1 k2 k3 k5 : Option Value} {u x t0 : Addr} {rest : List Value} {Q : Value → Shared → Prop} (FB : ExcBaseFacts B newId i bmB)
    (hC : h.get? C = some (excClassObj nm q C N bs bm hdct sn sub ab col dd k0 k1 k2 k3 k5 newId)) (hu : h.get? u = some (kxs_mw i x)) (he : h.get? x = some (excO C t0)) (hz : rest.length ≤ sizeLine)
    (fin : ∀ h', (∀ b o, b ≠ x → h.get? b = some o → h'.get? b = some o) → h'.get? x = some (excO C h.objs.size) → h'.get? h.objs.size = some (excTup rest) → Q .none ⟨h', g, d, tk, os⟩) :
    wpAny (model prog w) A (call (.ref u) rest) Q E ⟨h, g, d, tk, os⟩ := by
  refine wpAny_call (codeAny_of_tree ?_)
  show wpAny _ A.in1 (callAny (.ref u) ⟨rest, []⟩) _ _ _
  simp only [callAny]
  refine wpAny_bind (wpAny_load hu ?_)
  simp only [kxs_mw, show (Value.type "method-wrapper" == Value.type "method" || Value.type "method-wrapper" == Value.type "builtin_function_or_method" || Value.type "method-wrapper" == Value.type "method-wrapper") = true by decide, if_true]
  refine KFB.if_so (by decide) ?_
  refine wpAny_bind (check_bound_init FB.toExcCallFacts hC he rfl ?_)
  refine wpAny_bind (wpAny_pure (wpAny_pure ?_))
  refine ⟨plainId_quiet FB.init.plain _, codeAny_builtin FB.initEntry ?_⟩
  exact exc_init_tree (cls := .ref C) (t0 := t0) (dv := none) (c2 := .none) (c3 := .none) (b4 := .bool false) he hz fin
end
/-- what the written part says of an own exception class at C, its __init__ at fI -/
structure SupTxt (prog : Program) (K : Frag) (mg : Str → Option Value) (C fI : Addr) (m f : Str) : Prop where
  cls : ∃ nm q N bs bm sn sub ab col dd k0 k1 k2 k3 k5, K.lookup C = some (excClassObj nm q C N bs bm true sn sub ab col dd k0 k1 k2 k3 k5 "ValueError.__new__") ∧ refsVE bm = true
  sa : findIn K (.ref C) "__setattr__" = some (some (.builtin "object.__setattr__"))
  noF : findIn K (.ref C) f = some none
  iC : findIn K (.ref C) "__init__" = some (some (.ref fI))
  tI : typeIn K (.ref fI) = some (.type "function")
  kC : keepIn K (.ref C) = true
  exC : subIn K (.ref C) (.type "BaseException") = some true
  veC : subIn K (.ref C) (.type "ValueError") = some true
  tyC : typeIn K (.ref C) = some (.type "type")
  up : ks_superIn K C C "__init__" = some (some (.builtin "ValueError.__init__"))
  sub : mroIn K C (.ref C) = some true
  any : nsIn K cStatics "thirdparty.any" = some none
  sup : mg "super" = none
  fn : ∃ (oc : Value) (od : Option Addr) (qual : Str) (doc pm : Value) (an : Option Addr) (ct : Value) (osl : Array (Option Value)) (cda cc : Addr) (pa pb : Pos) (j : Nat) (p1 p2 p3 p4 p5 p6 p7 p8 p9 p10 : Pos),
    K.lookup fI = some ⟨oc, od, .func (ksFn "__init__" qual (iA f pa pb) (iB m f j p1 p2 p3 p4 p5 p6 p7 p8 p9 p10) (iS f) .none .none doc pm an (.ref cda) ct cc), osl⟩ ∧ codeIn K (.ref cda) qual = true ∧
    (∃ cl cld csl, K.lookup cc = some ⟨cl, cld, .cell (some (.ref C)), csl⟩) ∧ ∃ ccl cdd vs ccs file tf, K.lookup cda = some ⟨ccl, cdd, .fields vs, ccs⟩ ∧ vs[2]? = some (.str file tf) ∧ ((prog.main.file : Str) == file) = true ∧
    ∀ env, ∃ pl, eval (.Call (.Attribute (.Call (.Name "super" p1) [] [] p2) "__init__" p3) [.Constant (.str m) j p4] [] p5) env = (do
      let ov ← attributeBase (.Call (.Name "super" p1) [] [] p2) "__init__" env (eval (.Call (.Name "super" p1) [] [] p2) env)
      standAt p3.atName
      let (f, first) ← holding [ov] (getMethod ov "__init__" pl)
      callWith p5 f first (backTo p5 (starEach [.Constant (.str m) j p4] env)) [])
  bnd : ∀ (qual : Str) (pa pb : Pos) (body : List Stmt) (doc pm : Value) (an : Option Addr) (cdv ct : Value) (cc : Addr) (a b : Value), bindArgs (ksFn "__init__" qual (iA f pa pb) body (iS f) .none .none doc pm an cdv ct cc) ⟨[a, b], []⟩ = pure ([("self", a), (f, b)] : List (Str × Value))
  ne : ("self" : Str) ≠ f ∧ f ≠ "__class__" ∧ f ≠ "super"
  db : (f == ("__debug__" : Str)) = false
  top : (prog.main.scope.names.lookup ("super" : Str)).isSome = false
structure InitEnd (h h' : Heap) (x C dx t1 : Addr) (f : Str) (v : Value) : Prop where
  keep : ∀ b o, b ≠ x → h.get? b = some o → h'.get? b = some o
  obj : h'.get? x = some { cls := .ref C, dict := some dx, data := .fields #[.ref t1, .none, .none, .none, .bool false, .none] }
  dbig : h.objs.size ≤ dx
  dne : dx ≠ x
  ns : h'.Ns1 dx (fun y => if y = f then some v else none)
section
variable {prog : Program} {w : World} {A : Around} {E : Value → Shared → Prop} {R : Result → Shared → Prop} {s : Shared} {K : Frag} {mg mb : Str → Option Value} {C fI : Addr} {m f : Str}
theorem names_f (hf : ("self" : Str) ≠ f ∧ f ≠ "__class__" ∧ f ≠ "super") : (iS f).names.lookup f = some .local := by
  unfold iS
  have e : (f == (PySem.Str.ofString "self")) = false := by
    simpa using fun z : f = PySem.Str.ofString "self" => hf.1 z.symm
  simp [List.lookup, e]
theorem names_cls (hf : ("self" : Str) ≠ f ∧ f ≠ "__class__" ∧ f ≠ "super") : (iS f).names.lookup ("__class__" : Str) = some .free := by
  unfold iS
  have e : (("__class__" : Str) == f) = false := by simpa using fun z : "__class__" = f => hf.2.1 z.symm
  have e2 : (("__class__" : Str) == PySem.Str.ofString "self") = false := by decide
  have e3 : (("__class__" : Str) == PySem.Str.ofString "__class__") = true := by decide
  simp only [List.lookup, e, e2, e3]
theorem names_sup (hf : ("self" : Str) ≠ f ∧ f ≠ "__class__" ∧ f ≠ "super") : (iS f).names.lookup ("super" : Str) = some .globalImplicit := by
  unfold iS
  have e : (("super" : Str) == f) = false := by simpa using fun z : "super" = f => hf.2.2 z.symm
  have e2 : (("super" : Str) == PySem.Str.ofString "self") = false := by decide
  have e3 : (("super" : Str) == PySem.Str.ofString "__class__") = false := by decide
  have e4 : (("super" : Str) == PySem.Str.ofString "super") = true := by decide
  simp only [List.lookup, e, e2, e3, e4]
theorem sup_init (T : SupTxt prog K mg C fI m f) {x t0 : Addr} {v : Value} (X : K.In s.heap) (G : s.heap.Ns mainGlobals mg) (B : s.heap.Ns builtinsNs mb) (hmb : ∀ y : Str, y ≠ "__name__" → mb y = bootBuiltins y) (hlim : s.heap.NoLimit) (hx : s.heap.get? x = some (excO C t0)) (hnx : K.lookup x = none) (hroom : A.depth < recursionLimit)
    (hq : ∀ h' tk dx t1, InitEnd s.heap h' x C dx t1 f v → R (.ok (.ret .none)) { s with heap := h', toks := tk }) :
    codeAny (model prog w) A (.call (.ref fI) ⟨[.ref x, v], []⟩) R s := by
  obtain ⟨oc, od, qual, doc, pm, an, ct, osl, cda, cc, pa, pb, j, p1, p2, p3, p4, p5, p6, p7, p8, p9, p10, ho, hcd, ⟨cl, cld, csl, hcell⟩, ccl, cdd, vs, ccs, file, tf, hcode, hvs, hfile, hev⟩ := T.fn
  obtain ⟨nm, q, N, bs, bm, sn, sub, ab, col, dd, k0, k1, k2, k3, k5, hC, hbm⟩ := T.cls
  have hcl : clsIn K C = some { name := nm, bases := bs, mro := .ref C :: bm, ns := N, qualname := q, hasDict := true, slotNames := sn, subclasses := sub, abstract := ab, collection := col, hasDel := false } := by unfold clsIn; rw [hC] <;> rfl
  have hne : (f == ("self" : Str)) = false := by simpa using fun z : f = "self" => T.ne.1 z.symm
  have l1 : ([("self", Value.ref x), (f, v)] : List (Str × Value)).reverse.lookup f = some v := by simp [List.lookup]
  have hne2 : (("self" : Str) == f) = false := by simpa using T.ne.1
  have l2 : ([("self", Value.ref x), (f, v)] : List (Str × Value)).reverse.lookup ("self" : Str) = some (.ref x) := by
    show ([(f, v), ("self", Value.ref x)] : List (Str × Value)).lookup ("self" : Str) = _
    simp [List.lookup, hne2]
  refine ks_codeAny_call_defAt (fd := ksFn "__init__" qual (iA f pa pb) (iB m f j p1 p2 p3 p4 p5 p6 p7 p8 p9 p10) (iS f) .none .none doc pm an (.ref cda) ct cc) (body := iB m f j p1 p2 p3 p4 p5 p6 p7 p8 p9 p10) (binds := [("self", .ref x), (f, v)]) hroom (X _ _ ho) rfl hlim (codeRec_of X hcd) rfl
    (BindsTo.of_eq (T.bnd _ _ _ _ _ _ _ _ _ _ _ _)) (fun y hy => ?_) (fun y hy => ?_) (fun h₁ hn k => ?_)
  · have hy' : y ∈ (iS f).names := hy
    unfold iS at hy'
    simp only [List.mem_cons, List.not_mem_nil, or_false] at hy'
    rcases hy' with rfl | rfl | rfl | rfl <;> simp
  · simp only [List.mem_cons, List.not_mem_nil, or_false] at hy
    rcases hy with rfl | rfl
    · show (iS f).names.lookup ("self" : Str) = _
      unfold iS
      simp [List.lookup]
    · exact names_f T.ne
  have X₁ : K.In h₁ := X.keeps k
  have hx₁ := k _ _ hx
  have G₁ := G.keeps k
  have B₁ := B.keeps k
  let env : Env := ksEnv qual (iS f) s.heap.objs.size fI (.ref cda) cc
  have hk : env.scope.kind = .function := rfl
  have hks : env.kindOf "super" = some .globalImplicit := names_sup T.ne
  have hkc : env.kindOf "__class__" = some .free := names_cls T.ne
  have hka : env.kindOf "self" = some .local := by
    show (iS f).names.lookup ("self" : Str) = _
    unfold iS
    simp [List.lookup]
  have hkf : env.kindOf f = some .local := names_f T.ne
  show wpAt (model prog w) (A.deeper env) (.func _ env) (execs (iB m f j p1 p2 p3 p4 p5 p6 p7 p8 p9 p10) env) _ _ _
  obtain ⟨pl, hev⟩ := hev env
  refine ks_wpAt_execs_cons (ks_wpAt_Expr_any (ks_wpAt_MethodCall (he := hev) ?_))
  refine ks_wpAt_super_base (env := env) hks hkc (by decide) rfl (X₁ _ _ ho) rfl rfl rfl (X₁ _ _ hcode) rfl hvs hfile T.top ?_
  refine ks_loadName_global hk hks (loadGlobal_builtin (env := env) G₁ T.sup B₁ ((hmb _ (by decide)).trans (by first | boot_by_name | rfl | kernel_rfl)) ⟨rfl, ?_⟩)
  refine wpAny_loadName_free hk hkc rfl ⟨_, X₁ _ _ hcell, rfl⟩ ?_
  refine wpAny_loadName_local hk hka hn l2 ?_
  refine ks_wpAny_isType_cls (X₁ _ _ hC) rfl ⟨rfl, ?_⟩
  have hxC : x ≠ C := fun z => by
    rw [z] at hnx
    have hC' : K.lookup C = some _ := hC
    rw [hnx] at hC'
    cases hC'
  have xlt := Heap.lt_size hx₁
  refine ks_wpAny_call_super (X₁ _ _ hC) rfl hx₁ rfl (fun c e => by cases e) (looks_mroIn X₁ T.sub) (fun h2 hso k2 => ?_)
  have hup := T.up
  unfold ks_superIn at hup
  rw [hcl] at hup
  have X₂ := X₁.keeps k2
  have hx₂ := k2 _ _ hx₁
  have I2 : InstAt h2 x (excO C t0) C none := ⟨hx₂, rfl, rfl, trivial⟩
  refine kxs_getMethod kxs_ValueError hso (looks_opaque X₂ T.any) (l₀ := .ref C :: bm) (fun A Q E s k q => wpAny_bind ((looks_clsIn X₂ hcl) A _ E s k (wpAny_pure q))) rfl X₂ hup (I2.type.andThen (looks_subIn X₂ T.veC)) hxC (by decide) ?_
  have k3 : ∀ b o, h2.get? b = some o → (h2.push (kxs_mw "ValueError.__init__" x)).get? b = some o := fun b o e => Heap.get?_push_of_some _ e
  have hu : (h2.push (kxs_mw "ValueError.__init__" x)).get? h2.objs.size = some (kxs_mw "ValueError.__init__" x) := Heap.get?_push_at rfl rfl
  have he' : starEach [.Constant (.str m) j p4] env = (false, eval (.Constant (.str m) j p4) env) :: starEach [] env := by rfl
  have hspl : ∀ {Q : List Value → Shared → Prop} {E : Value → Shared → Prop} {s1 : Shared}, Q [.str m s1.toks] { s1 with toks := s1.toks + 1 } → wpAny (model prog w) (A.deeper env) (spliced (backTo p5 (starEach [.Constant (.str m) j p4] env))) Q E s1 := fun q =>
    spliced_more (wpAny_Constant_str (spliced_none q)) he'
  show wpAny _ _ (callWith p5 (.ref h2.objs.size) [] (backTo p5 (starEach [.Constant (.str m) j p4] env)) []) _ _ _
  refine kxs_callWith (i := "ValueError.__init__") (x := x) (by rw [he']; rfl) ?_
  rw [he'] at hspl ⊢
  refine evalArgs_plain (hspl ⟨hu, ?_⟩)
  have n1 : [Value.str m (s.toks + [(("self" : Str), Value.ref x), (f, v)].length + 1)].length ≤ sizeLine := by
    rw [sizeLine_eq]
    exact (by decide : 1 ≤ 16777216)
  refine init_super PySem.F.excBase_ValueError (k3 _ _ (k2 _ _ (k _ _ (X _ _ hC)))) hu (k3 _ _ hx₂) n1 (fun h4 k4 hx4 _ => ?_)
  have nL : s.heap.objs.size ≠ x := Nat.ne_of_gt (Heap.lt_size hx)
  have nC : C ≠ x := fun z => hxC z.symm
  have kx : ∀ b o, b ≠ x → s.heap.get? b = some o → h4.get? b = some o := fun b o hb e => k4 b o hb (k3 _ _ (k2 _ _ (k _ _ e)))
  have X₄ : K.In h4 := fun b o e => kx b o (fun z => by rw [z, hnx] at e; cases e) (X b o e)
  obtain ⟨oL, es, ep, hL, r⟩ := hn
  have hn4 : h4.Ns s.heap.objs.size (fun y => ([("self", Value.ref x), (f, v)] : List (Str × Value)).reverse.lookup y) := ⟨oL, es, ep, k4 _ _ nL (k3 _ _ (k2 _ _ hL)), r⟩
  have z1 : s.heap.objs.size < h₁.objs.size := Heap.lt_size hL
  have z4 : s.heap.objs.size < h4.objs.size := Heap.lt_size (k4 _ _ nL (k3 _ _ (k2 _ _ hL)))
  show wpAt _ _ _ (execs [.Assign [.Attribute (.Name "self" p7) f p8] (.Name f p9) p10] env) _ _ _
  refine wpAt_of_wpAny (wpAny_execs_cons (plainObj_wpAny_Assign_Attribute ?_))
  refine wpAny_Name (wpAny_loadName_local hk hkf hn4 l1 ?_) T.db
  refine wpAny_Name (wpAny_loadName_local hk hka hn4 l2 ?_)
  refine set_plain X₄ (ox := excO C _) (od := none) ⟨hx4, rfl, rfl, trivial⟩ T.sa ?_
  refine exc_osa X₄ hx4 hcl (show refsVE (.ref C :: bm) = true from hbm) rfl T.noF (fun h₅ tk₅ dx k₅ dn dne hx₅ hn₅ => ?_)
  show wpAny _ _ (execs _ _) _ _ _
  exact wpAny_execs_nil (hq h₅ tk₅ dx _ ⟨fun b o hb e => k₅ b o hb (kx b o hb e), hx₅, Nat.le_of_lt (Nat.lt_of_lt_of_le z4 dn), dne, hn₅⟩)
structure OwnMade (h h' : Heap) (e C d : Addr) (f : Str) (v : Value) : Prop where
  keep : ∀ b o, h.get? b = some o → h'.get? b = some o
  new : h.objs.size ≤ e
  obj : ∃ oe vs, h'.get? e = some oe ∧ oe.cls = .ref C ∧ oe.dict = some d ∧ oe.data = .fields vs ∧ vs[1]? = some .none
  dbig : h.objs.size ≤ d
  dne : d ≠ e
  ns : h'.Ns1 d (fun y => if y = f then some v else none)
theorem one_size (v : Value) : [v].length ≤ sizeLine := by
  rw [sizeLine_eq]
  exact (by decide : 1 ≤ 16777216)
theorem sup_made (T : SupTxt prog K mg C fI m f) {v : Value} (X : K.In s.heap) (G : s.heap.Ns mainGlobals mg) (B : s.heap.Ns builtinsNs mb) (hmb : ∀ y : Str, y ≠ "__name__" → mb y = bootBuiltins y) (hlim : s.heap.NoLimit) (hroom : A.depth + 1 < recursionLimit)
    (hq : ∀ h' tk e d, OwnMade s.heap h' e C d f v → R (.ok (.ret (.ref e))) { s with heap := h', toks := tk }) :
    codeAny (model prog w) A (.call (.ref C) ⟨[v], []⟩) R s := by
  obtain ⟨nm, q, N, bs, bm, sn, sub, ab, col, dd, k0, k1, k2, k3, k5, hC, hbm⟩ := T.cls
  obtain ⟨hp, g, dr, tk, os⟩ := s
  have k : ∀ b o, hp.get? b = some o → ((hp.push (kdv_tup [v])).push (excO C hp.objs.size)).get? b = some o := fun b o e => Heap.get?_push_of_some _ (Heap.get?_push_of_some _ e)
  have hget : ((hp.push (kdv_tup [v])).push (excO C hp.objs.size)).get? (hp.objs.size + 1) = some (excO C hp.objs.size) := by heap_get
  have hnx : K.lookup (hp.objs.size + 1) = none := by
    cases e : K.lookup (hp.objs.size + 1) with
    | none => rfl
    | some o =>
      have z : hp.get? (hp.objs.size + 1) = some o := X _ _ e
      exact absurd (Nat.lt_of_succ_lt (Heap.lt_size z)) (Nat.lt_irrefl _)
  refine call_own F.excBase_ValueError (fun X => refsVE_contains X bm hbm) (X _ _ hC) (looks_findIn X T.iC) (fun self => bind_fn X self T.tI) (one_size v) ?_
  refine sup_init (s := ⟨(hp.push (kdv_tup [v])).push (excO C hp.objs.size), g, dr, tk, os⟩) T (X.keeps k) (G.keeps k) (B.keeps k) hmb (hlim.keeps k) hget hnx ?_ fun h' tk' dx t1 ⟨k', hx, dn, dne, hns⟩ => ?_
  · show A.depth + 1 < recursionLimit
    exact hroom
  · have old : ∀ b o, hp.get? b = some o → h'.get? b = some o := fun b o e => k' b o (Nat.ne_of_lt (Nat.lt_succ_of_lt (Heap.lt_size e))) (k b o e)
    have z : hp.objs.size + 1 + 1 ≤ dx := by
      first
        | (simpa only [Heap.size_push] using dn)
        | exact dn
        | (have q := dn; rw [Heap.size_push, Heap.size_push] at q; exact q)
    exact ⟨rfl, hq h' tk' (hp.objs.size + 1) dx ⟨old, Nat.le_succ _, ⟨_, _, hx, rfl, rfl, rfl, rfl⟩, Nat.le_trans (Nat.le_trans (Nat.le_succ _) (Nat.le_succ _)) z, dne, hns⟩⟩
end
end PDX
end PySem
namespace PD
open PySem PySem.Spec L2
theorem relO_one {v : V} {v' : Value} {n : Str} (r : RelV v v') (f : Str) : RelO (List.lookup f [(n, v)]) (if f = n then some v' else none) := by
  by_cases hw : f = n
  · subst hw
    rw [if_pos rfl]
    have q : List.lookup f [(f, v)] = some v := by simp [List.lookup]
    rw [q]
    exact r
  · rw [if_neg hw]
    have qw : (f == n) = false := by simpa using hw
    have q2 : List.lookup f [(n, v)] = none := by simp [List.lookup, qw]
    rw [q2]
    trivial
section
variable {X : Cx} {C fI : Addr} {m n : Str}
/-- C(e) -/
def tMkSup (C : Addr) (n : Str) (ta : TA) : St → Hp → XK → Prop := fun σ H Q => ta σ H fun vs H1 => ∃ v, vs = [v] ∧ ∀ d, H1 d = none → Q (.ref C) (some d) (upd H1 d (.xd [(n, v)]))
theorem pmk_sup {x : Str} {a : Expr} {ta : TA} {p pos : Pos} {k : Nat} (T : PySem.PDX.SupTxt X.prog X.K X.mg C fI m n) (gC : X.mg x = some (.ref C)) (hr : Room k X.A) (hk : 1 ≤ k) (ha : PA X [a] ta) (hg : Gl X x := by rfl) (hdb : (x == ("__debug__" : Str)) = false := by decide)
    (he : starEach (a :: []) X.env = (false, eval a X.env) :: starEach [] X.env := by rfl) (hpl : (backTo pos (starEach [] X.env)).any (·.1) = false := by rfl) :
    PMk X (.Call (.Name x p) [a] [] pos) (tMkSup C n ta) := by
  intro pins s σ H Q I h
  refine PySem.wpAny_Call_Name_kw (ld_glob I hg gC ?_ hdb)
  refine PySem.W.callWith_K (h₀ := X.base) I.ok.mod.kin T.kC (thn (ha.run pos pins s σ H _ I h) fun us s1 hh => ?_) he hpl
  obtain ⟨vs, H1, I1, r1, v, ev, q1⟩ := hh
  subst ev
  refine ⟨I1.kIn, ?_⟩
  cases r1 with
  | cons rv rn =>
    rename_i v' us'
    cases rn
    show wpAny _ _ (call (.ref C) [v']) _ _ _
    have hlim := I1.nolimit
    obtain ⟨mb, hB, hmb⟩ := I1.mod.blt
    have hB1 := hB.keeps I1.bk
    have hG1 := I1.mod.glob.keeps I1.bk
    obtain ⟨hp, g, dr, tk, os⟩ := s1
    refine wpAny_call (PySem.PDX.sup_made T I1.kIn hG1 hB1 hmb hlim (by have := hr.dp; omega) fun h' tk' e d M => ?_)
    show MkP X pins σ Q (.ref e) ⟨h', g, dr, tk', os⟩
    obtain ⟨oe, fv, hoe, hc, hd, hdat, h1⟩ := M.obj
    have hns := M.ns
    obtain ⟨G', g1, g2⟩ := restrict h' fun b => decide (b ≠ e)
    have gk : ∀ b, b ≠ e → G'.get? b = h'.get? b := fun b hb => g1 b (decide_eq_true hb)
    have ge : G'.get? e = none := g2 e (by simp)
    have old : ∀ b o, hp.get? b = some o → G'.get? b = some o := fun b o q => (gk b (Nat.ne_of_lt (Nat.lt_of_lt_of_le (Heap.lt_size q) M.new))).trans (M.keep b o q)
    have ob : ObjOk X.prog X.w (upd H1 d (.xd [(n, v)])) G' d (.xd [(n, v)]) :=
      ⟨_, hns.at (fun o q => (gk d M.dne).trans q), fun f => relO_one rv f⟩
    have J : Inv X pins σ (upd H1 d (.xd [(n, v)])) ⟨G', g, dr, tk', os⟩ := I1.laid (t' := tk') old M.dbig ob
    refine ⟨e, oe, fv, ⟨G', g, dr, tk', os⟩, _, .ref C, some d, rfl, J, fun b o q => ?_, ge, hoe, ⟨hc, hd⟩, hdat, h1, ?_, rfl, I1.bare, raises_own T.exC T.tyC, q1 d (I1.hok.fresh M.dbig)⟩
    · by_cases hb : b = e
      · have q' : G'.get? b = some o := q
        rw [hb, ge] at q'; cases q'
      · exact (gk b hb).symm.trans q
    · rw [upd_ne (Ne.symm M.dne)]
      exact I1.hok.fresh M.new
end

/-! ### raise, as a rule -/
section
variable {X : Cx} {Wx : WX} {S : Sx}
def fRaise1 (x n : Str) (f : En → Res (List D)) : En → Fl := fun ρ => (f ρ).fl fun ds ρ1 => match ds with | [d] => .exc ⟨x, [(n, d)]⟩ ρ1 | _ => .bad
theorem sj_raise1 {C fI : Addr} {m n x : Str} {a : Expr} {fa : En → Res (List D)} {p pos pos2 : Pos} {k : Nat} (hc : X.calm = true) (tk : Takes X Wx) (T : PySem.PDX.SupTxt X.prog X.K X.mg C fI m n) (gC : X.mg x = some (.ref C)) (nC : PySem.W.nsIn X.K mainGlobals x = some (some (.ref C))) (hr : Room k X.A) (hk : 1 ≤ k) (ha : AJ X Wx S [a] fa) (hg : Gl X x := by rfl) (hdb : (x == ("__debug__" : Str)) = false := by decide)
    (he : starEach (a :: []) X.env = (false, eval a X.env) :: starEach [] X.env := by rfl) (hpl : (backTo pos (starEach [] X.env)).any (·.1) = false := by rfl) :
    SJ X Wx S (.Raise (some (.Call (.Name x p) [a] [] pos)) none pos2) (fRaise1 x n fa) := by
  obtain ⟨t, pa, qa⟩ := ha.ex
  refine ⟨_, ps_raise hc tk (pmk_sup T gC hr hk pa hg hdb he hpl), fun B F0 F H σ ρ E st post => ?_⟩
  refine qa B F0 F H σ ρ _ st ?_
  unfold fRaise1 at post
  cases e : fa ρ with
  | bad => rw [e] at post; exact post
  | exc x ρ1 => rw [e] at post; exact fun cls dd F' H' st' s rx => post cls dd σ F' H' st' s rx
  | ok ds ρ1 =>
    rw [e] at post
    intro vs F' H' st' sm rv
    match ds, rv, post with
    | [], _, post => exact post.elim
    | _ :: _ :: _, _, post => exact post.elim
    | [d], .cons rv .nil, post =>
      refine ⟨_, rfl, fun dd hdd => post (.ref C) (some dd) σ (upd F' dd (.xd [(n, _)])) _ (st'.ext (Ext.laid st'.fz.fH hdd)) (sm.trans (same_upd (none_of_same st'.fz.fH hdd))) ⟨⟨C, nC, rfl⟩, .inr ⟨dd, _, rfl, upd_same, ?_⟩⟩⟩
      exact .cons (rv.mono (same_upd (none_of_same st'.fz.fH hdd))) .nil
end
end PD
set_option Elab.async false
set_option linter.all false
set_option maxRecDepth 100000
set_option maxHeartbeats 4000000
/-! PDX1: try, except X as e, the suite: e.f, isinstance(e, C); raise of a class without fields. -/
namespace PD
open PySem PySem.Spec L2

def unX : Sl → Sl
  | .ex _ => .un
  | s => s
def noX (ρ : En) : En := ρ.map unX
theorem noX_d {ρ : En} {i : Nat} {d : D} (h : (noX ρ)[i]? = some (.d d)) : ρ[i]? = some (.d d) := by
  unfold noX at h
  rw [List.getElem?_map] at h
  cases e : ρ[i]? with
  | none => rw [e] at h; cases h
  | some s =>
    rw [e] at h
    cases s <;> simp [unX] at h
    rw [h]
theorem noX_own {ρ : En} {i : Nat} {d : List D} (h : (noX ρ)[i]? = some (.own d)) : ρ[i]? = some (.own d) := by
  unfold noX at h
  rw [List.getElem?_map] at h
  cases e : ρ[i]? with
  | none => rw [e] at h; cases h
  | some s =>
    rw [e] at h
    cases s <;> simp [unX] at h
    rw [h]
theorem noX_ex {ρ : En} {i : Nat} {d : Exc} (h : (noX ρ)[i]? = some (.ex d)) : False := by
  unfold noX at h
  rw [List.getElem?_map] at h
  cases e : ρ[i]? with
  | none => rw [e] at h; cases h
  | some s =>
    rw [e] at h
    cases s <;> simp [unX] at h
section
variable {K : PySem.W.Frag} {S S' : Sx} {B F0 F H : Hp} {σ : St} {ρ : En}
theorem St2.noX (s : St2 ⟨K, S, B, F0⟩ F H σ ρ) : St2 ⟨K, S', B, F0⟩ F H σ (noX ρ) where
  fz := ⟨s.fz.f01, s.fz.fH, s.fz.bH, s.fz.new⟩
  len := by
    have := s.len
    unfold PD.noX
    rw [List.length_map]
    exact this
  atD := fun i d h => s.atD i d (noX_d h)
  atO := fun i d h => s.atO i d (noX_own h)
  atX := fun i d h => (noX_ex h).elim
  dis := fun i j p xs ys hij h1 h2 => s.dis i j p xs ys hij (noX_own h1) (noX_own h2)
theorem St2.storeX {i : Nat} {a : Addr} {cls : Value} {dd : Option Addr} {x : Exc} (s : St2 ⟨K, ⟨a, cls, dd⟩, B, F0⟩ F H σ ρ) (hi : i < ρ.length) (r : RepX K F cls dd x) : St2 ⟨K, ⟨a, cls, dd⟩, B, F0⟩ F H (σ.set i (some (.ref a))) (ρ.set i (.ex x)) where
  fz := s.fz
  len := by rw [List.length_set, List.length_set]; exact s.len
  atD := fun j e hj => by
    by_cases hij : i = j
    · subst hij
      rw [List.getElem?_set_self hi] at hj
      cases hj
    · rw [List.getElem?_set_ne hij] at hj ⊢
      exact s.atD j e hj
  atO := fun j e hj => by
    by_cases hij : i = j
    · subst hij
      rw [List.getElem?_set_self hi] at hj
      cases hj
    · rw [List.getElem?_set_ne hij] at hj ⊢
      exact s.atO j e hj
  atX := fun j e hj => by
    by_cases hij : i = j
    · subst hij
      rw [List.getElem?_set_self hi] at hj
      cases hj
      exact ⟨List.getElem?_set_self (by rw [s.len]; exact hi), r⟩
    · rw [List.getElem?_set_ne hij] at hj ⊢
      exact s.atX j e hj
  dis := fun a b p xs ys hab h1 h2 h3 => by
    by_cases ha : i = a
    · subst ha
      rw [List.getElem?_set_self hi] at h1
      cases h1
    · by_cases hb : i = b
      · subst hb
        rw [List.getElem?_set_self hi] at h2
        cases h2
      · rw [List.getElem?_set_ne ha] at h1 h3
        rw [List.getElem?_set_ne hb] at h2 ⊢
        exact s.dis a b p xs ys hab h1 h2 h3
theorem St2.unset {Z : Fx} (i : Nat) (s : St2 Z F H σ ρ) : St2 Z F H (σ.set i none) (ρ.set i .un) where
  fz := s.fz
  len := by rw [List.length_set, List.length_set]; exact s.len
  atD := fun j e hj => by
    by_cases hij : i = j
    · subst hij
      rw [List.getElem?_set] at hj
      simp only [↓reduceIte] at hj
      split at hj <;> cases hj
    · rw [List.getElem?_set_ne hij] at hj ⊢
      exact s.atD j e hj
  atO := fun j e hj => by
    by_cases hij : i = j
    · subst hij
      rw [List.getElem?_set] at hj
      simp only [↓reduceIte] at hj
      split at hj <;> cases hj
    · rw [List.getElem?_set_ne hij] at hj ⊢
      exact s.atO j e hj
  atX := fun j e hj => by
    by_cases hij : i = j
    · subst hij
      rw [List.getElem?_set] at hj
      simp only [↓reduceIte] at hj
      split at hj <;> cases hj
    · rw [List.getElem?_set_ne hij] at hj ⊢
      exact s.atX j e hj
  dis := fun a b p xs ys hab h1 h2 h3 => by
    by_cases ha : i = a
    · subst ha
      rw [List.getElem?_set] at h1
      simp only [↓reduceIte] at h1
      split at h1 <;> cases h1
    · by_cases hb : i = b
      · subst hb
        rw [List.getElem?_set] at h2
        simp only [↓reduceIte] at h2
        split at h2 <;> cases h2
      · rw [List.getElem?_set_ne ha] at h1 h3
        rw [List.getElem?_set_ne hb] at h2 ⊢
        exact s.dis a b p xs ys hab h1 h2 h3
end
/-- behind a suite -/
def Fl.out (i : Nat) : Fl → Fl
  | .nx ρ => .nx ((noX ρ).set i .un)
  | .bk ρ => .bk ((noX ρ).set i .un)
  | .ct ρ => .ct ((noX ρ).set i .un)
  | .rt d => .rt d
  | _ => .bad
def fTry (i : Nat) (tbl : Str → Option Bool) (f g : En → Fl) : En → Fl := fun ρ => match f ρ with
  | .exc x ρ1 => match tbl x.n with
    | some true => if i < ρ1.length then (g ((noX ρ1).set i (.ex x))).out i else .bad
    | some false => .exc x ρ1
    | none => .bad
  | r => r
/-- what an except clause's class says of the classes that come -/
def ExT (K : PySem.W.Frag) (c : Value) (tbl : Str → Option Bool) : Prop := ∀ n b, tbl n = some b → ∀ C, PySem.W.nsIn K mainGlobals n = some (some (.ref C)) → PySem.W.exmOne K (.ref C) c = some b
abbrev WF : WX := fun _ _ _ _ => False
section
variable {X : Cx} {Wx : WX} {S : Sx}
theorem sj_try {x n : Str} {c : Value} {i : Nat} {body suite : List Stmt} {b₀ : Stmt} {np pos pos' : Pos} {tbl : Str → Option Bool} {f g : En → Fl} (tk : Takes X Wx) (hc : Names X x c) (ht : ExT X.K c tbl)
    (hb : ∀ (W : WX) (pn : List (Addr × Obj)) (xe : Value → Shared → Prop), Takes (X.tr pn xe) W → PassesOwn (model X.prog X.w) X.A X.env xe → BJ (X.tr pn xe) W S body f)
    (hsu : ∀ (a : Addr) (oe : Obj) (cls : Value) (d : Option Addr) (pn : List (Addr × Obj)), Zc cls d oe → (∃ vs, oe.data = .fields vs) → BJ (X.suite a ((a, oe) :: pn)) WF ⟨a, cls, d⟩ (b₀ :: suite) g)
    (hN : X.N.Nodup) (hi : X.N[i]? = some n := by rfl) (hs : X.stack = X.env :: X.outer := by rfl) (hf : X.env.frame = some X.env.locals := by rfl) (hln : X.env.kindOf n = some .local := by rfl) :
    SJ X Wx S (.Try body [.ExceptHandler (some (.Name x np)) (some n) (b₀ :: suite) pos'] [] [] pos) (fTry i tbl f g) := by
  have hb' := fun W pn xe tk po => (hb W pn xe tk po).ex
  have hsu' := fun a oe cls d pn hz hf => (hsu a oe cls d pn hz hf).ex
  let tb : WX → TS := fun W E σ H => ∀ pn xe tk po, Classical.choose (hb' W pn xe tk po) E σ H
  let ts : Addr → Value → Option Addr → TS := fun a cls d E σ H => ∀ oe pn hz hf, Classical.choose (hsu' a oe cls d pn hz hf) E σ H
  refine ⟨_, ps_try_as (i := i) (tb := tb) (ts := ts) (Wout := Wx) hs hf hN hi hln hc tk (fun W pn xe tk po => ⟨fun pins s σ H D I h => (Classical.choose_spec (hb' W pn xe tk po)).1.run pins s σ H D I (h pn xe tk po)⟩)
    (fun a oe cls d pn hz hf => ⟨fun pins s σ H D I h => (Classical.choose_spec (hsu' a oe cls d pn hz hf)).1.run pins s σ H D I (h oe pn hz hf)⟩), fun B F0 F H σ ρ E st post => ?_⟩
  intro pn xe tk' po
  refine (Classical.choose_spec (hb' _ pn xe tk' po)).2 B F0 F H σ ρ E st ?_
  unfold fTry at post
  cases ef : f ρ with
  | bad => rw [ef] at post; exact post
  | nx ρ1 => rw [ef] at post; exact post
  | rt d => rw [ef] at post; exact post
  | bk ρ1 => rw [ef] at post; exact post
  | ct ρ1 => rw [ef] at post; exact post
  | exc x1 ρ1 =>
    rw [ef] at post
    replace post : SPost (fx X S B F0) Wx F (match tbl x1.n with
      | some true => if i < ρ1.length then (g ((noX ρ1).set i (.ex x1))).out i else .bad
      | some false => .exc x1 ρ1
      | none => .bad) E := post
    cases et : tbl x1.n with
    | none => rw [et] at post; exact post.elim
    | some b =>
      rw [et] at post
      intro cls dd σ' F' H' st' sm rx
      obtain ⟨⟨C, hC, rfl⟩, rx2⟩ := id rx
      refine ⟨b, ht _ _ et C hC, fun hbt a na => ?_, fun hbf => ?_⟩
      · subst hbt
        replace post : SPost (fx X S B F0) Wx F (if i < ρ1.length then (g ((noX ρ1).set i (.ex x1))).out i else .bad) E := post
        split at post
        · rename_i hil
          intro oe pn2 hz hf2
          have st2 : St2 (fx X ⟨a, .ref C, dd⟩ B F0) F' H' σ' (noX ρ1) := St2.noX (S' := ⟨a, .ref C, dd⟩) st'
          have hl : i < (noX ρ1).length := by unfold noX; rw [List.length_map]; exact hil
          have st3 := St2.storeX st2 hl rx
          refine (Classical.choose_spec (hsu' a oe (.ref C) dd pn2 hz hf2)).2 B F0 F' H' _ _ _ st3 ?_
          have hm : SPost (fx X S B F0) Wx F ((g ((noX ρ1).set i (.ex x1))).out i) E := post
          cases eg : g ((noX ρ1).set i (.ex x1)) with
          | bad => rw [eg] at hm; exact hm.elim
          | exc x2 ρ2 => rw [eg] at hm; exact hm.elim
          | nx ρ2 =>
            rw [eg] at hm
            exact fun σ2 F2 H2 st4 s4 => hm _ F2 H2 ((St2.noX (S' := S) st4).unset i) (sm.trans s4)
          | bk ρ2 =>
            rw [eg] at hm
            exact fun σ2 F2 H2 st4 s4 => hm _ F2 H2 ((St2.noX (S' := S) st4).unset i) (sm.trans s4)
          | ct ρ2 =>
            rw [eg] at hm
            exact fun σ2 F2 H2 st4 s4 => hm _ F2 H2 ((St2.noX (S' := S) st4).unset i) (sm.trans s4)
          | rt d =>
            rw [eg] at hm
            exact fun v F2 H2 z rv => hm v F2 H2 ⟨z.f01, z.fH, z.bH, z.new⟩ rv
        · exact post.elim
      · subst hbf
        exact post (.ref C) dd σ' F' H' st' sm rx

/-! ### in the suite -/
/-- e.f -/
def fXf (i : Nat) (okn : Str → Bool) (f : Str) : En → Res D := fun ρ => match ρ[i]? with
  | some (.ex x) => if okn x.n = true then ofO (x.fs.lookup f) ρ else .bad
  | _ => .bad
def XfT (K : PySem.W.Frag) (okn : Str → Bool) (f : Str) : Prop := ∀ n, okn n = true → ∀ C, PySem.W.nsIn K mainGlobals n = some (some (.ref C)) → XfC K C ∧ PySem.W.findIn K (.ref C) f = some none
theorem repF_lookup {K : PySem.W.Frag} {F : Hp} {f : Str} : ∀ {fs : List (Str × V)} {ds : List (Str × D)}, RepF K F fs ds → ∀ {d : D}, ds.lookup f = some d → ∃ v, fs.lookup f = some v ∧ Rep K F v d
  | _, _, .nil, d, h => by cases h
  | _, _, @RepF.cons _ _ g v e vs ds h r, d, l => by
    by_cases hg : f = g
    · subst hg
      simp [List.lookup] at l
      subst l
      exact ⟨v, by simp [List.lookup], h⟩
    · have hb : (f == g) = false := by simpa using hg
      simp only [List.lookup, hb] at l ⊢
      exact repF_lookup r l
section
variable {a : Addr} {oe : Obj} {cls : Value} {dd : Option Addr} {pn : List (Addr × Obj)}
theorem ej_xf (i : Nat) {okn : Str → Bool} {f n : Str} {p pos : Pos} (T : XfT X.K okn f) (hz : Zc cls dd oe) (hf : ∃ vs, oe.data = .fields vs) (hN : X.N[i]? = some n := by rfl) (hv : Vis X.env.scope n := by first | exact Or.inl rfl | exact Or.inr (Or.inl rfl) | exact Or.inr (Or.inr rfl))
    (hd : (n == ("__debug__" : Str)) = false := by decide) (hcd : (n == ("__classdict__" : Str)) = false := by decide) (hb : attributeBase (.Name n p) f X.env (eval (.Name n p) X.env) = eval (.Name n p) X.env := by rfl) :
    EJ (X.suite a ((a, oe) :: pn)) Wx ⟨a, cls, dd⟩ (.Attribute (.Name n p) f pos) (fXf i okn f) := by
  let t : TE := fun σ H Q => ∃ C, (XfC X.K C ∧ PySem.W.findIn X.K (.ref C) f = some none) ∧ tXf a cls dd C f (tVar i) σ H Q
  refine ⟨t, ⟨fun pins s σ H Q I ⟨C, ⟨h1, h2⟩, h3⟩ => (pe_xf h1 h2 hz hf (pe_var (X := X.suite a ((a, oe) :: pn)) hN hv hd hcd) hb).run pins s σ H Q I h3⟩, fun B F0 F H σ ρ Q st post => ?_⟩
  unfold fXf at post
  split at post
  · rename_i x e
    split at post
    · rename_i hk
      obtain ⟨d, hd2, k⟩ := post.ofO
      obtain ⟨h1, ⟨C, hC, hcls⟩, h2⟩ := st.atX i x e
      rcases h2 with ⟨_, h2⟩ | ⟨da, fs, h2, h3, h4⟩
      · rw [h2] at hd2
        cases hd2
      · obtain ⟨v, l, rv⟩ := repF_lookup h4 hd2
        exact ⟨C, T _ hk C hC, .ref a, h1, rfl, hcls, da, fs, v, h2, st.fz.fH _ _ h3, l, k v F H st (Same.refl _) rv⟩
    · exact post.elim
  · exact post.elim
/-- isinstance(e, C) -/
def fIsE (i : Nat) (tbl : Str → Option Bool) : En → Res D := fun ρ => match ρ[i]? with
  | some (.ex x) => ofO ((tbl x.n).map D.bl) ρ
  | _ => .bad
def IsT (K : PySem.W.Frag) (c : Value) (tbl : Str → Option Bool) : Prop := ∀ n b, tbl n = some b → ∀ C, PySem.W.nsIn K mainGlobals n = some (some (.ref C)) → ExcC K C ∧ PySem.W.kitOne K (.ref C) c = some b
def rIsX (K : PySem.W.Frag) (a : Addr) (cls : Value) (cv : Value) : List V → Hp → VK → Prop := fun xs H Q => ∃ (C : Addr) (dd' : Option Addr) (c : V) (b : Bool), cls = .ref C ∧ ExcC K C ∧ xs = [.ref a, c] ∧ (∀ u, RelV c u → u = cv) ∧ PySem.W.kitOne K (.ref C) cv = some b ∧ Q (.bl b) H
theorem call_isX {cv : Value} (hz : Zc cls dd oe) (hf : ∃ vs, oe.data = .fields vs) (hdd : ∀ d, dd = some d → True) : CallR (X.suite a ((a, oe) :: pn)) (.builtin "isinstance") (fun xs H Q => (dd = none ∨ ∃ d fs, dd = some d ∧ H d = some (.xd fs)) ∧ rIsX X.K a cls cv xs H Q) := by
  intro pins s σ H xs us Q I r h
  obtain ⟨hdict, C, dd', c, b, ec, T, rfl, hcv, e, q⟩ := h
  subst ec
  cases r with
  | cons rx rr =>
    cases rr with
    | cons rt rr =>
      cases rr
      cases rx
      have ec := hcv _ rt
      subst ec
      obtain ⟨hget, _⟩ := I.pin (a, oe) (List.mem_append.mpr (.inl List.mem_cons_self))
      obtain ⟨vs, hv⟩ := hf
      have J : ∃ od, PySem.W.InstAt s.heap a oe C od := by
        obtain ⟨oc, od, oda, osl⟩ := oe
        obtain ⟨h1, h2⟩ := hz
        dsimp only at h1 h2 hv
        subst h1 h2 hv
        rcases hdict with h | ⟨d, fs, h, hd⟩
        · subst h
          exact ⟨none, hget, rfl, rfl, trivial⟩
        · subst h
          have hx : ObjOk X.prog X.w H s.heap d (.xd fs) := I.hok d _ hd
          obtain ⟨mA, ⟨o, _, _, ho, _⟩, _⟩ := hx
          exact ⟨some o, hget, rfl, rfl, ho⟩
      obtain ⟨od, J⟩ := J
      obtain ⟨cdD, hcD, _⟩ := PySem.W.any_some T.hd
      exact PySem.W.kia_one (PySem.W.kitx_exc (by rw [hcD]; rfl) T.hg T.hk T.hs T.ha T.hn T.ht T.hm) I.kIn J e (fun z => nomatch z) fun tk => ⟨.bl b, H, I.kept (t' := tk) fun _ _ z => z, rfl, q⟩
theorem ej_isE (i : Nat) {tbl : Str → Option Bool} {n cn : Str} {c : V} {cv : Value} {p p1 p2 pos : Pos} (T : IsT X.K cv tbl) (hm : X.mg "isinstance" = none) (hz : Zc cls dd oe) (hf : ∃ vs, oe.data = .fields vs) (hc : PE (X.suite a ((a, oe) :: pn)) (.Name cn p2) (tC c)) (hcv : ∀ u, RelV c u → u = cv) (hN : X.N[i]? = some n := by rfl) (hv : Vis X.env.scope n := by first | exact Or.inl rfl | exact Or.inr (Or.inl rfl) | exact Or.inr (Or.inr rfl))
    (hd : (n == ("__debug__" : Str)) = false := by decide) (hcd : (n == ("__classdict__" : Str)) = false := by decide) (hg : Gl X "isinstance" := by rfl)
    (he : starEach [.Name n p1, .Name cn p2] X.env = (false, eval (.Name n p1) X.env) :: starEach [.Name cn p2] X.env := by rfl) (he2 : starEach [.Name cn p2] X.env = (false, eval (.Name cn p2) X.env) :: starEach [] X.env := by rfl) (hpl : (backTo pos (starEach [.Name cn p2] X.env)).any (·.1) = false := by rfl) :
    EJ (X.suite a ((a, oe) :: pn)) Wx ⟨a, cls, dd⟩ (.Call (.Name "isinstance" p) [.Name n p1, .Name cn p2] [] pos) (fIsE i tbl) := by
  refine ⟨_, pe_callB (X := X.suite a ((a, oe) :: pn)) (call_isX (cv := cv) hz hf (fun _ _ => trivial)) hg hm PyProof.Rows.boot_isinstance (pa_cons (pe_var (X := X.suite a ((a, oe) :: pn)) hN hv hd hcd) (pa_cons hc pa_nil he2) he) (by decide) (by decide) he hpl, fun B F0 F H σ ρ Q st post => ?_⟩
  unfold fIsE at post
  split at post
  · rename_i x e
    obtain ⟨d, hd2, k⟩ := post.ofO
    obtain ⟨h1, ⟨C, hC, hcls⟩, h2⟩ := st.atX i x e
    cases et : tbl x.n with
    | none => rw [et] at hd2; cases hd2
    | some b =>
      rw [et] at hd2
      cases hd2
      obtain ⟨t1, t2⟩ := T _ _ et C hC
      refine ⟨.ref a, h1, ?_⟩
      refine ⟨?_, C, dd, c, b, hcls, t1, rfl, hcv, t2, k _ F H st (Same.refl _) (.bl b)⟩
      rcases h2 with ⟨h2, _⟩ | ⟨da, fs, h2, h3, _⟩
      · exact .inl h2
      · exact .inr ⟨da, fs, h2, st.fz.fH _ _ h3⟩
  · exact post.elim
end
end
end PD
set_option Elab.async false
set_option linter.all false
set_option maxRecDepth 100000
set_option maxHeartbeats 4000000
/-! PDF: minus, chains of comparisons; a def with defaults; what is taken and passed on. -/
namespace PD
open PySem PySem.Spec L2
section
variable {X : Cx} {Wx : WX} {S : Sx}
def negD : D → Option D
  | .int i => some (.int (-i))
  | _ => none
def fUn (g : D → Option D) (f : En → Res D) : En → Res D := fun ρ => (f ρ).bind fun d ρ1 => ofO (g d) ρ1
theorem ej_neg {a : Expr} {pos : Pos} {f : En → Res D} (ha : EJ X Wx S a f) : EJ X Wx S (.UnaryOp .USub a pos) (fUn negD f) := by
  obtain ⟨t, pa, qa⟩ := ha.ex
  refine ⟨_, pe_un un_neg pa, fun B F0 F H σ ρ Q st post => qa B F0 F H σ ρ _ st (post.bind fun d ρ1 v F1 H1 post1 st1 s1 r1 => ?_)⟩
  obtain ⟨z, hz, k⟩ := post1.ofO
  cases r1 <;> (try (cases hz; done))
  rename_i i
  cases hz
  exact ⟨i, rfl, k _ F1 H1 st1 (Same.refl _) (.int _)⟩
/-- a op b op' c, the middle one seen once -/
def fChain (g g' : D → D → Option D) (fa fb fc : En → Res D) : En → Res D := fun ρ => (fa ρ).bind fun x ρ1 => (fb ρ1).bind fun y ρ2 => match g x y with
  | some (.bl true) => (fc ρ2).bind fun z ρ3 => ofO (g' y z) ρ3
  | some (.bl false) => .ok (.bl false) ρ2
  | _ => .bad
def fChainB (g g' : D → D → Option D) (fa fb fc : En → Res D) : En → Res Bool := fun ρ => (fChain g g' fa fb fc ρ).bind fun d ρ1 => ofO (boolD d) ρ1
theorem chain_core {op op' : CmpOp} {g g' : D → D → Option D} {a b c : Expr} {fa fb fc : En → Res D} (ho : OpJ X (compareOp op) g) (ho' : OpJ X (compareOp op') g') (ha : EJ X Wx S a fa) (hb : EJ X Wx S b fb) (hc : EJ X Wx S c fc) :
    ∃ r r' ta tb tc, OpR X (compareOp op) r ∧ OpR X (compareOp op') r' ∧ PE X a ta ∧ PE X b tb ∧ PE X c tc ∧
      ∀ B F0 F H σ ρ Q, St2 (fx X S B F0) F H σ ρ → Post (Rep X.K) (fx X S B F0) Wx σ F (fChain g g' fa fb fc ρ) Q → tChain r r' ta tb tc σ H Q := by
  obtain ⟨r, p, q⟩ := ho
  obtain ⟨r', p', q'⟩ := ho'
  obtain ⟨ta, pa, qa⟩ := ha.ex
  obtain ⟨tb, pb, qb⟩ := hb.ex
  obtain ⟨tc, pc, qc⟩ := hc.ex
  refine ⟨r, r', ta, tb, tc, p, p', pa, pb, pc, fun B F0 F H σ ρ Q st post => ?_⟩
  refine qa B F0 F H σ ρ _ st (post.bind fun x ρ1 v F1 H1 post1 st1 s1 r1 => ?_)
  refine qb B F0 F1 H1 σ ρ1 _ st1 (post1.bind fun y ρ2 u F2 H2 post2 st2 s2 r2 => ?_)
  cases e : g x y with
  | none => rw [e] at post2; exact post2.elim
  | some z =>
    refine q F2 H2 v u x y z _ st2.fz.fH (r1.mono s2) r2 e fun zv F3 H3 ex rz => ?_
    rw [e] at post2
    cases z <;> (try (exact post2.elim))
    rename_i k
    cases rz
    refine ⟨k, rfl, ?_⟩
    cases k with
    | true =>
      rw [if_pos rfl]
      replace post2 : Post (Rep X.K) (fx X S B F0) Wx σ F2 ((fc ρ2).bind fun z ρ3 => ofO (g' y z) ρ3) Q := post2
      refine qc B F0 F3 H3 σ ρ2 _ (st2.ext ex) ((Post.mono post2 ex.ff).bind fun c ρ3 w F4 H4 post4 st4 s4 r4 => ?_)
      obtain ⟨zz, hz, k⟩ := post4.ofO
      exact q' F4 H4 u w y c zz _ st4.fz.fH (r2.mono (ex.ff.trans s4)) r4 hz fun v5 F5 H5 ex5 r5 => k v5 F5 H5 (st4.ext ex5) ex5.ff r5
    | false =>
      rw [if_neg Bool.false_ne_true]
      exact post2 (.bl false) F3 H3 (st2.ext ex) ex.ff (.bl false)
theorem ej_chain {op op' : CmpOp} {g g' : D → D → Option D} {a b c : Expr} {pos : Pos} {fa fb fc : En → Res D} (ho : OpJ X (compareOp op) g) (ho' : OpJ X (compareOp op') g') (ha : EJ X Wx S a fa) (hb : EJ X Wx S b fb) (hc : EJ X Wx S c fc)
    (hm : lastMarks [op, op'] [b, c] = false := by with_unfolding_all rfl) : EJ X Wx S (.Compare a [op, op'] [b, c] pos) (fChain g g' fa fb fc) := by
  obtain ⟨r, r', ta, tb, tc, p, p', pa, pb, pc, k⟩ := chain_core ho ho' ha hb hc
  exact ⟨_, pe_chain p p' pa pb pc hm, k⟩
theorem tj_chain {op op' : CmpOp} {g g' : D → D → Option D} {a b c : Expr} {pos : Pos} {fa fb fc : En → Res D} (ho : OpJ X (compareOp op) g) (ho' : OpJ X (compareOp op') g') (ha : EJ X Wx S a fa) (hb : EJ X Wx S b fb) (hc : EJ X Wx S c fc)
    (hm : lastMarks [op, op'] [b, c] = false := by with_unfolding_all rfl) : TJ X Wx S (.Compare a [op, op'] [b, c] pos) (fChainB g g' fa fb fc) := by
  obtain ⟨r, r', ta, tb, tc, p, p', pa, pb, pc, k⟩ := chain_core ho ho' ha hb hc
  refine ⟨_, pt_chain p p' pa pb pc hm, fun B F0 F H σ ρ Q st post => k B F0 F H σ ρ _ st (post.bind fun d ρ1 v F1 H1 post1 st1 s1 r1 => ?_)⟩
  obtain ⟨z, hz, kk⟩ := post1.ofO
  cases r1 <;> (try (cases hz; done))
  cases hz
  exact ⟨_, rfl, kk _ F1 H1 st1 (Same.refl _) rfl⟩
end
/-! ### defs -/
theorem hu64 {k : Nat} {A : Around} (hr : Room k A) : A.units + 64 < cLine := by
  have := hr.un
  omega
section
variable {P : Program} {w : World} {K : PySem.W.Frag} {mg : Str → Option Value} {base : Heap} {N : List Str} {qual : Str} {sc : Scope} {f : Addr} {cdv : Value} {A : Around} {outer : List Env} {s : Shared} {H : Hp} {E : XK}
theorem takes_cx : Takes (cxOf (L2.CX P w) P w K mg base N qual sc f cdv A outer s H E) (wE E) := takes_of rfl rfl rfl rfl
theorem owns_cx : PassesOwn (model P w) (cxOf (L2.CX P w) P w K mg base N qual sc f cdv A outer s H E).A (cxOf (L2.CX P w) P w K mg base N qual sc f cdv A outer s H E).env (cxOf (L2.CX P w) P w K mg base N qual sc f cdv A outer s H E).xe :=
  passes_of (X := cxOf (L2.CX P w) P w K mg base N qual sc f cdv A outer s H E) (K := fun e s'' => L2.CX P w outer H s E e s'') rfl
end
theorem fnj_ofD {P : Program} {w : World} {K : PySem.W.Frag} {mg : Str → Option Value} {base : Heap} {x qual : Str} {params : Arguments} {bd : List Stmt} {sc : Scope} {dvs : List V} {kws : List (Str × V)} {f : Addr} {fd : FuncData} {N ps : List Str} {k : Nat} {body : En → Fl} (Fn : FunD K x qual params bd sc dvs kws f fd) (Sc : FnScope N ps sc)
    (hb : ∀ (cdv : Value) (A : Around) (outer : List Env) (s : Shared) (H : Hp) (E : XK), Room k (A.deeper (PyProof.Rows.envOfC qual sc s.heap.objs.size f cdv)) →
      BJ (cxOf (L2.CX P w) P w K mg base N qual sc f cdv A outer s H E) (wE E) S0 bd body) : FnJ P w K mg base (k + 1) f fd ps (fnD ps.length N.length body) := by
  refine ⟨Fn.ok Sc (fun vs H Q E h => h.1) fun cdv A outer s H vs Q E hr h => ?_, fun ds h => ?_⟩
  · obtain ⟨hl, F, ds, sF, r, post⟩ := h
    obtain ⟨t, p, q⟩ := (hb cdv A outer s H E hr).ex
    refine ⟨t, p, q H F F H _ _ _ (st2_start sF r) ?_⟩
    have hdl : ds.length = ps.length := by rw [← r.length]; exact hl
    unfold fnD at post
    rw [if_pos hdl] at post
    have ext : ∀ {F' H' : Hp}, Fz ⟨K, S0, H, F⟩ F' H' → Ext F H F' H' := fun z => ⟨z.f01, z.fH, z.bH, z.new⟩
    cases e : body (startE N.length ds) with
    | nx ρ =>
      rw [e] at post
      exact fun σ' F' H' st' _ => post .non F' H' (ext st'.fz) .non
    | rt d =>
      rw [e] at post
      exact fun v F' H' z rv => post v F' H' (ext z) rv
    | exc x ρ =>
      rw [e] at post
      exact fun cls dd σ' F' H' st' _ rx => post cls dd F' H' (ext st'.fz) rx
    | bk ρ =>
      rw [e] at post
      exact post.elim
    | ct ρ =>
      rw [e] at post
      exact post.elim
    | bad =>
      rw [e] at post
      exact post.elim
  · unfold fnD at h
    split at h
    · assumption
    · exact absurd rfl h
end PD
set_option Elab.async false
set_option linter.all false
set_option maxRecDepth 100000
set_option maxHeartbeats 4000000
/-! PDZ: the end: tables of classes, the law's head. -/
namespace PD
open PySem PySem.Spec L2
section
variable {K : PySem.W.Frag}
theorem ext_nil {c : Value} : ExT K c (fun n => List.lookup n []) := fun n b h => by cases h
theorem ext_cons {c : Value} {n0 : Str} {b : Bool} {C : Addr} {l : List (Str × Bool)} (h1 : PySem.W.nsIn K mainGlobals n0 = some (some (.ref C))) (h2 : PySem.W.exmOne K (.ref C) c = some b) (h3 : ExT K c (fun n => List.lookup n l)) : ExT K c (fun n => List.lookup n ((n0, b) :: l)) := fun n b' h C' hC => by
  by_cases e : n = n0
  · subst e
    simp [List.lookup] at h
    subst h
    rw [h1] at hC
    cases hC
    exact h2
  · have e' : (n == n0) = false := by simpa using e
    simp only [List.lookup, e'] at h
    exact h3 n b' h C' hC
theorem ist_nil {c : Value} : IsT K c (fun n => List.lookup n []) := fun n b h => by cases h
theorem ist_cons {c : Value} {n0 : Str} {b : Bool} {C : Addr} {l : List (Str × Bool)} (h1 : PySem.W.nsIn K mainGlobals n0 = some (some (.ref C))) (h0 : ExcC K C) (h2 : PySem.W.kitOne K (.ref C) c = some b) (h3 : IsT K c (fun n => List.lookup n l)) : IsT K c (fun n => List.lookup n ((n0, b) :: l)) := fun n b' h C' hC => by
  by_cases e : n = n0
  · subst e
    simp [List.lookup] at h
    subst h
    rw [h1] at hC
    cases hC
    exact ⟨h0, h2⟩
  · have e' : (n == n0) = false := by simpa using e
    simp only [List.lookup, e'] at h
    exact h3 n b' h C' hC
theorem xft_nil {f : Str} : XfT K (fun n => List.contains [] n) f := fun n h => by cases h
theorem xft_cons {f n0 : Str} {C : Addr} {l : List Str} (h1 : PySem.W.nsIn K mainGlobals n0 = some (some (.ref C))) (h0 : XfC K C) (h2 : PySem.W.findIn K (.ref C) f = some none) (h3 : XfT K (fun n => List.contains l n) f) : XfT K (fun n => List.contains (n0 :: l) n) f := fun n h C' hC => by
  by_cases e : n = n0
  · subst e
    rw [h1] at hC
    cases hC
    exact ⟨h0, h2⟩
  · have e' : (n == n0) = false := by simpa using e
    refine h3 n ?_ C' hC
    replace h : List.elem n (n0 :: l) = true := h
    show List.elem n l = true
    simp only [List.elem, e'] at h
    exact h
end
/-- no default stands, or one int -/
theorem dfl_none {K : PySem.W.Frag} : DflV K .none [] := .inl ⟨rfl, rfl⟩
theorem dfl_int {K : PySem.W.Frag} {T : Addr} {oc : Value} {od : Option Addr} {i : Int} {t : Tok} {n : Nat} {sl : Array (Option Value)} (h : K.lookup T = some ⟨oc, od, .seq [Value.int i t].toArray n, sl⟩) : DflV K (.ref T) [.int i] :=
  .inr ⟨by simp, T, _, [.int i t], n, rfl, h, rfl, .cons ⟨t, rfl⟩ .nil⟩
theorem bnd_none {K : PySem.W.Frag} {fd : FuncData} {ps : List Str} (h : Binds K fd ps []) : ∃ us, DfJ K us [] ∧ Binds K fd ps us := ⟨[], dfj_nil, h⟩
theorem bnd_int {K : PySem.W.Frag} {fd : FuncData} {ps : List Str} {i : Int} (h : ∃ ds, Vals ([.int i] : List V) ds ∧ Binds K fd ps ds) : ∃ us, DfJ K us [.int i] ∧ Binds K fd ps us := by
  obtain ⟨ds, h1, h2⟩ := h
  exact ⟨ds, ⟨_, h1, fun F => .cons (.int i) .nil⟩, h2⟩
/-- the law's own head -/
theorem walk_pd {l : PySem.W.OpenLaw} {k : Nat} {q : Program} {loose : List Str} {XP : (Str → Option Value) → Heap → Prop} {YP : World → Heap → Prop} {d : DefRec} {K : Params → PySem.W.Frag} (den : List D → FR) (hden : ∀ ns : List Int, ns.length ≤ 63 → den [.lst (ns.map D.int)] = .ok (.bl true))
    (hn : l.most = some 63) (hdf : d.params.defaults = []) (hr : Room k callerA) (hY : ∀ (w : World) (h : Heap), YP w h → (K w.params).In h)
    (F : ∀ (w : World) (mg : Str → Option Value) (fa : Addr) (h : Heap), (K w.params).In h → h.Ns mainGlobals mg → mg d.name = some (.ref fa) →
      ∃ fd : FuncData, (∀ (s : Shared) (u : Value), BindsTo s fd ⟨[u], []⟩ [("script", u)]) ∧ ∀ base : Heap, (K w.params).In base → base.Ns mainGlobals mg → FnOk l.prog w (K w.params) mg base (L2.CX l.prog w) k fa fd ["script"] (spD (K w.params) 1 den)) :
    PySem.W.WalkO q loose XP YP l.row.toRowW d [] (fun f vs => PySem.call f vs) := by
  refine L2.walk_of (n := 63) (k := k) (x := "script") (CX := fun w => L2.CX l.prog w) (sp := fun w => spD (K w.params) 1 den) hn (by decide) hdf hr hY F (fun w H a ns hl hO hS => ?_) fun w H s e s' z => ?_
  · refine ⟨rfl, H, [.lst (ns.map D.int)], Same.refl _, .cons (.lst hS (RepL.ints ns)) .nil, ?_⟩
    rw [hden ns hl]
    intro v F' H' _ r
    cases r
    rfl
  · obtain ⟨_, _, _, _, _, _, _, _, _, _, _, _, z⟩ := z
    exact z.elim
end PD
set_option Elab.async false
set_option linter.all false
set_option maxRecDepth 100000
set_option maxHeartbeats 4000000
/-! PV: plain readings: loops by invariants. -/
namespace PD
open PySem PySem.Spec L2
theorem forD_nil (g : D → En → Fl) (f : En → Fl) (ρ : En) : forD g f [] ρ = .nx ρ := rfl
theorem forD_cons (g : D → En → Fl) (f : En → Fl) (d : D) (r : List D) (ρ : En) : forD g f (d :: r) ρ = (match (g d ρ).seq f with
    | .nx ρ2 => forD g f r ρ2
    | .ct ρ2 => forD g f r ρ2
    | .bk ρ2 => .nx ρ2
    | z => z) := rfl
theorem seq_bNil (r : Fl) : r.seq bNil = r := by cases r <;> rfl
theorem Fl.seq_assoc (r : Fl) (f g : En → Fl) : (r.seq f).seq g = r.seq fun ρ => (f ρ).seq g := by cases r <;> rfl
theorem fnD_app {np n : Nat} {body : En → Fl} {ds : List D} (h : ds.length = np) : fnD np n body ds = (body (startE n ds)).fin := if_pos h
theorem bSeq_app (f g : En → Fl) (ρ : En) : bSeq f g ρ = (f ρ).seq g := rfl
theorem bSeq_assoc (f g h : En → Fl) : bSeq f (bSeq g h) = bSeq (bSeq f g) h := by
  funext ρ
  show (f ρ).seq (fun ρ => (g ρ).seq h) = ((f ρ).seq g).seq h
  rw [Fl.seq_assoc]
theorem seq_bSeq (r : Fl) (f g : En → Fl) : r.seq (bSeq f g) = (r.seq f).seq g := (Fl.seq_assoc r f g).symm
/-- a loop that runs through or ends by return, by an invariant -/
theorem forD_inv {g : D → En → Fl} {f : En → Fl} (P : Nat → En → Prop) (Z : Fl → Prop) : ∀ (ds : List D) (k : Nat) (ρ : En),
    (∀ i d ρ, ds[i]? = some d → P (k + i) ρ → (∃ ρ', ((g d ρ).seq f = .nx ρ' ∨ (g d ρ).seq f = .ct ρ') ∧ P (k + i + 1) ρ') ∨ ((∃ v, (g d ρ).seq f = .rt v) ∧ Z ((g d ρ).seq f)) ∨ ((∃ x ρ', (g d ρ).seq f = .exc x ρ') ∧ Z ((g d ρ).seq f))) → P k ρ →
    (∃ ρ', forD g f ds ρ = .nx ρ' ∧ P (k + ds.length) ρ') ∨ Z (forD g f ds ρ)
  | [], k, ρ, _, h0 => .inl ⟨ρ, rfl, h0⟩
  | d :: r, k, ρ, h, h0 => by
    rw [forD_cons]
    rcases h 0 d ρ rfl h0 with ⟨ρ', e, h1⟩ | ⟨⟨v, e⟩, hz⟩ | ⟨⟨x, ρ', e⟩, hz⟩
    · have ih := forD_inv (g := g) (f := f) P Z r (k + 1) ρ' (fun i d' ρ2 hd hp => by
        have e1 : k + 1 + i = k + (i + 1) := by omega
        rw [e1] at hp ⊢
        exact h (i + 1) d' ρ2 (by simpa using hd) hp) h1
      have e2 : k + (d :: r).length = k + 1 + r.length := by rw [List.length_cons]; omega
      rw [e2]
      rcases e with e | e <;> rw [e] <;> exact ih
    · rw [e] at hz ⊢
      exact .inr hz
    · rw [e] at hz ⊢
      exact .inr hz
/-- a loop that runs through -/
theorem forD_thru {g : D → En → Fl} {f : En → Fl} (P : Nat → En → Prop) {ds : List D} {ρ : En} (h : ∀ i d ρ, ds[i]? = some d → P i ρ → ∃ ρ', ((g d ρ).seq f = .nx ρ' ∨ (g d ρ).seq f = .ct ρ') ∧ P (i + 1) ρ') (h0 : P 0 ρ) :
    ∃ ρ', forD g f ds ρ = .nx ρ' ∧ P ds.length ρ' := by
  have := forD_inv (g := g) (f := f) P (fun _ => False) ds 0 ρ (fun i d ρ hd hp => by
    rw [Nat.zero_add] at hp ⊢
    exact .inl (h i d ρ hd hp)) h0
  rw [Nat.zero_add] at this
  rcases this with h | h
  · exact h
  · exact h.elim
theorem dRange_inv {lo : Int} {n i : Nat} {d : D} (h : (dRange lo n)[i]? = some d) : i < n ∧ d = .int (lo + (i : Nat)) := by
  unfold dRange at h
  rw [List.getElem?_map] at h
  cases e : (List.range n)[i]? with
  | none => rw [e] at h; cases h
  | some j =>
    rw [e] at h
    cases h
    obtain ⟨h1, h2⟩ := List.getElem?_eq_some_iff.mp e
    rw [List.getElem_range] at h2
    subst h2
    exact ⟨by simpa using h1, rfl⟩
theorem dRange_inv0 {n i : Nat} {d : D} (h : (dRange 0 n)[i]? = some d) : i < n ∧ d = .int (i : Nat) := by
  obtain ⟨h1, h2⟩ := dRange_inv h
  rw [Int.zero_add] at h2
  exact ⟨h1, h2⟩
/-- ints as data -/
abbrev IL (ns : List Int) : D := .lst (ns.map D.int)
theorem atI_nat {α : Type} {xs : List α} {i : Nat} (h : i < xs.length) : atI xs (i : Int) = some xs[i] := by
  unfold atI ixN
  rw [if_pos (by omega), if_pos (by omega)]
  simp [h]
theorem subD_int {ns : List Int} {i : Int} (h0 : 0 ≤ i) (h1 : i < ns.length) : ∃ x, x ∈ ns ∧ subD (.lst (ns.map D.int)) (.int i) = some (.int x) := by
  obtain ⟨j, rfl⟩ : ∃ j : Nat, i = (j : Int) := ⟨i.toNat, by omega⟩
  have hj : j < ns.length := by omega
  refine ⟨ns[j], List.getElem_mem hj, ?_⟩
  show atI (ns.map D.int) (j : Int) = _
  rw [atI_nat (by simpa using hj)]
  simp
/-- the drawn row: ints from 0 to 996 -/
def rowLoop : En → Fl := (bSeq (sAsg (fVar 5) (setD 6)) (bSeq (sIf (fTst boolD (fBin gtD (fLenN 0) (fC (.int 0)))) (bSeq (sAsg (fLate 0 subD (fBin modI (fBlt intL (aCons (fVar 5) aNil)) (fBlt minL (aCons (fLenN 0) (aCons (fC (.int 63)) aNil))))) (setD 6)) bNil) bNil) (bSeq (sAsg (fBin modI (fBlt intL (aCons (fBin addD (fBin addD (fBin mulD (fVar 4) (fC (.int 48271))) (fBin mulD (fBin modI (fBlt intL (aCons (fVar 6) aNil)) (fC (.int 1000003))) (fC (.int 69621)))) (fBin mulD (fVar 5) (fC (.int 7907)))) aNil)) (fC (.int 2147483647))) (setD 4)) (bSeq (sIf (fTst boolD (fBin gtD (fVar 2) (fC (.int 0)))) (bSeq (sApp 3 (fBin modI (fBlt intL (aCons (fVar 2) aNil)) (fC (.int 997)))) (bSeq (sAsg (fBin fdivI (fVar 2) (fC (.int 997))) (setD 2)) bNil)) (bSeq (sApp 3 (fBin modI (fBlt intL (aCons (fBin fdivI (fVar 4) (fC (.int 11))) aNil)) (fC (.int 997)))) bNil)) bNil))))
def rowBody : En → Fl := (bSeq (sAsg (fC (.int 0)) (setD 2)) (bSeq (sIf (fAnd (fTst boolD (fBin gtD (fLenN 0) (fC (.int 0)))) (fTst boolD (fBin geD (fLate 0 subD (fC (.int 0))) (fBin powI (fC (.int 10)) (fC (.int 18)))))) (bSeq (sAsg (fLate 0 subD (fC (.int 0))) (setD 2)) bNil) bNil) (bSeq (sAsgO (oLst aNil) 3) (bSeq (sAsg (fC (.int 12345)) (setD 4)) (bSeq (sFor (iRange1 (aCons (fVar 1) aNil)) (setD 5) rowLoop) (bSeq (sRet (fVar 3)) bNil))))))
def rowP (ns : List Int) (many : Int) (i : Nat) (ρ : En) : Prop := ∃ (rest : Int) (row : List Int) (mixed : Int) (x5 x6 : Sl), ρ = [.d (.lst (ns.map D.int)), .d (.int many), .d (.int rest), .own (row.map D.int), .d (.int mixed), x5, x6] ∧ row.length = i ∧ ∀ r ∈ row, 0 ≤ r ∧ r < 997
theorem okM_r (i : Int) {j : Int} (h : j.natAbs < 2 ^ 64) : okM i j = true := by
  unfold okM
  rw [decide_eq_true h, Bool.or_true]
theorem mulD_ii {i j : Int} (h : j.natAbs < 2 ^ 64) : mulD (.int i) (.int j) = some (.int (i * j)) := by
  show (if okM i j = true then some (D.int (i * j)) else none) = _
  rw [if_pos (okM_r i h)]
theorem row_step {ns : List Int} {many : Int} {i : Nat} {j : Int} {ρ : En} (hi : i < 100000) (h : rowP ns many i ρ) : ∃ ρ', (((setD 5 (.int j) ρ).seq rowLoop = .nx ρ') ∨ (setD 5 (.int j) ρ).seq rowLoop = .ct ρ') ∧ rowP ns many (i + 1) ρ' := by
  obtain ⟨rest, row, mixed, x5, x6, rfl, hl, hr⟩ := h
  have e48 : ∀ i : Int, mulD (.int i) (.int 48271) = some (.int (i * 48271)) := fun i => mulD_ii (by decide)
  have e69 : ∀ i : Int, mulD (.int i) (.int 69621) = some (.int (i * 69621)) := fun i => mulD_ii (by decide)
  have e79 : ∀ i : Int, mulD (.int i) (.int 7907) = some (.int (i * 7907)) := fun i => mulD_ii (by decide)
  have hlim : row.length < lim := by rw [hl]; exact Nat.lt_of_lt_of_le hi (by decide)
  have hm : ∃ cell : Int, (bSeq (sAsg (fVar 5) (setD 6)) (sIf (fTst boolD (fBin gtD (fLenN 0) (fC (.int 0)))) (bSeq (sAsg (fLate 0 subD (fBin modI (fBlt intL (aCons (fVar 5) aNil)) (fBlt minL (aCons (fLenN 0) (aCons (fC (.int 63)) aNil))))) (setD 6)) bNil) bNil)) [.d (.lst (ns.map D.int)), .d (.int many), .d (.int rest), .own (row.map D.int), .d (.int mixed), .d (.int j), x6] =
      .nx [.d (.lst (ns.map D.int)), .d (.int many), .d (.int rest), .own (row.map D.int), .d (.int mixed), .d (.int j), .d (.int cell)] := by
    by_cases hn : 0 < ns.length
    · have hmin : minL [.int (ns.length : Nat), .int 63] = some (.int (if (63 : Int) < (ns.length : Nat) then 63 else (ns.length : Nat))) := rfl
      generalize hg : (if (63 : Int) < (ns.length : Nat) then (63 : Int) else (ns.length : Nat)) = m at hmin
      have hm0 : 0 < m := by split at hg <;> omega
      have hm1 : m ≤ ns.length := by split at hg <;> omega
      have h1 := Int.emod_nonneg j (b := m) (by omega)
      have h2 := Int.emod_lt_of_pos j hm0
      obtain ⟨x, hx, hs⟩ := subD_int h1 (Int.lt_of_lt_of_le h2 hm1)
      exact ⟨x, by simp [seq_bNil, bSeq, bNil, sAsg, sAsgO, setO, setD, sIf, sRet, sDrop, sFor, sApp, fC, fVar, fBin, fLate, slotD, fTst, boolD, fAnd, fOr, fNot, fUn, negD, fIf, fBlt, fLenN, fTup, fO, oLst, aNil, aCons, fSl, pNone, pSome, intD, fPop, ownAt, iSeq, iRange1, iRange2, iEnum1, addD, subI, modI, fdivI, cmpI, ltD, leD, gtD, geD, lenOf, lenL, intL, gUn, tsCons, tsNil, List.getElem?_cons_zero, List.getElem?_cons_succ, List.set_cons_zero, List.set_cons_succ, List.length_cons, List.length_nil, hn, hmin, hm0, hs]⟩
    · exact ⟨j, by simp [seq_bNil, bSeq, bNil, sAsg, sAsgO, setO, setD, sIf, sRet, sDrop, sFor, sApp, fC, fVar, fBin, fLate, slotD, fTst, boolD, fAnd, fOr, fNot, fUn, negD, fIf, fBlt, fLenN, fTup, fO, oLst, aNil, aCons, fSl, pNone, pSome, intD, fPop, ownAt, iSeq, iRange1, iRange2, iEnum1, addD, subI, modI, fdivI, cmpI, ltD, leD, gtD, geD, lenOf, lenL, intL, gUn, tsCons, tsNil, List.getElem?_cons_zero, List.getElem?_cons_succ, List.set_cons_zero, List.set_cons_succ, List.length_cons, List.length_nil, hn]⟩
  obtain ⟨cell, hm⟩ := hm
  have hrow : (setD 5 (.int j) [.d (.lst (ns.map D.int)), .d (.int many), .d (.int rest), .own (row.map D.int), .d (.int mixed), x5, x6]).seq rowLoop =
      (bSeq (sAsg (fVar 5) (setD 6)) (sIf (fTst boolD (fBin gtD (fLenN 0) (fC (.int 0)))) (bSeq (sAsg (fLate 0 subD (fBin modI (fBlt intL (aCons (fVar 5) aNil)) (fBlt minL (aCons (fLenN 0) (aCons (fC (.int 63)) aNil))))) (setD 6)) bNil) bNil) [.d (.lst (ns.map D.int)), .d (.int many), .d (.int rest), .own (row.map D.int), .d (.int mixed), .d (.int j), x6]).seq
      (bSeq (sAsg (fBin modI (fBlt intL (aCons (fBin addD (fBin addD (fBin mulD (fVar 4) (fC (.int 48271))) (fBin mulD (fBin modI (fBlt intL (aCons (fVar 6) aNil)) (fC (.int 1000003))) (fC (.int 69621)))) (fBin mulD (fVar 5) (fC (.int 7907)))) aNil)) (fC (.int 2147483647))) (setD 4)) (bSeq (sIf (fTst boolD (fBin gtD (fVar 2) (fC (.int 0)))) (bSeq (sApp 3 (fBin modI (fBlt intL (aCons (fVar 2) aNil)) (fC (.int 997)))) (bSeq (sAsg (fBin fdivI (fVar 2) (fC (.int 997))) (setD 2)) bNil)) (bSeq (sApp 3 (fBin modI (fBlt intL (aCons (fBin fdivI (fVar 4) (fC (.int 11))) aNil)) (fC (.int 997)))) bNil)) bNil)) := by
    unfold rowLoop
    rfl
  rw [hrow, hm]
  have snoc : ∀ z : Int, 0 ≤ z ∧ z < 997 → ∀ r ∈ row ++ [z], 0 ≤ r ∧ r < 997 := fun z hz r hr' => by
    rcases List.mem_append.mp hr' with h | h
    · exact hr r h
    · rw [List.mem_singleton.mp h]; exact hz
  have m997 : ∀ z : Int, 0 ≤ z % 997 ∧ z % 997 < 997 := fun z => ⟨Int.emod_nonneg z (by decide), Int.emod_lt_of_pos z (by decide)⟩
  by_cases hp : 0 < rest
  · simp [seq_bNil, bSeq, bNil, sAsg, sAsgO, setO, setD, sIf, sRet, sDrop, sFor, sApp, fC, fVar, fBin, fLate, slotD, fTst, boolD, fAnd, fOr, fNot, fUn, negD, fIf, fBlt, fLenN, fTup, fO, oLst, aNil, aCons, fSl, pNone, pSome, intD, fPop, ownAt, iSeq, iRange1, iRange2, iEnum1, addD, subI, modI, fdivI, cmpI, ltD, leD, gtD, geD, lenOf, lenL, intL, gUn, tsCons, tsNil, List.getElem?_cons_zero, List.getElem?_cons_succ, List.set_cons_zero, List.set_cons_succ, List.length_cons, List.length_nil, e48, e69, e79, hp, hlim]
    exact ⟨rest / 997, row ++ [rest % 997], _, _, _, by simp; exact ⟨rfl, rfl, rfl⟩, by simp [hl], snoc _ (m997 _)⟩
  · simp [seq_bNil, bSeq, bNil, sAsg, sAsgO, setO, setD, sIf, sRet, sDrop, sFor, sApp, fC, fVar, fBin, fLate, slotD, fTst, boolD, fAnd, fOr, fNot, fUn, negD, fIf, fBlt, fLenN, fTup, fO, oLst, aNil, aCons, fSl, pNone, pSome, intD, fPop, ownAt, iSeq, iRange1, iRange2, iEnum1, addD, subI, modI, fdivI, cmpI, ltD, leD, gtD, geD, lenOf, lenL, intL, gUn, tsCons, tsNil, List.getElem?_cons_zero, List.getElem?_cons_succ, List.set_cons_zero, List.set_cons_succ, List.length_cons, List.length_nil, e48, e69, e79, hp, hlim]
    exact ⟨rest, row ++ [_], _, _, _, by simp; exact ⟨rfl, rfl, rfl, rfl⟩, by simp [hl], snoc _ (m997 _)⟩
/-- what the row is -/
theorem row_ok {ns : List Int} {many : Nat} (hm : many ≤ 100000) : ∃ row : List Int, row.length = many ∧ (∀ r ∈ row, 0 ≤ r ∧ r < 997) ∧ fnD 2 7 rowBody [.lst (ns.map D.int), .int many] = .ok (.lst (row.map D.int)) := by
  have key : ∀ rest : Int, ∃ row : List Int, row.length = many ∧ (∀ r ∈ row, 0 ≤ r ∧ r < 997) ∧
      ((bSeq (sAsgO (oLst aNil) 3) (bSeq (sAsg (fC (.int 12345)) (setD 4)) (bSeq (sFor (iRange1 (aCons (fVar 1) aNil)) (setD 5) rowLoop) (bSeq (sRet (fVar 3)) bNil)))) [.d (.lst (ns.map D.int)), .d (.int many), .d (.int rest), .un, .un, .un, .un]).fin = .ok (.lst (row.map D.int)) := by
    intro rest
    have hR : okR (many : Nat) = true := okR_nat (by omega)
    obtain ⟨ρ', e, rest', row, mixed, x5, x6, rfl, hl, hr⟩ := forD_thru (g := setD 5) (f := rowLoop) (ds := dRange 0 many) (ρ := [.d (.lst (ns.map D.int)), .d (.int many), .d (.int rest), .own [], .d (.int 12345), .un, .un]) (rowP ns many) (fun i d ρ hd hp => by
      obtain ⟨hi, rfl⟩ := dRange_inv hd
      exact row_step (by omega) hp) ⟨rest, [], 12345, .un, .un, rfl, rfl, by simp⟩
    refine ⟨row, by rw [hl, dRange_len], hr, ?_⟩
    have h0 : (0 : Nat) ≤ lim := Nat.zero_le _
    have h1 : (bSeq (sAsgO (oLst aNil) 3) (sAsg (fC (.int 12345)) (setD 4))) [.d (.lst (ns.map D.int)), .d (.int many), .d (.int rest), .un, .un, .un, .un] = .nx [.d (.lst (ns.map D.int)), .d (.int many), .d (.int rest), .own [], .d (.int 12345), .un, .un] := by
      simp [seq_bNil, bSeq, bNil, sAsg, sAsgO, setO, setD, sIf, sRet, sDrop, sFor, sApp, fC, fVar, fBin, fLate, slotD, fTst, boolD, fAnd, fOr, fNot, fUn, negD, fIf, fBlt, fLenN, fTup, fO, oLst, aNil, aCons, fSl, pNone, pSome, intD, fPop, ownAt, iSeq, iRange1, iRange2, iEnum1, addD, subI, modI, fdivI, cmpI, ltD, leD, gtD, geD, lenOf, lenL, intL, gUn, tsCons, tsNil, List.getElem?_cons_zero, List.getElem?_cons_succ, List.set_cons_zero, List.set_cons_succ, List.length_cons, List.length_nil, h0]
    have h2 : sFor (iRange1 (aCons (fVar 1) aNil)) (setD 5) rowLoop [.d (.lst (ns.map D.int)), .d (.int many), .d (.int rest), .own [], .d (.int 12345), .un, .un] = forD (setD 5) rowLoop (dRange 0 many) [.d (.lst (ns.map D.int)), .d (.int many), .d (.int rest), .own [], .d (.int 12345), .un, .un] := by
      simp [seq_bNil, bSeq, bNil, sAsg, sAsgO, setO, setD, sIf, sRet, sDrop, sFor, sApp, fC, fVar, fBin, fLate, slotD, fTst, boolD, fAnd, fOr, fNot, fUn, negD, fIf, fBlt, fLenN, fTup, fO, oLst, aNil, aCons, fSl, pNone, pSome, intD, fPop, ownAt, iSeq, iRange1, iRange2, iEnum1, addD, subI, modI, fdivI, cmpI, ltD, leD, gtD, geD, lenOf, lenL, intL, gUn, tsCons, tsNil, List.getElem?_cons_zero, List.getElem?_cons_succ, List.set_cons_zero, List.set_cons_succ, List.length_cons, List.length_nil, hR]
    rw [bSeq_assoc, bSeq_app, h1, Fl.seq_nx, bSeq_app, h2, e, Fl.seq_nx]
    simp [seq_bNil, bSeq, bNil, sAsg, sAsgO, setO, setD, sIf, sRet, sDrop, sFor, sApp, fC, fVar, fBin, fLate, slotD, fTst, boolD, fAnd, fOr, fNot, fUn, negD, fIf, fBlt, fLenN, fTup, fO, oLst, aNil, aCons, fSl, pNone, pSome, intD, fPop, ownAt, iSeq, iRange1, iRange2, iEnum1, addD, subI, modI, fdivI, cmpI, ltD, leD, gtD, geD, lenOf, lenL, intL, gUn, tsCons, tsNil, List.getElem?_cons_zero, List.getElem?_cons_succ, List.set_cons_zero, List.set_cons_succ, List.length_cons, List.length_nil, Fl.fin]
  obtain ⟨c, h18⟩ : ∃ c : Int, powI (.int 10) (.int 18) = some (.int c) := by
    unfold powI
    exact ⟨_, if_pos (by decide)⟩
  have start : startE 7 [.lst (ns.map D.int), .int many] = [.d (.lst (ns.map D.int)), .d (.int many), .un, .un, .un, .un, .un] := rfl
  have hf : fnD 2 7 rowBody [.lst (ns.map D.int), .int many] = (rowBody [.d (.lst (ns.map D.int)), .d (.int many), .un, .un, .un, .un, .un]).fin := by
    rw [fnD_app (ds := [.lst (ns.map D.int), .int many]) (by rfl : _ = 2), start]
  rw [hf]
  have go : ∃ rest : Int, (bSeq (sAsg (fC (.int 0)) (setD 2)) (sIf (fAnd (fTst boolD (fBin gtD (fLenN 0) (fC (.int 0)))) (fTst boolD (fBin geD (fLate 0 subD (fC (.int 0))) (fBin powI (fC (.int 10)) (fC (.int 18)))))) (bSeq (sAsg (fLate 0 subD (fC (.int 0))) (setD 2)) bNil) bNil)) [.d (.lst (ns.map D.int)), .d (.int many), .un, .un, .un, .un, .un] = .nx [.d (.lst (ns.map D.int)), .d (.int many), .d (.int rest), .un, .un, .un, .un] := by
    by_cases hn : 0 < ns.length
    · obtain ⟨x, hx, hs⟩ := subD_int (ns := ns) (i := 0) (by omega) (by omega)
      by_cases hx : c ≤ x
      · exact ⟨x, by simp [seq_bNil, bSeq, bNil, sAsg, sAsgO, setO, setD, sIf, sRet, sDrop, sFor, sApp, fC, fVar, fBin, fLate, slotD, fTst, boolD, fAnd, fOr, fNot, fUn, negD, fIf, fBlt, fLenN, fTup, fO, oLst, aNil, aCons, fSl, pNone, pSome, intD, fPop, ownAt, iSeq, iRange1, iRange2, iEnum1, addD, subI, modI, fdivI, cmpI, ltD, leD, gtD, geD, lenOf, lenL, intL, gUn, tsCons, tsNil, List.getElem?_cons_zero, List.getElem?_cons_succ, List.set_cons_zero, List.set_cons_succ, List.length_cons, List.length_nil, hn, hs, hx, h18]⟩
      · exact ⟨0, by simp [seq_bNil, bSeq, bNil, sAsg, sAsgO, setO, setD, sIf, sRet, sDrop, sFor, sApp, fC, fVar, fBin, fLate, slotD, fTst, boolD, fAnd, fOr, fNot, fUn, negD, fIf, fBlt, fLenN, fTup, fO, oLst, aNil, aCons, fSl, pNone, pSome, intD, fPop, ownAt, iSeq, iRange1, iRange2, iEnum1, addD, subI, modI, fdivI, cmpI, ltD, leD, gtD, geD, lenOf, lenL, intL, gUn, tsCons, tsNil, List.getElem?_cons_zero, List.getElem?_cons_succ, List.set_cons_zero, List.set_cons_succ, List.length_cons, List.length_nil, hn, hs, hx, h18]⟩
    · exact ⟨0, by simp [seq_bNil, bSeq, bNil, sAsg, sAsgO, setO, setD, sIf, sRet, sDrop, sFor, sApp, fC, fVar, fBin, fLate, slotD, fTst, boolD, fAnd, fOr, fNot, fUn, negD, fIf, fBlt, fLenN, fTup, fO, oLst, aNil, aCons, fSl, pNone, pSome, intD, fPop, ownAt, iSeq, iRange1, iRange2, iEnum1, addD, subI, modI, fdivI, cmpI, ltD, leD, gtD, geD, lenOf, lenL, intL, gUn, tsCons, tsNil, List.getElem?_cons_zero, List.getElem?_cons_succ, List.set_cons_zero, List.set_cons_succ, List.length_cons, List.length_nil, hn]⟩
  obtain ⟨rest, go⟩ := go
  obtain ⟨row, h1, h2, h3⟩ := key rest
  refine ⟨row, h1, h2, ?_⟩
  rw [← h3]
  unfold rowBody
  rw [bSeq_assoc, bSeq_app, go, Fl.seq_nx]
end PD
set_option Elab.async false
set_option linter.all false
set_option maxRecDepth 100000
set_option maxHeartbeats 4000000
/-! PW: the typed deep == of the laws is true of equal data. -/
namespace PD
open PySem PySem.Spec L2
mutual
def D.sz : D → Nat
  | .lst xs => 1 + D.szL xs
  | .tup xs => 1 + D.szL xs
  | _ => 1
def D.szL : List D → Nat
  | [] => 0
  | x :: r => D.sz x + D.szL r
end
theorem szL_app : ∀ (a b : List D), D.szL (a ++ b) = D.szL a + D.szL b
  | [], b => by simp [D.szL]
  | x :: r, b => by
    simp only [List.cons_append, D.szL, szL_app r b]
    omega
def ok1 (d : D) : Prop := (D.py d).isSome = true
theorem pyL_ok : ∀ {xs : List D}, (D.pyL xs).isSome = true → ∀ x ∈ xs, ok1 x
  | [], _, x, hx => by cases hx
  | y :: r, h, x, hx => by
    rw [D.pyL] at h
    cases e : D.py y with
    | none => rw [e] at h; cases h
    | some a =>
      rw [e, Option.bind_some] at h
      rcases List.mem_cons.mp hx with z | z
      · rw [z]; unfold ok1; rw [e]; rfl
      · refine pyL_ok (xs := r) ?_ x z
        cases e2 : D.pyL r with
        | none => rw [e2] at h; cases h
        | some b => rfl
theorem ok_pyL : ∀ {xs : List D}, (∀ x ∈ xs, ok1 x) → ∃ ps, D.pyL xs = some ps ∧ ps.length = xs.length
  | [], _ => ⟨[], by rw [D.pyL], rfl⟩
  | y :: r, h => by
    obtain ⟨ps, e, hl⟩ := ok_pyL (xs := r) fun x hx => h x (List.mem_cons_of_mem _ hx)
    have hy := h y (List.mem_cons_self ..)
    unfold ok1 at hy
    cases e1 : D.py y with
    | none => rw [e1] at hy; cases hy
    | some a => exact ⟨a :: ps, by rw [D.pyL, e1, Option.bind_some, e]; rfl, by simp [hl]⟩
/-- a list == [] -/
theorem eq_nil {xs : List D} (h : ∀ x ∈ xs, ok1 x) : eqD (.lst xs) (.lst []) = some (.bl xs.isEmpty) := by
  obtain ⟨ps, e, hl⟩ := ok_pyL h
  have e1 : D.py (.lst xs) = some (.list ps) := by rw [D.py, e]; rfl
  have e2 : D.py (.lst []) = some (.list []) := by rw [D.py, D.pyL]; rfl
  have hd : min (PyData.list ps).depth (PyData.list []).depth ≤ 64 := by
    have : (PyData.list []).depth = 1 := by rfl
    omega
  have hv : PyData.eqv (.list ps) (.list []) = xs.isEmpty := by
    cases ps with
    | nil => cases xs with
      | nil => simp [PyData.eqv, PyData.eqvAll]
      | cons a b => cases hl
    | cons p q => cases xs with
      | nil => cases hl
      | cons a b => simp [PyData.eqv, PyData.eqvAll]
  show (eqB (.lst xs) (.lst [])).map D.bl = _
  have : eqB (.lst xs) (.lst []) = eqG (.lst xs) (.lst []) := rfl
  rw [this]
  unfold eqG
  rw [e1, e2, Option.bind_some, Option.bind_some, if_pos hd, hv]
  rfl
def sameLoop2 : En → Fl := (bSeq (sIf (fTst boolD (fBin isNonD (fVar 5) (fC .non))) (bSeq (sIf (fTst boolD (fBin isNotNonD (fVar 4) (fC .non))) (bSeq (sRet (fC (.bl false))) bNil) bNil) bNil) (bSeq (sIf (fTst boolD (fBlt isiL (aCons (fVar 5) (aCons (fC (.ty "bool")) aNil)))) (bSeq (sIf (fOr (fNot (fTst boolD (fBlt isiL (aCons (fVar 4) (aCons (fC (.ty "bool")) aNil))))) (fTst boolD (fLate 4 neD (fVar 5)))) (bSeq (sRet (fC (.bl false))) bNil) bNil) bNil) (bSeq (sIf (fTst boolD (fBlt isiL (aCons (fVar 5) (aCons (fC (.ty "int")) aNil)))) (bSeq (sIf (fOr (fNot (fTst boolD (fBlt isiL (aCons (fVar 4) (aCons (fC (.ty "int")) aNil))))) (fOr (fTst boolD (fBlt isiL (aCons (fVar 4) (aCons (fC (.ty "bool")) aNil)))) (fTst boolD (fLate 4 neD (fVar 5))))) (bSeq (sRet (fC (.bl false))) bNil) bNil) bNil) (bSeq (sIf (fTst boolD (fBlt isiL (aCons (fVar 5) (aCons (fC (.ty "str")) aNil)))) (bSeq (sIf (fOr (fNot (fTst boolD (fBlt isiL (aCons (fVar 4) (aCons (fC (.ty "str")) aNil))))) (fTst boolD (fLate 4 neD (fVar 5)))) (bSeq (sRet (fC (.bl false))) bNil) bNil) bNil) (bSeq (sIf (fOr (fTst boolD (fBin neD (fBlt isiL (aCons (fVar 4) (aCons (fC (.ty "list")) aNil))) (fBlt isiL (aCons (fVar 5) (aCons (fC (.ty "list")) aNil))))) (fTst boolD (fBin neD (fBlt isiL (aCons (fVar 4) (aCons (fC (.ty "tuple")) aNil))) (fBlt isiL (aCons (fVar 5) (aCons (fC (.ty "tuple")) aNil)))))) (bSeq (sRet (fC (.bl false))) bNil) bNil) (bSeq (sIf (fTst boolD (fBin neD (fLenN 4) (fLenN 5))) (bSeq (sRet (fC (.bl false))) bNil) bNil) (bSeq (sFor (iRange1 (aCons (fLenN 5) aNil)) (setD 6) (bSeq (sApp 2 (fTup (aCons (fLate 4 subD (fVar 6)) (aCons (fLate 5 subD (fVar 6)) aNil)))) bNil)) bNil)))) bNil)) bNil)) bNil)) bNil)
def sameLoop : En → Fl := (bSeq (sIf (fTst boolD (fLate 2 eqD (fO (oLst aNil)))) (bSeq (sRet (fC (.bl true))) bNil) bNil) (bSeq (sAsg (fPop 2) (gUn 2 (tsCons (setD 4) (tsCons (setD 5) tsNil)))) sameLoop2))
def sameBody : En → Fl := (bSeq (sAsgO (oLst (aCons (fTup (aCons (fVar 0) (aCons (fVar 1) aNil))) aNil)) 2) (bSeq (sFor (iRange1 (aCons (fC (.int 200000)) aNil)) (setD 3) sameLoop) (bSeq (sRet (fC (.bl false))) bNil)))
abbrev prD (x : D) : D := .tup [x, x]
theorem ok_pr {x : D} (h : ok1 x) : ok1 (prD x) := by
  unfold ok1 at h ⊢
  cases e : D.py x with
  | none => rw [e] at h; cases h
  | some a => simp [D.py, D.pyL, e]
/-- pushing the children -/
theorem same_push {a b : Sl} {ws xs : List D} {c : Sl} {x : D} (hx : x = .lst xs ∨ x = .tup xs) (hl : ws.length + xs.length < lim) (x6 : Sl) :
    ∃ y, forD (setD 6) (bSeq (sApp 2 (fTup (aCons (fLate 4 subD (fVar 6)) (aCons (fLate 5 subD (fVar 6)) aNil)))) bNil) (dRange 0 xs.length) [a, b, .own (ws.map prD), c, .d x, .d x, x6] = .nx [a, b, .own ((ws ++ xs).map prD), c, .d x, .d x, y] := by
  obtain ⟨ρ', e, h⟩ := forD_thru (g := setD 6) (f := bSeq (sApp 2 (fTup (aCons (fLate 4 subD (fVar 6)) (aCons (fLate 5 subD (fVar 6)) aNil)))) bNil) (ds := dRange 0 xs.length) (ρ := [a, b, .own (ws.map prD), c, .d x, .d x, x6])
    (fun i ρ => ∃ y, ρ = [a, b, .own ((ws ++ xs.take i).map prD), c, .d x, .d x, y]) (fun i d ρ hd ⟨y, hp⟩ => by
      obtain ⟨hi, rfl⟩ := dRange_inv0 hd
      subst hp
      have hs : subD x (.int (i : Nat)) = some xs[i] := by
        rcases hx with rfl | rfl <;> exact atI_nat hi
      have hlt : (ws ++ xs.take i).length < lim := by
        rw [List.length_append, List.length_take]
        omega
      have ht : ws ++ xs.take (i + 1) = (ws ++ xs.take i) ++ [xs[i]] := by
        rw [List.append_assoc, List.take_succ_eq_append_getElem hi]
      have h2 : 2 ≤ lim := by decide
      refine ⟨_, .inl ?_, .d (.int (i : Nat)), rfl⟩
      rw [ht]
      have hlm : (((ws ++ xs.take i).map prD).length < lim) := by rw [List.length_map]; exact hlt
      generalize ws ++ xs.take i = zs at hlm ⊢
      simp at hlm
      simp [seq_bNil, bSeq, bNil, sAsg, sAsgO, setO, setD, sIf, sRet, sDrop, sFor, sApp, fC, fVar, fBin, fLate, slotD, fTst, boolD, fAnd, fOr, fNot, fUn, negD, fIf, fBlt, fLenN, fTup, fO, oLst, aNil, aCons, fSl, pNone, pSome, intD, fPop, ownAt, iSeq, iRange1, iRange2, iEnum1, addD, subI, modI, fdivI, cmpI, ltD, leD, gtD, geD, lenOf, lenL, intL, gUn, tsCons, tsNil, List.getElem?_cons_zero, List.getElem?_cons_succ, List.set_cons_zero, List.set_cons_succ, List.length_cons, List.length_nil, hs, h2, hlm]) ⟨x6, by simp⟩
  obtain ⟨y, h⟩ := h
  rw [dRange_len] at h
  rw [e, h]
  exact ⟨y, by simp⟩
def samP (d : D) (i : Nat) (ρ : En) : Prop := ∃ (ws : List D) (x3 x4 x5 x6 : Sl), ρ = [.d d, .d d, .own (ws.map prD), x3, x4, x5, x6] ∧ i + D.szL ws = D.sz d ∧ ∀ x ∈ ws, ok1 x
theorem sz_pos (d : D) : 1 ≤ D.sz d := by cases d <;> simp [D.sz]
theorem len_szL : ∀ (ws : List D), ws.length ≤ D.szL ws
  | [] => Nat.le_refl 0
  | x :: r => by
    have := len_szL r
    have := sz_pos x
    simp only [List.length_cons, D.szL]
    omega
theorem isi_of {d : D} {n t : String} {b : Bool} (h1 : tyN d = some t) (h2 : kitB t n = some b) : isiL [d, .ty n] = some (.bl b) := by
  show (tyN d).bind (fun t => (kitB t n).map D.bl) = _
  rw [h1, Option.bind_some, h2]
  rfl
theorem isi_bl_bool (b : Bool) : isiL [.bl b, .ty "bool"] = some (.bl true) := isi_of rfl (by decide +kernel)
theorem isi_int_bool (b : Int) : isiL [.int b, .ty "bool"] = some (.bl false) := isi_of rfl (by decide +kernel)
theorem isi_int_int (b : Int) : isiL [.int b, .ty "int"] = some (.bl true) := isi_of rfl (by decide +kernel)
theorem isi_str_bool (b : Str) : isiL [.str b, .ty "bool"] = some (.bl false) := isi_of rfl (by decide +kernel)
theorem isi_str_int (b : Str) : isiL [.str b, .ty "int"] = some (.bl false) := isi_of rfl (by decide +kernel)
theorem isi_str_str (b : Str) : isiL [.str b, .ty "str"] = some (.bl true) := isi_of rfl (by decide +kernel)
theorem isi_lst (xs : List D) : isiL [.lst xs, .ty "bool"] = some (.bl false) ∧ isiL [.lst xs, .ty "int"] = some (.bl false) ∧ isiL [.lst xs, .ty "str"] = some (.bl false) ∧ isiL [.lst xs, .ty "list"] = some (.bl true) ∧ isiL [.lst xs, .ty "tuple"] = some (.bl false) :=
  ⟨isi_of rfl (by decide +kernel), isi_of rfl (by decide +kernel), isi_of rfl (by decide +kernel), isi_of rfl (by decide +kernel), isi_of rfl (by decide +kernel)⟩
theorem isi_tup (xs : List D) : isiL [.tup xs, .ty "bool"] = some (.bl false) ∧ isiL [.tup xs, .ty "int"] = some (.bl false) ∧ isiL [.tup xs, .ty "str"] = some (.bl false) ∧ isiL [.tup xs, .ty "list"] = some (.bl false) ∧ isiL [.tup xs, .ty "tuple"] = some (.bl true) :=
  ⟨isi_of rfl (by decide +kernel), isi_of rfl (by decide +kernel), isi_of rfl (by decide +kernel), isi_of rfl (by decide +kernel), isi_of rfl (by decide +kernel)⟩
theorem ne_bl (a b : Bool) : neD (.bl a) (.bl b) = some (.bl (!decide (a = b))) := rfl
theorem ne_int (a b : Int) : neD (.int a) (.int b) = some (.bl (!decide (a = b))) := rfl
theorem ne_str (a b : Str) : neD (.str a) (.str b) = some (.bl (!decide (a = b))) := rfl
theorem eq_bl (a b : Bool) : eqD (.bl a) (.bl b) = some (.bl (decide (a = b))) := rfl
theorem eq_int (a b : Int) : eqD (.int a) (.int b) = some (.bl (decide (a = b))) := rfl
theorem eq_str (a b : Str) : eqD (.str a) (.str b) = some (.bl (decide (a = b))) := rfl
theorem isN_non : isNonD .non .non = some (.bl true) := rfl
theorem notN_non : isNotNonD .non .non = some (.bl false) := rfl
theorem isN_any (d : D) : isNonD d .non = some (.bl d.isNon) := by cases d <;> rfl
theorem notN_any (d : D) : isNotNonD d .non = some (.bl (!d.isNon)) := by cases d <;> rfl
theorem same_step {d : D} {i : Nat} {j : Int} {ρ : En} (hz : D.sz d < 200000) (h : samP d i ρ) :
    (∃ ρ', ((setD 3 (.int j) ρ).seq sameLoop = .nx ρ' ∨ (setD 3 (.int j) ρ).seq sameLoop = .ct ρ') ∧ samP d (i + 1) ρ') ∨ (setD 3 (.int j) ρ).seq sameLoop = .rt (.bl true) := by
  obtain ⟨ws, x3, x4, x5, x6, rfl, hs, hok⟩ := h
  have he := eq_nil (xs := ws.map prD) (fun x hx => by
    obtain ⟨y, hy, rfl⟩ := List.mem_map.mp hx
    exact ok_pr (hok y hy))
  rcases List.eq_nil_or_concat ws with rfl | ⟨ini, x, rfl⟩
  · right
    unfold sameLoop
    simp at he
    simp [seq_bNil, bSeq, bNil, sAsg, sAsgO, setO, setD, sIf, sRet, sDrop, sFor, sApp, fC, fVar, fBin, fLate, slotD, fTst, boolD, fAnd, fOr, fNot, fUn, negD, fIf, fBlt, fLenN, fTup, fO, oLst, aNil, aCons, fSl, pNone, pSome, intD, fPop, ownAt, iSeq, iRange1, iRange2, iEnum1, addD, subI, modI, fdivI, cmpI, ltD, leD, gtD, geD, lenOf, lenL, intL, gUn, tsCons, tsNil, List.getElem?_cons_zero, List.getElem?_cons_succ, List.set_cons_zero, List.set_cons_succ, List.length_cons, List.length_nil, he]
  · left
    rw [List.concat_eq_append] at hs hok he ⊢
    rw [szL_app] at hs
    simp only [D.szL, Nat.add_zero] at hs
    have hx := hok x (by simp)
    have hini : ∀ y ∈ ini, ok1 y := fun y hy => hok y (by simp [hy])
    have he' : eqD (.lst (ini.map prD ++ [prD x])) (.lst []) = some (.bl false) := by
      rw [List.map_append] at he
      have e0 : (ini.map prD ++ [x].map prD).isEmpty = false := by simp
      rw [e0] at he
      exact he
    have ret : ∀ {y : Sl}, samP d (i + 1) [.d d, .d d, .own (ini.map prD), .d (.int j), .d x, .d x, y] ∨ 1 < D.sz x := fun {y} => by
      by_cases h1 : D.sz x = 1
      · exact .inl ⟨ini, _, _, _, y, rfl, by omega, hini⟩
      · exact .inr (by have := sz_pos x; omega)
    have key : ∀ y : Sl, sameLoop2 [.d d, .d d, .own (ini.map prD), .d (.int j), .d x, .d x, y] = .nx [.d d, .d d, .own (ini.map prD), .d (.int j), .d x, .d x, y] ∧ D.sz x = 1 ∨
        ∃ xs y', D.sz x = 1 + D.szL xs ∧ (∀ z ∈ xs, ok1 z) ∧ sameLoop2 [.d d, .d d, .own (ini.map prD), .d (.int j), .d x, .d x, y] = .nx [.d d, .d d, .own ((ini ++ xs).map prD), .d (.int j), .d x, .d x, y'] := by
      intro y
      have hlim : ∀ xs : List D, D.sz x = 1 + D.szL xs → ini.length + xs.length < lim := fun xs h => by
        have h1 := len_szL ini
        have h2 := len_szL xs
        have h3 : (200000 : Nat) ≤ lim := by decide
        omega
      unfold sameLoop2
      cases x with
      | non => exact .inl ⟨by simp [seq_bNil, bSeq, bNil, sAsg, sAsgO, setO, setD, sIf, sRet, sDrop, sFor, sApp, fC, fVar, fBin, fLate, slotD, fTst, boolD, fAnd, fOr, fNot, fUn, negD, fIf, fBlt, fLenN, fTup, fO, oLst, aNil, aCons, fSl, pNone, pSome, intD, fPop, ownAt, iSeq, iRange1, iRange2, iEnum1, addD, subI, modI, fdivI, cmpI, ltD, leD, gtD, geD, lenOf, lenL, intL, gUn, tsCons, tsNil, List.getElem?_cons_zero, List.getElem?_cons_succ, List.set_cons_zero, List.set_cons_succ, List.length_cons, List.length_nil, isN_any, notN_any, D.isNon], rfl⟩
      | bl b => exact .inl ⟨by simp [seq_bNil, bSeq, bNil, sAsg, sAsgO, setO, setD, sIf, sRet, sDrop, sFor, sApp, fC, fVar, fBin, fLate, slotD, fTst, boolD, fAnd, fOr, fNot, fUn, negD, fIf, fBlt, fLenN, fTup, fO, oLst, aNil, aCons, fSl, pNone, pSome, intD, fPop, ownAt, iSeq, iRange1, iRange2, iEnum1, addD, subI, modI, fdivI, cmpI, ltD, leD, gtD, geD, lenOf, lenL, intL, gUn, tsCons, tsNil, List.getElem?_cons_zero, List.getElem?_cons_succ, List.set_cons_zero, List.set_cons_succ, List.length_cons, List.length_nil, isN_any, D.isNon, isi_bl_bool, ne_bl], rfl⟩
      | int b => exact .inl ⟨by simp [seq_bNil, bSeq, bNil, sAsg, sAsgO, setO, setD, sIf, sRet, sDrop, sFor, sApp, fC, fVar, fBin, fLate, slotD, fTst, boolD, fAnd, fOr, fNot, fUn, negD, fIf, fBlt, fLenN, fTup, fO, oLst, aNil, aCons, fSl, pNone, pSome, intD, fPop, ownAt, iSeq, iRange1, iRange2, iEnum1, addD, subI, modI, fdivI, cmpI, ltD, leD, gtD, geD, lenOf, lenL, intL, gUn, tsCons, tsNil, List.getElem?_cons_zero, List.getElem?_cons_succ, List.set_cons_zero, List.set_cons_succ, List.length_cons, List.length_nil, isN_any, D.isNon, isi_int_bool, isi_int_int, ne_int], rfl⟩
      | str b => exact .inl ⟨by simp [seq_bNil, bSeq, bNil, sAsg, sAsgO, setO, setD, sIf, sRet, sDrop, sFor, sApp, fC, fVar, fBin, fLate, slotD, fTst, boolD, fAnd, fOr, fNot, fUn, negD, fIf, fBlt, fLenN, fTup, fO, oLst, aNil, aCons, fSl, pNone, pSome, intD, fPop, ownAt, iSeq, iRange1, iRange2, iEnum1, addD, subI, modI, fdivI, cmpI, ltD, leD, gtD, geD, lenOf, lenL, intL, gUn, tsCons, tsNil, List.getElem?_cons_zero, List.getElem?_cons_succ, List.set_cons_zero, List.set_cons_succ, List.length_cons, List.length_nil, isN_any, D.isNon, isi_str_bool, isi_str_int, isi_str_str, ne_str], rfl⟩
      | lst xs =>
        obtain ⟨y', hp⟩ := same_push (a := .d d) (b := .d d) (c := .d (.int j)) (ws := ini) (x := .lst xs) (.inl rfl) (hlim xs rfl) y
        have hR : okR (xs.length : Nat) = true := okR_nat (by have := hlim xs rfl; have h3 : lim ≤ 2 ^ 62 := by decide
                                                              omega)
        refine .inr ⟨xs, y', rfl, ?_, ?_⟩
        · unfold ok1 at hx
          rw [D.py] at hx
          cases e : D.pyL xs with
          | none => rw [e] at hx; cases hx
          | some ps => exact pyL_ok (by rw [e]; rfl)
        · rw [← hp]
          simp [seq_bNil, bSeq, bNil, sAsg, sAsgO, setO, setD, sIf, sRet, sDrop, sFor, sApp, fC, fVar, fBin, fLate, slotD, fTst, boolD, fAnd, fOr, fNot, fUn, negD, fIf, fBlt, fLenN, fTup, fO, oLst, aNil, aCons, fSl, pNone, pSome, intD, fPop, ownAt, iSeq, iRange1, iRange2, iEnum1, addD, subI, modI, fdivI, cmpI, ltD, leD, gtD, geD, lenOf, lenL, intL, gUn, tsCons, tsNil, List.getElem?_cons_zero, List.getElem?_cons_succ, List.set_cons_zero, List.set_cons_succ, List.length_cons, List.length_nil, isN_any, D.isNon, isi_lst, ne_bl, ne_int, hR]
      | tup xs =>
        obtain ⟨y', hp⟩ := same_push (a := .d d) (b := .d d) (c := .d (.int j)) (ws := ini) (x := .tup xs) (.inr rfl) (hlim xs rfl) y
        have hR : okR (xs.length : Nat) = true := okR_nat (by have := hlim xs rfl; have h3 : lim ≤ 2 ^ 62 := by decide
                                                              omega)
        refine .inr ⟨xs, y', rfl, ?_, ?_⟩
        · unfold ok1 at hx
          rw [D.py] at hx
          cases e : D.pyL xs with
          | none => rw [e] at hx; cases hx
          | some ps => exact pyL_ok (by rw [e]; rfl)
        · rw [← hp]
          simp [seq_bNil, bSeq, bNil, sAsg, sAsgO, setO, setD, sIf, sRet, sDrop, sFor, sApp, fC, fVar, fBin, fLate, slotD, fTst, boolD, fAnd, fOr, fNot, fUn, negD, fIf, fBlt, fLenN, fTup, fO, oLst, aNil, aCons, fSl, pNone, pSome, intD, fPop, ownAt, iSeq, iRange1, iRange2, iEnum1, addD, subI, modI, fdivI, cmpI, ltD, leD, gtD, geD, lenOf, lenL, intL, gUn, tsCons, tsNil, List.getElem?_cons_zero, List.getElem?_cons_succ, List.set_cons_zero, List.set_cons_succ, List.length_cons, List.length_nil, isN_any, D.isNon, isi_tup, ne_bl, ne_int, hR]
      | ty _ => unfold ok1 at hx; rw [D.py] at hx; cases hx
      | ins _ _ => unfold ok1 at hx; rw [D.py] at hx; cases hx
      | dic _ => unfold ok1 at hx; rw [D.py] at hx; cases hx
      | dit _ => unfold ok1 at hx; rw [D.py] at hx; cases hx
    have pre : (setD 3 (.int j) [.d d, .d d, .own ((ini ++ [x]).map prD), x3, x4, x5, x6]).seq sameLoop = sameLoop2 [.d d, .d d, .own (ini.map prD), .d (.int j), .d x, .d x, x6] := by
      unfold sameLoop
      generalize sameLoop2 = L
      simp [seq_bNil, bSeq, bNil, sAsg, sAsgO, setO, setD, sIf, sRet, sDrop, sFor, sApp, fC, fVar, fBin, fLate, slotD, fTst, boolD, fAnd, fOr, fNot, fUn, negD, fIf, fBlt, fLenN, fTup, fO, oLst, aNil, aCons, fSl, pNone, pSome, intD, fPop, ownAt, iSeq, iRange1, iRange2, iEnum1, addD, subI, modI, fdivI, cmpI, ltD, leD, gtD, geD, lenOf, lenL, intL, gUn, tsCons, tsNil, List.getElem?_cons_zero, List.getElem?_cons_succ, List.set_cons_zero, List.set_cons_succ, List.length_cons, List.length_nil, he']
    rw [pre]
    rcases key x6 with ⟨e, h1⟩ | ⟨xs, y', h1, h2, e⟩
    · exact ⟨_, .inl e, ini, _, _, _, _, rfl, by omega, hini⟩
    · refine ⟨_, .inl e, ini ++ xs, _, _, _, _, rfl, by rw [szL_app]; omega, fun z hz => ?_⟩
      rcases List.mem_append.mp hz with h | h
      · exact hini z h
      · exact h2 z h
theorem same_ok {d : D} (hd : ok1 d) (hz : D.sz d < 200000) : fnD 2 7 sameBody [d, d] = .ok (.bl true) := by
  have start : startE 7 [d, d] = [.d d, .d d, .un, .un, .un, .un, .un] := rfl
  rw [fnD_app (ds := [d, d]) (by rfl : _ = 2), start]
  have h2 : 2 ≤ lim := by decide
  have h1 : 1 ≤ lim := by decide
  have hR : okR 200000 = true := okR_nat (n := 200000) (by decide)
  have e1 : (sAsgO (oLst (aCons (fTup (aCons (fVar 0) (aCons (fVar 1) aNil))) aNil)) 2) [.d d, .d d, .un, .un, .un, .un, .un] = .nx [.d d, .d d, .own [prD d], .un, .un, .un, .un] := by
    simp [seq_bNil, bSeq, bNil, sAsg, sAsgO, setO, setD, sIf, sRet, sDrop, sFor, sApp, fC, fVar, fBin, fLate, slotD, fTst, boolD, fAnd, fOr, fNot, fUn, negD, fIf, fBlt, fLenN, fTup, fO, oLst, aNil, aCons, fSl, pNone, pSome, intD, fPop, ownAt, iSeq, iRange1, iRange2, iEnum1, addD, subI, modI, fdivI, cmpI, ltD, leD, gtD, geD, lenOf, lenL, intL, gUn, tsCons, tsNil, List.getElem?_cons_zero, List.getElem?_cons_succ, List.set_cons_zero, List.set_cons_succ, List.length_cons, List.length_nil, h1, h2]
  have e2 : sFor (iRange1 (aCons (fC (.int 200000)) aNil)) (setD 3) sameLoop [.d d, .d d, .own [prD d], .un, .un, .un, .un] = forD (setD 3) sameLoop (dRange 0 200000) [.d d, .d d, .own [prD d], .un, .un, .un, .un] := by
    generalize sameLoop = L
    unfold sFor iRange1 aCons aNil fC
    simp [hR]
  have e3 := forD_inv (g := setD 3) (f := sameLoop) (samP d) (fun z => z = .rt (.bl true)) (dRange 0 200000) 0 [.d d, .d d, .own [prD d], .un, .un, .un, .un] (fun i x ρ hx hp => by
    obtain ⟨_, rfl⟩ := dRange_inv0 hx
    rw [Nat.zero_add] at hp ⊢
    rcases same_step hz hp with h | h
    · exact .inl h
    · exact .inr (.inl ⟨⟨_, h⟩, h⟩)) ⟨[d], _, _, _, _, rfl, by simp [D.szL], by simpa using hd⟩
  unfold sameBody
  rw [bSeq_app, e1, Fl.seq_nx, bSeq_app, e2]
  rcases e3 with ⟨ρ', h, ws, _, _, _, _, _, hs, _⟩ | h
  · rw [dRange_len] at hs
    omega
  · rw [h]
    rfl
end PD
set_option Elab.async false
set_option linter.all false
set_option maxRecDepth 100000
set_option maxHeartbeats 4000000
/-! LV: the least number of changes of letters, in plain Lean. -/
namespace LV
def lev : List Nat → List Nat → Nat
  | [], ys => ys.length
  | x :: xs, [] => (x :: xs).length
  | x :: xs, y :: ys => min (min (lev xs ys + if x = y then 0 else 1) (lev xs (y :: ys) + 1)) (lev (x :: xs) ys + 1)
termination_by xs ys => xs.length + ys.length
theorem lev_nil (ys : List Nat) : lev [] ys = ys.length := by unfold lev; rfl
theorem lev_nil2 (xs : List Nat) : lev xs [] = xs.length := by
  cases xs with
  | nil => exact lev_nil []
  | cons x xs => unfold lev; rfl
theorem lev_cons (x : Nat) (xs : List Nat) (y : Nat) (ys : List Nat) : lev (x :: xs) (y :: ys) = min (min (lev xs ys + if x = y then 0 else 1) (lev xs (y :: ys) + 1)) (lev (x :: xs) ys + 1) := by
  rw [lev]
inductive Ed : List Nat → List Nat → Nat → Prop
  | nil : Ed [] [] 0
  | del (x : Nat) {xs ys : List Nat} {n : Nat} : Ed xs ys n → Ed (x :: xs) ys (n + 1)
  | ins (y : Nat) {xs ys : List Nat} {n : Nat} : Ed xs ys n → Ed xs (y :: ys) (n + 1)
  | sub (x y : Nat) {xs ys : List Nat} {n : Nat} : Ed xs ys n → Ed (x :: xs) (y :: ys) (n + if x = y then 0 else 1)
theorem ed_ins : ∀ ys : List Nat, Ed [] ys ys.length
  | [] => .nil
  | y :: ys => .ins y (ed_ins ys)
theorem ed_del : ∀ xs : List Nat, Ed xs [] xs.length
  | [] => .nil
  | y :: ys => .del y (ed_del ys)
theorem ed_lev : ∀ (n : Nat) (xs ys : List Nat), xs.length + ys.length ≤ n → Ed xs ys (lev xs ys)
  | _, [], ys, _ => by rw [lev_nil]; exact ed_ins ys
  | _, x :: xs, [], _ => by rw [lev_nil2]; exact ed_del _
  | 0, x :: xs, y :: ys, h => by simp at h
  | n + 1, x :: xs, y :: ys, h => by
    simp only [List.length_cons] at h
    rw [lev_cons]
    have h1 := Ed.sub x y (ed_lev n xs ys (by omega))
    have h2 := Ed.del x (ed_lev n xs (y :: ys) (by simp only [List.length_cons]; omega))
    have h3 := Ed.ins y (ed_lev n (x :: xs) ys (by simp only [List.length_cons]; omega))
    generalize lev xs ys + (if x = y then 0 else 1) = a at h1 ⊢
    generalize lev xs (y :: ys) + 1 = b at h2 ⊢
    generalize lev (x :: xs) ys + 1 = c at h3 ⊢
    rcases Nat.le_total a b with q | q <;> rcases Nat.le_total (min a b) c with r | r
    · rw [Nat.min_eq_left r, Nat.min_eq_left q]; exact h1
    · rw [Nat.min_eq_right r]; exact h3
    · rw [Nat.min_eq_left r, Nat.min_eq_right q]; exact h2
    · rw [Nat.min_eq_right r]; exact h3
theorem ed_of (xs ys : List Nat) : Ed xs ys (lev xs ys) := ed_lev _ xs ys (Nat.le_refl _)
theorem lev_del (x : Nat) (xs ys : List Nat) : lev (x :: xs) ys ≤ lev xs ys + 1 := by
  cases ys with
  | nil => rw [lev_nil2, lev_nil2]; exact Nat.le_refl _
  | cons y ys => rw [lev_cons]; omega
theorem lev_ins (y : Nat) (xs ys : List Nat) : lev xs (y :: ys) ≤ lev xs ys + 1 := by
  cases xs with
  | nil => rw [lev_nil, lev_nil]; exact Nat.le_refl _
  | cons x xs => rw [lev_cons]; omega
theorem lev_le {xs ys : List Nat} {n : Nat} (h : Ed xs ys n) : lev xs ys ≤ n := by
  induction h with
  | nil => rw [lev_nil]; exact Nat.le_refl _
  | @del x xs ys n _ ih => have := lev_del x xs ys; omega
  | @ins y xs ys n _ ih => have := lev_ins y xs ys; omega
  | @sub x y xs ys n _ ih => rw [lev_cons]; omega
theorem ed_sym {xs ys : List Nat} {n : Nat} (h : Ed xs ys n) : Ed ys xs n := by
  induction h with
  | nil => exact .nil
  | del x _ ih => exact .ins x ih
  | ins y _ ih => exact .del y ih
  | @sub x y xs ys n _ ih =>
    have := Ed.sub y x ih
    by_cases e : x = y
    · subst e; exact this
    · have e' : ¬ y = x := fun z => e z.symm
      rw [if_neg e'] at this
      rw [if_neg e]
      exact this
theorem lev_sym (xs ys : List Nat) : lev xs ys = lev ys xs := Nat.le_antisymm (lev_le (ed_sym (ed_of ys xs))) (lev_le (ed_sym (ed_of xs ys)))
theorem ed_self : ∀ xs : List Nat, Ed xs xs 0
  | [] => .nil
  | x :: xs => by
    have := Ed.sub x x (ed_self xs)
    rw [if_pos rfl] at this
    exact this
theorem lev_self (xs : List Nat) : lev xs xs = 0 := Nat.le_zero.mp (lev_le (ed_self xs))
theorem ed_zero {xs ys : List Nat} {n : Nat} (h : Ed xs ys n) : n = 0 → xs = ys := by
  induction h with
  | nil => exact fun _ => rfl
  | del x _ ih => intro z; omega
  | ins y _ ih => intro z; omega
  | @sub x y xs ys n _ ih =>
    intro z
    by_cases e : x = y
    · rw [if_pos e] at z
      rw [e, ih (by omega)]
    · rw [if_neg e] at z
      omega
theorem lev_zero (xs ys : List Nat) : lev xs ys = 0 ↔ xs = ys := ⟨fun h => ed_zero (ed_of xs ys) h, fun h => by rw [h]; exact lev_self ys⟩
theorem ed_trans {xs ys : List Nat} {n : Nat} (h : Ed xs ys n) : ∀ {zs : List Nat} {m : Nat}, Ed ys zs m → ∃ k, k ≤ n + m ∧ Ed xs zs k := by
  induction h with
  | nil => exact fun {zs m} h2 => ⟨m, by omega, h2⟩
  | @del x xs ys n _ ih =>
    intro zs m h2
    obtain ⟨k, h3, h4⟩ := ih h2
    exact ⟨k + 1, by omega, .del x h4⟩
  | @ins y xs ys n _ ih =>
    intro zs m h2
    generalize hw : y :: ys = w at h2
    induction h2 with
    | nil => cases hw
    | @del y' ys' zs m h2 _ =>
      cases hw
      obtain ⟨k, h3, h4⟩ := ih h2
      exact ⟨k, by omega, h4⟩
    | @ins z ys' zs m h2 ih2 =>
      obtain ⟨k, h3, h4⟩ := ih2 hw
      exact ⟨k + 1, by omega, .ins z h4⟩
    | @sub y' z ys' zs m h2 _ =>
      cases hw
      obtain ⟨k, h3, h4⟩ := ih h2
      exact ⟨k + 1, by omega, .ins z h4⟩
  | @sub x y xs ys n _ ih =>
    intro zs m h2
    generalize hw : y :: ys = w at h2
    induction h2 with
    | nil => cases hw
    | @del y' ys' zs m h2 _ =>
      cases hw
      obtain ⟨k, h3, h4⟩ := ih h2
      exact ⟨k + 1, by omega, .del x h4⟩
    | @ins z ys' zs m h2 ih2 =>
      obtain ⟨k, h3, h4⟩ := ih2 hw
      exact ⟨k + 1, by omega, .ins z h4⟩
    | @sub y' z ys' zs m h2 _ =>
      cases hw
      obtain ⟨k, h3, h4⟩ := ih h2
      refine ⟨_, ?_, .sub x z h4⟩
      by_cases e1 : x = y
      · by_cases e2 : y = z
        · rw [if_pos e1, if_pos e2, if_pos (e1.trans e2)]; omega
        · rw [if_pos e1, if_neg e2]; split <;> omega
      · rw [if_neg e1]; split <;> split <;> omega
theorem lev_tri (xs ys zs : List Nat) : lev xs zs ≤ lev xs ys + lev ys zs := by
  obtain ⟨k, h1, h2⟩ := ed_trans (ed_of xs ys) (ed_of ys zs)
  exact Nat.le_trans (lev_le h2) h1
end LV
set_option Elab.async false
set_option linter.all false
set_option maxRecDepth 100000
set_option maxHeartbeats 4000000
/-! generated by wip/gen.py for adjoinedtongues_k44_distances_of_texts -/
namespace G
open PySem PySem.Spec L2 PD
def top (i : Nat) : Stmt := PySem.Challenge.pw_adjoinedtongues_k44_distances_of_texts.main.body.getD i (.Pass ⟨0, 0, 0, 0⟩)
abbrev s_bad_letter : Stmt := top 7
abbrev s_check_text : Stmt := top 8
abbrev s_letter_changes : Stmt := top 10
abbrev s_text_distance : Stmt := top 11
abbrev s__law_row : Stmt := top 13
abbrev s__law_same : Stmt := top 14
abbrev s__law_word : Stmt := top 15
abbrev s__law_edited : Stmt := top 16
abbrev s__law_table : Stmt := top 17
abbrev s__law_asked : Stmt := top 18
abbrev s__law_bad_place : Stmt := top 19
abbrev s__law_due : Stmt := top 20
abbrev s__law_spoilt : Stmt := top 21
abbrev s_law : Stmt := top 22
theorem sc_bad_letter : FnScope ["text", "most", "place", "letter"] ["text", "most"] (defScope s_bad_letter) := ⟨rfl, rfl, rfl, by decide +kernel, rfl, by decide +kernel, by decide +kernel⟩
theorem sc_check_text : FnScope ["text", "most", "place"] ["text", "most"] (defScope s_check_text) := ⟨rfl, rfl, rfl, by decide +kernel, rfl, by decide +kernel, by decide +kernel⟩
theorem sc_letter_changes : FnScope ["first", "second", "row", "letter", "above", "place", "other", "cost"] ["first", "second"] (defScope s_letter_changes) := ⟨rfl, rfl, rfl, by decide +kernel, rfl, by decide +kernel, by decide +kernel⟩
theorem sc_text_distance : FnScope ["first", "second"] ["first", "second"] (defScope s_text_distance) := ⟨rfl, rfl, rfl, by decide +kernel, rfl, by decide +kernel, by decide +kernel⟩
theorem sc__law_row : FnScope ["script", "many", "rest", "row", "mixed", "k", "cell"] ["script", "many"] (defScope s__law_row) := ⟨rfl, rfl, rfl, by decide +kernel, rfl, by decide +kernel, by decide +kernel⟩
theorem sc__law_same : FnScope ["told", "due", "waiting", "k", "one", "two", "at"] ["told", "due"] (defScope s__law_same) := ⟨rfl, rfl, rfl, by decide +kernel, rfl, by decide +kernel, by decide +kernel⟩
theorem sc__law_word : FnScope ["row", "at", "pool", "size", "run", "k"] ["row", "at", "pool"] (defScope s__law_word) := ⟨rfl, rfl, rfl, by decide +kernel, rfl, by decide +kernel, by decide +kernel⟩
theorem sc__law_edited : FnScope ["text", "row", "at", "pool", "k", "way", "place", "letter"] ["text", "row", "at", "pool"] (defScope s__law_edited) := ⟨rfl, rfl, rfl, by decide +kernel, rfl, by decide +kernel, by decide +kernel⟩
theorem sc__law_table : FnScope ["first", "second", "above", "i", "below", "k", "cost"] ["first", "second"] (defScope s__law_table) := ⟨rfl, rfl, rfl, by decide +kernel, rfl, by decide +kernel, by decide +kernel⟩
theorem sc__law_asked : FnScope ["first", "second", "e"] ["first", "second"] (defScope s__law_asked) := ⟨rfl, rfl, rfl, by decide +kernel, rfl, by decide +kernel, by decide +kernel⟩
theorem sc__law_bad_place : FnScope ["text", "k"] ["text"] (defScope s__law_bad_place) := ⟨rfl, rfl, rfl, by decide +kernel, rfl, by decide +kernel, by decide +kernel⟩
theorem sc__law_due : FnScope ["first", "second", "text"] ["first", "second"] (defScope s__law_due) := ⟨rfl, rfl, rfl, by decide +kernel, rfl, by decide +kernel, by decide +kernel⟩
theorem sc__law_spoilt : FnScope ["text", "row", "at", "bad", "place"] ["text", "row", "at"] (defScope s__law_spoilt) := ⟨rfl, rfl, rfl, by decide +kernel, rfl, by decide +kernel, by decide +kernel⟩
theorem sc_law : FnScope ["script", "row", "letters", "pool", "first", "second", "third", "near", "text", "bad", "worse", "pair"] ["script"] (defScope s_law) := ⟨rfl, rfl, rfl, by decide +kernel, rfl, by decide +kernel, by decide +kernel⟩
def ex_Fault : Str → Option Bool := fun n => List.lookup n [("BadText", true)]
def ok_place : Str → Bool := fun n => List.contains (["BadText"] : List Str) n
def is_BadText : Str → Option Bool := fun n => List.lookup n [("BadText", true)]
def is_TooMany : Str → Option Bool := fun n => List.lookup n [("BadText", false)]
def is_ValueError : Str → Option Bool := fun n => List.lookup n [("BadText", true)]
def bod_bad_letter : En → Fl := (bSeq (sFor (iEnum1 (aCons (fVar 0) aNil)) (gUn 2 (tsCons (setD 2) (tsCons (setD 3) tsNil))) (bSeq (sIf (fOr (fTst boolD (fBin geD (fVar 2) (fVar 1))) (fTst boolD (fBin ninD (fVar 3) (fC (.str "abcdefghijklmnopqrstuvwxyz"))))) (bSeq (sRet (fVar 2)) bNil) bNil) bNil)) (bSeq (sRet (fUn negD (fC (.int 1)))) bNil))
def den_bad_letter : List D → FR := fnD 2 4 bod_bad_letter
def bod_letter_changes : En → Fl := (bSeq (sAsgO (oRange1 (fBin addD (fLenN 1) (fC (.int 1)))) 2) (bSeq (sFor (iSeq (fVar 0)) (setD 3) (bSeq (sAsg (fVar 2) (setD 4)) (bSeq (sAsgO (oLst (aCons (fBin addD (fLate 4 subD (fC (.int 0))) (fC (.int 1))) aNil)) 2) (bSeq (sFor (iEnum1 (aCons (fVar 1) aNil)) (gUn 2 (tsCons (setD 5) (tsCons (setD 6) tsNil))) (bSeq (sAsg (fBin addD (fLate 4 subD (fVar 5)) (fBlt intL (aCons (fLate 3 neD (fVar 6)) aNil))) (setD 7)) (bSeq (sApp 2 (fBlt minL (aCons (fVar 7) (aCons (fBin addD (fLate 4 subD (fBin addD (fVar 5) (fC (.int 1)))) (fC (.int 1))) (aCons (fBin addD (fLate 2 subD (fVar 5)) (fC (.int 1))) aNil))))) bNil))) bNil)))) (bSeq (sRet (fLate 2 subD (fUn negD (fC (.int 1))))) bNil)))
def den_letter_changes : List D → FR := fnD 2 8 bod_letter_changes
def bod__law_row : En → Fl := (bSeq (sAsg (fC (.int 0)) (setD 2)) (bSeq (sIf (fAnd (fTst boolD (fBin gtD (fLenN 0) (fC (.int 0)))) (fTst boolD (fBin geD (fLate 0 subD (fC (.int 0))) (fBin powI (fC (.int 10)) (fC (.int 18)))))) (bSeq (sAsg (fLate 0 subD (fC (.int 0))) (setD 2)) bNil) bNil) (bSeq (sAsgO (oLst aNil) 3) (bSeq (sAsg (fC (.int 12345)) (setD 4)) (bSeq (sFor (iRange1 (aCons (fVar 1) aNil)) (setD 5) (bSeq (sAsg (fVar 5) (setD 6)) (bSeq (sIf (fTst boolD (fBin gtD (fLenN 0) (fC (.int 0)))) (bSeq (sAsg (fLate 0 subD (fBin modI (fBlt intL (aCons (fVar 5) aNil)) (fBlt minL (aCons (fLenN 0) (aCons (fC (.int 63)) aNil))))) (setD 6)) bNil) bNil) (bSeq (sAsg (fBin modI (fBlt intL (aCons (fBin addD (fBin addD (fBin mulD (fVar 4) (fC (.int 48271))) (fBin mulD (fBin modI (fBlt intL (aCons (fVar 6) aNil)) (fC (.int 1000003))) (fC (.int 69621)))) (fBin mulD (fVar 5) (fC (.int 7907)))) aNil)) (fC (.int 2147483647))) (setD 4)) (bSeq (sIf (fTst boolD (fBin gtD (fVar 2) (fC (.int 0)))) (bSeq (sApp 3 (fBin modI (fBlt intL (aCons (fVar 2) aNil)) (fC (.int 997)))) (bSeq (sAsg (fBin fdivI (fVar 2) (fC (.int 997))) (setD 2)) bNil)) (bSeq (sApp 3 (fBin modI (fBlt intL (aCons (fBin fdivI (fVar 4) (fC (.int 11))) aNil)) (fC (.int 997)))) bNil)) bNil))))) (bSeq (sRet (fVar 3)) bNil))))))
def den__law_row : List D → FR := fnD 2 7 bod__law_row
def bod__law_same : En → Fl := (bSeq (sAsgO (oLst (aCons (fTup (aCons (fVar 0) (aCons (fVar 1) aNil))) aNil)) 2) (bSeq (sFor (iRange1 (aCons (fC (.int 200000)) aNil)) (setD 3) (bSeq (sIf (fTst boolD (fLate 2 eqD (fO (oLst aNil)))) (bSeq (sRet (fC (.bl true))) bNil) bNil) (bSeq (sAsg (fPop 2) (gUn 2 (tsCons (setD 4) (tsCons (setD 5) tsNil)))) (bSeq (sIf (fTst boolD (fBin isNonD (fVar 5) (fC .non))) (bSeq (sIf (fTst boolD (fBin isNotNonD (fVar 4) (fC .non))) (bSeq (sRet (fC (.bl false))) bNil) bNil) bNil) (bSeq (sIf (fTst boolD (fBlt isiL (aCons (fVar 5) (aCons (fC (.ty "bool")) aNil)))) (bSeq (sIf (fOr (fNot (fTst boolD (fBlt isiL (aCons (fVar 4) (aCons (fC (.ty "bool")) aNil))))) (fTst boolD (fLate 4 neD (fVar 5)))) (bSeq (sRet (fC (.bl false))) bNil) bNil) bNil) (bSeq (sIf (fTst boolD (fBlt isiL (aCons (fVar 5) (aCons (fC (.ty "int")) aNil)))) (bSeq (sIf (fOr (fNot (fTst boolD (fBlt isiL (aCons (fVar 4) (aCons (fC (.ty "int")) aNil))))) (fOr (fTst boolD (fBlt isiL (aCons (fVar 4) (aCons (fC (.ty "bool")) aNil)))) (fTst boolD (fLate 4 neD (fVar 5))))) (bSeq (sRet (fC (.bl false))) bNil) bNil) bNil) (bSeq (sIf (fTst boolD (fBlt isiL (aCons (fVar 5) (aCons (fC (.ty "str")) aNil)))) (bSeq (sIf (fOr (fNot (fTst boolD (fBlt isiL (aCons (fVar 4) (aCons (fC (.ty "str")) aNil))))) (fTst boolD (fLate 4 neD (fVar 5)))) (bSeq (sRet (fC (.bl false))) bNil) bNil) bNil) (bSeq (sIf (fOr (fTst boolD (fBin neD (fBlt isiL (aCons (fVar 4) (aCons (fC (.ty "list")) aNil))) (fBlt isiL (aCons (fVar 5) (aCons (fC (.ty "list")) aNil))))) (fTst boolD (fBin neD (fBlt isiL (aCons (fVar 4) (aCons (fC (.ty "tuple")) aNil))) (fBlt isiL (aCons (fVar 5) (aCons (fC (.ty "tuple")) aNil)))))) (bSeq (sRet (fC (.bl false))) bNil) bNil) (bSeq (sIf (fTst boolD (fBin neD (fLenN 4) (fLenN 5))) (bSeq (sRet (fC (.bl false))) bNil) bNil) (bSeq (sFor (iRange1 (aCons (fLenN 5) aNil)) (setD 6) (bSeq (sApp 2 (fTup (aCons (fLate 4 subD (fVar 6)) (aCons (fLate 5 subD (fVar 6)) aNil)))) bNil)) bNil)))) bNil)) bNil)) bNil)) bNil)))) (bSeq (sRet (fC (.bl false))) bNil)))
def den__law_same : List D → FR := fnD 2 7 bod__law_same
def bod__law_word : En → Fl := (bSeq (sAsg (fBin subD (fO (oLst (aCons (fC (.int 0)) (aCons (fC (.int 1)) (aCons (fC (.int 59)) (aCons (fC (.int 60)) (aCons (fBin modI (fBlt intL (aCons (fLate 0 subD (fVar 1)) aNil)) (fC (.int 61))) (aCons (fBin modI (fBlt intL (aCons (fLate 0 subD (fVar 1)) aNil)) (fC (.int 12))) (aCons (fBin modI (fBlt intL (aCons (fLate 0 subD (fVar 1)) aNil)) (fC (.int 30))) (aCons (fBin modI (fBlt intL (aCons (fLate 0 subD (fVar 1)) aNil)) (fC (.int 61))) aNil)))))))))) (fBin modI (fBlt intL (aCons (fLate 0 subD (fBin addD (fVar 1) (fC (.int 1)))) aNil)) (fC (.int 8)))) (setD 3)) (bSeq (sAsg (fBin addD (fC (.int 1)) (fBin modI (fBlt intL (aCons (fLate 0 subD (fBin addD (fVar 1) (fC (.int 2)))) aNil)) (fC (.int 4)))) (setD 4)) (bSeq (sRet (fJoin (fC (.str "")) (fO (fLc (iRange1 (aCons (fVar 3) aNil)) (setD 5) tYesD (fLate 2 subD (fBin modI (fBlt intL (aCons (fLate 0 subD (fBin addD (fBin addD (fVar 1) (fC (.int 3))) (fBin fdivI (fVar 5) (fVar 4)))) aNil)) (fLenN 2))) [5])))) bNil)))
def den__law_word : List D → FR := fnD 3 6 bod__law_word
def bod__law_edited : En → Fl := (bSeq (sFor (iRange1 (aCons (fBin modI (fBlt intL (aCons (fLate 1 subD (fVar 2)) aNil)) (fC (.int 8))) aNil)) (setD 4) (bSeq (sAsg (fBin modI (fBlt intL (aCons (fLate 1 subD (fBin addD (fBin addD (fVar 2) (fC (.int 1))) (fBin mulD (fC (.int 3)) (fVar 4)))) aNil)) (fC (.int 3))) (setD 5)) (bSeq (sAsg (fBin modI (fBlt intL (aCons (fLate 1 subD (fBin addD (fBin addD (fVar 2) (fC (.int 2))) (fBin mulD (fC (.int 3)) (fVar 4)))) aNil)) (fBin addD (fLenN 0) (fC (.int 1)))) (setD 6)) (bSeq (sAsg (fLate 3 subD (fBin modI (fBlt intL (aCons (fLate 1 subD (fBin addD (fBin addD (fVar 2) (fC (.int 3))) (fBin mulD (fC (.int 3)) (fVar 4)))) aNil)) (fLenN 3))) (setD 7)) (bSeq (sIf (fTst boolD (fLate 5 eqD (fC (.int 0)))) (bSeq (sAsg (fBin addD (fBin addD (fSl (fVar 0) pNone (pSome (fVar 6))) (fVar 7)) (fSl (fVar 0) (pSome (fVar 6)) pNone)) (setD 0)) bNil) bNil) (bSeq (sIf (fTst boolD (fLate 5 eqD (fC (.int 1)))) (bSeq (sAsg (fBin addD (fSl (fVar 0) pNone (pSome (fVar 6))) (fSl (fVar 0) (pSome (fBin addD (fVar 6) (fC (.int 1)))) pNone)) (setD 0)) bNil) bNil) (bSeq (sIf (fTst boolD (fLate 5 eqD (fC (.int 2)))) (bSeq (sAsg (fBin addD (fBin addD (fSl (fVar 0) pNone (pSome (fVar 6))) (fVar 7)) (fSl (fVar 0) (pSome (fBin addD (fVar 6) (fC (.int 1)))) pNone)) (setD 0)) bNil) bNil) bNil))))))) (bSeq (sRet (fSl (fVar 0) pNone (pSome (fC (.int 60))))) bNil))
def den__law_edited : List D → FR := fnD 4 8 bod__law_edited
def bod__law_table : En → Fl := (bSeq (sAsgO (fLc (iRange1 (aCons (fBin addD (fLenN 1) (fC (.int 1))) aNil)) (setD 5) tYesD (fVar 5) [5]) 2) (bSeq (sFor (iRange1 (aCons (fLenN 0) aNil)) (setD 3) (bSeq (sAsgO (oLst (aCons (fBin addD (fVar 3) (fC (.int 1))) aNil)) 4) (bSeq (sFor (iRange1 (aCons (fLenN 1) aNil)) (setD 5) (bSeq (sAsg (fLate 2 subD (fVar 5)) (setD 6)) (bSeq (sIf (fTst boolD (fBin neD (fLate 0 subD (fVar 3)) (fLate 1 subD (fVar 5)))) (bSeq (sAsg (fBin addD (fVar 6) (fC (.int 1))) (setD 6)) bNil) bNil) (bSeq (sApp 4 (fBlt minL (aCons (fO (oLst (aCons (fVar 6) (aCons (fBin addD (fLate 2 subD (fBin addD (fVar 5) (fC (.int 1)))) (fC (.int 1))) (aCons (fBin addD (fLate 4 subD (fVar 5)) (fC (.int 1))) aNil))))) aNil))) bNil)))) (bSeq (sAsg (fVar 4) (setD 2)) bNil)))) (bSeq (sRet (fLate 2 subD (fLenN 1))) bNil)))
def den__law_table : List D → FR := fnD 2 7 bod__law_table
def bod__law_bad_place : En → Fl := (bSeq (sFor (iRange1 (aCons (fLenN 0) aNil)) (setD 1) (bSeq (sIf (fOr (fTst boolD (fBin geD (fVar 1) (fC (.int 60)))) (fTst boolD (fBin ninD (fLate 0 subD (fVar 1)) (fC (.str "abcdefghijklmnopqrstuvwxyz"))))) (bSeq (sRet (fVar 1)) bNil) bNil) bNil)) (bSeq (sRet (fUn negD (fC (.int 1)))) bNil))
def den__law_bad_place : List D → FR := fnD 1 2 bod__law_bad_place
def bod__law_spoilt : En → Fl := (bSeq (sIf (fTst boolD (fBin eqD (fBin modI (fBlt intL (aCons (fLate 1 subD (fVar 2)) aNil)) (fC (.int 4))) (fC (.int 1)))) (bSeq (sRet (fSl (fBin addD (fVar 0) (fBin mulD (fC (.str "abcdefghijkl")) (fC (.int 6)))) pNone (pSome (fBin addD (fC (.int 61)) (fBin modI (fBlt intL (aCons (fLate 1 subD (fBin addD (fVar 2) (fC (.int 1)))) aNil)) (fC (.int 10))))))) bNil) bNil) (bSeq (sAsg (fC (.str " !\"#$&'()*+,-./0123456789:;<=>?@ABCDEFGHIJKLMNOPQRSTUVWXYZ[\\]^_{|}~")) (setD 3)) (bSeq (sAsg (fBin modI (fBlt intL (aCons (fLate 1 subD (fBin addD (fVar 2) (fC (.int 1)))) aNil)) (fBin addD (fLenN 0) (fC (.int 1)))) (setD 4)) (bSeq (sRet (fBin addD (fBin addD (fSl (fVar 0) pNone (pSome (fVar 4))) (fLate 3 subD (fBin modI (fBlt intL (aCons (fLate 1 subD (fBin addD (fVar 2) (fC (.int 2)))) aNil)) (fLenN 3)))) (fSl (fVar 0) (pSome (fVar 4)) pNone))) bNil))))
def den__law_spoilt : List D → FR := fnD 3 5 bod__law_spoilt
def bod_check_text : En → Fl := (bSeq (sAsg (fCall den_bad_letter (aCons (fVar 0) (aCons (fVar 1) aNil)) []) (setD 2)) (bSeq (sIf (fTst boolD (fBin geD (fVar 2) (fC (.int 0)))) (bSeq (fRaise1 "BadText" "place" (aCons (fVar 2) aNil)) bNil) bNil) bNil))
def den_check_text : List D → FR := fnD 2 3 bod_check_text
def bod__law_due : En → Fl := (bSeq (sFor (iSeq (fO (oLst (aCons (fVar 0) (aCons (fVar 1) aNil))))) (setD 2) (bSeq (sIf (fTst boolD (fBin geD (fCall den__law_bad_place (aCons (fVar 2) aNil) []) (fC (.int 0)))) (bSeq (sRet (fO (oLst (aCons (fC (.str "bad")) (aCons (fCall den__law_bad_place (aCons (fVar 2) aNil) []) aNil))))) bNil) bNil) bNil)) (bSeq (sRet (fO (oLst (aCons (fC (.str "told")) (aCons (fCall den__law_table (aCons (fVar 0) (aCons (fVar 1) aNil)) []) aNil))))) bNil))
def den__law_due : List D → FR := fnD 2 3 bod__law_due
def bod_text_distance : En → Fl := (bSeq (sDrop (fCall den_check_text (aCons (fVar 0) aNil) [(.int 60)])) (bSeq (sDrop (fCall den_check_text (aCons (fVar 1) aNil) [(.int 60)])) (bSeq (sRet (fCall den_letter_changes (aCons (fVar 0) (aCons (fVar 1) aNil)) [])) bNil)))
def den_text_distance : List D → FR := fnD 2 2 bod_text_distance
def bod__law_asked : En → Fl := (bSeq (fTry 2 ex_Fault (bSeq (sRet (fO (oLst (aCons (fC (.str "told")) (aCons (fCall den_text_distance (aCons (fVar 0) (aCons (fVar 1) aNil)) []) aNil))))) bNil) (bSeq (sIf (fAnd (fTst boolD (fIsE 2 is_BadText)) (fAnd (fTst boolD (fIsE 2 is_ValueError)) (fNot (fTst boolD (fIsE 2 is_TooMany))))) (bSeq (sRet (fO (oLst (aCons (fC (.str "bad")) (aCons (fXf 2 ok_place "place") aNil))))) bNil) bNil) bNil)) (bSeq (sRet (fO (oLst (aCons (fC (.str "other")) aNil)))) bNil))
def den__law_asked : List D → FR := fnD 2 3 bod__law_asked
def bod_law : En → Fl := (bSeq (sAsg (fCall den__law_row (aCons (fVar 0) (aCons (fC (.int 260)) aNil)) []) (setD 1)) (bSeq (sAsg (fC (.str "abcdefghijklmnopqrstuvwxyz")) (setD 2)) (bSeq (sAsg (fBin addD (fBin addD (fLate 2 subD (fBin modI (fBlt intL (aCons (fLate 1 subD (fC (.int 0))) aNil)) (fC (.int 26)))) (fLate 2 subD (fBin modI (fBlt intL (aCons (fLate 1 subD (fC (.int 1))) aNil)) (fC (.int 26))))) (fLate 2 subD (fBin modI (fBlt intL (aCons (fLate 1 subD (fC (.int 2))) aNil)) (fC (.int 26))))) (setD 3)) (bSeq (sAsg (fSl (fVar 3) pNone (pSome (fBin addD (fC (.int 1)) (fBin modI (fBlt intL (aCons (fLate 1 subD (fC (.int 3))) aNil)) (fC (.int 3)))))) (setD 3)) (bSeq (sAsg (fCall den__law_word (aCons (fVar 1) (aCons (fC (.int 10)) (aCons (fVar 3) aNil))) []) (setD 4)) (bSeq (sAsg (fCall den__law_edited (aCons (fVar 4) (aCons (fVar 1) (aCons (fC (.int 74)) (aCons (fVar 3) aNil)))) []) (setD 5)) (bSeq (sIf (fTst boolD (fBin eqD (fBin modI (fBlt intL (aCons (fLate 1 subD (fC (.int 4))) aNil)) (fC (.int 4))) (fC (.int 1)))) (bSeq (sAsg (fCall den__law_word (aCons (fVar 1) (aCons (fC (.int 100)) (aCons (fVar 3) aNil))) []) (setD 5)) bNil) bNil) (bSeq (sAsg (fCall den__law_word (aCons (fVar 1) (aCons (fC (.int 164)) (aCons (fVar 3) aNil))) []) (setD 6)) (bSeq (sAsg (fCall den__law_table (aCons (fVar 4) (aCons (fVar 5) aNil)) []) (setD 7)) (bSeq (sIf (fOr (fNot (fTst boolD (fCall den__law_same (aCons (fCall den__law_asked (aCons (fVar 4) (aCons (fVar 5) aNil)) []) (aCons (fO (oLst (aCons (fC (.str "told")) (aCons (fVar 7) aNil)))) aNil)) []))) (fNot (fTst boolD (fCall den__law_same (aCons (fCall den__law_asked (aCons (fVar 5) (aCons (fVar 4) aNil)) []) (aCons (fO (oLst (aCons (fC (.str "told")) (aCons (fVar 7) aNil)))) aNil)) [])))) (bSeq (sRet (fC (.bl false))) bNil) bNil) (bSeq (sIf (fOr (fTst boolD (fBin neD (fLate 7 eqD (fC (.int 0))) (fLate 4 eqD (fVar 5)))) (fNot (fTst boolD (fCall den__law_same (aCons (fCall den__law_asked (aCons (fVar 4) (aCons (fVar 4) aNil)) []) (aCons (fO (oLst (aCons (fC (.str "told")) (aCons (fC (.int 0)) aNil)))) aNil)) [])))) (bSeq (sRet (fC (.bl false))) bNil) bNil) (bSeq (sFor (iSeq (fO (oLst (aCons (fVar 4) (aCons (fVar 5) aNil))))) (setD 8) (bSeq (sIf (fNot (fTst boolD (fCall den__law_same (aCons (fCall den__law_asked (aCons (fVar 8) (aCons (fVar 6) aNil)) []) (aCons (fCall den__law_due (aCons (fVar 8) (aCons (fVar 6) aNil)) []) aNil)) []))) (bSeq (sRet (fC (.bl false))) bNil) bNil) bNil)) (bSeq (sIf (fTst boolD (fBin gtD (fCall den_text_distance (aCons (fVar 4) (aCons (fVar 6) aNil)) []) (fBin addD (fVar 7) (fCall den_text_distance (aCons (fVar 6) (aCons (fVar 5) aNil)) [])))) (bSeq (sRet (fC (.bl false))) bNil) bNil) (bSeq (sAsg (fCall den__law_spoilt (aCons (fVar 4) (aCons (fVar 1) (aCons (fC (.int 240)) aNil))) []) (setD 9)) (bSeq (sAsg (fCall den__law_spoilt (aCons (fVar 6) (aCons (fVar 1) (aCons (fC (.int 244)) aNil))) []) (setD 10)) (bSeq (sFor (iSeq (fO (oLst (aCons (fTup (aCons (fVar 9) (aCons (fVar 5) aNil))) (aCons (fTup (aCons (fVar 5) (aCons (fVar 9) aNil))) (aCons (fTup (aCons (fVar 9) (aCons (fVar 10) aNil))) (aCons (fTup (aCons (fVar 10) (aCons (fVar 9) aNil))) aNil))))))) (setD 11) (bSeq (sIf (fNot (fTst boolD (fCall den__law_same (aCons (fCall den__law_asked (aCons (fLate 11 subD (fC (.int 0))) (aCons (fLate 11 subD (fC (.int 1))) aNil)) []) (aCons (fCall den__law_due (aCons (fLate 11 subD (fC (.int 0))) (aCons (fLate 11 subD (fC (.int 1))) aNil)) []) aNil)) []))) (bSeq (sRet (fC (.bl false))) bNil) bNil) bNil)) (bSeq (sRet (fC (.bl true))) bNil)))))))))))))))))
def den_law : List D → FR := fnD 1 12 bod_law
structure Ad where
  a_bad_letter : Addr
  d_bad_letter : FuncData
  a_check_text : Addr
  d_check_text : FuncData
  a_letter_changes : Addr
  d_letter_changes : FuncData
  a_text_distance : Addr
  d_text_distance : FuncData
  a__law_row : Addr
  d__law_row : FuncData
  a__law_same : Addr
  d__law_same : FuncData
  a__law_word : Addr
  d__law_word : FuncData
  a__law_edited : Addr
  d__law_edited : FuncData
  a__law_table : Addr
  d__law_table : FuncData
  a__law_asked : Addr
  d__law_asked : FuncData
  a__law_bad_place : Addr
  d__law_bad_place : FuncData
  a__law_due : Addr
  d__law_due : FuncData
  a__law_spoilt : Addr
  d__law_spoilt : FuncData
  a_law : Addr
  d_law : FuncData
  c_Fault : Addr
  c_BadText : Addr
  c_TooMany : Addr
  i_BadText : Addr
/-- a constant of the module -/
structure GC (mg : Str → Option Value) (x : Str) (v : V) : Prop where
  ex : ∃ u, mg x = some u ∧ RelV v u
theorem GC.glI {X : Cx} {x : Str} {i : Int} (g : GC X.mg x (.int i)) : GlJ X x (.int i) := by
  obtain ⟨u, h1, h2⟩ := g.ex
  exact ⟨u, _, h1, h2, fun F => .int i⟩
theorem GC.glS {X : Cx} {x : Str} {i : Str} (g : GC X.mg x (.str i)) : GlJ X x (.str i) := by
  obtain ⟨u, h1, h2⟩ := g.ex
  exact ⟨u, _, h1, h2, fun F => .str i⟩
structure Tx (P : Program) (K : PySem.W.Frag) (mg : Str → Option Value) (ad : Ad) : Prop where
  z_ValueError : mg "ValueError" = none
  z_bool : mg "bool" = none
  z_enumerate : mg "enumerate" = none
  z_int : mg "int" = none
  z_isinstance : mg "isinstance" = none
  z_len : mg "len" = none
  z_list : mg "list" = none
  z_min : mg "min" = none
  z_range : mg "range" = none
  z_str : mg "str" = none
  z_tuple : mg "tuple" = none
  g_LETTERS : GC mg "LETTERS" (.str "abcdefghijklmnopqrstuvwxyz")
  F_bad_letter : FunD K "bad_letter" "bad_letter" (defArgs s_bad_letter) (defBody s_bad_letter) (defScope s_bad_letter) [] [] ad.a_bad_letter ad.d_bad_letter
  m_bad_letter : mg "bad_letter" = some (.ref ad.a_bad_letter)
  F_check_text : FunD K "check_text" "check_text" (defArgs s_check_text) (defBody s_check_text) (defScope s_check_text) [(.int 60)] [] ad.a_check_text ad.d_check_text
  m_check_text : mg "check_text" = some (.ref ad.a_check_text)
  F_letter_changes : FunD K "letter_changes" "letter_changes" (defArgs s_letter_changes) (defBody s_letter_changes) (defScope s_letter_changes) [] [] ad.a_letter_changes ad.d_letter_changes
  m_letter_changes : mg "letter_changes" = some (.ref ad.a_letter_changes)
  F_text_distance : FunD K "text_distance" "text_distance" (defArgs s_text_distance) (defBody s_text_distance) (defScope s_text_distance) [] [] ad.a_text_distance ad.d_text_distance
  m_text_distance : mg "text_distance" = some (.ref ad.a_text_distance)
  F__law_row : FunD K "_law_row" "_law_row" (defArgs s__law_row) (defBody s__law_row) (defScope s__law_row) [] [] ad.a__law_row ad.d__law_row
  m__law_row : mg "_law_row" = some (.ref ad.a__law_row)
  F__law_same : FunD K "_law_same" "_law_same" (defArgs s__law_same) (defBody s__law_same) (defScope s__law_same) [] [] ad.a__law_same ad.d__law_same
  m__law_same : mg "_law_same" = some (.ref ad.a__law_same)
  F__law_word : FunD K "_law_word" "_law_word" (defArgs s__law_word) (defBody s__law_word) (defScope s__law_word) [] [] ad.a__law_word ad.d__law_word
  m__law_word : mg "_law_word" = some (.ref ad.a__law_word)
  F__law_edited : FunD K "_law_edited" "_law_edited" (defArgs s__law_edited) (defBody s__law_edited) (defScope s__law_edited) [] [] ad.a__law_edited ad.d__law_edited
  m__law_edited : mg "_law_edited" = some (.ref ad.a__law_edited)
  F__law_table : FunD K "_law_table" "_law_table" (defArgs s__law_table) (defBody s__law_table) (defScope s__law_table) [] [] ad.a__law_table ad.d__law_table
  m__law_table : mg "_law_table" = some (.ref ad.a__law_table)
  F__law_asked : FunD K "_law_asked" "_law_asked" (defArgs s__law_asked) (defBody s__law_asked) (defScope s__law_asked) [] [] ad.a__law_asked ad.d__law_asked
  m__law_asked : mg "_law_asked" = some (.ref ad.a__law_asked)
  F__law_bad_place : FunD K "_law_bad_place" "_law_bad_place" (defArgs s__law_bad_place) (defBody s__law_bad_place) (defScope s__law_bad_place) [] [] ad.a__law_bad_place ad.d__law_bad_place
  m__law_bad_place : mg "_law_bad_place" = some (.ref ad.a__law_bad_place)
  F__law_due : FunD K "_law_due" "_law_due" (defArgs s__law_due) (defBody s__law_due) (defScope s__law_due) [] [] ad.a__law_due ad.d__law_due
  m__law_due : mg "_law_due" = some (.ref ad.a__law_due)
  F__law_spoilt : FunD K "_law_spoilt" "_law_spoilt" (defArgs s__law_spoilt) (defBody s__law_spoilt) (defScope s__law_spoilt) [] [] ad.a__law_spoilt ad.d__law_spoilt
  m__law_spoilt : mg "_law_spoilt" = some (.ref ad.a__law_spoilt)
  F_law : FunD K "law" "law" (defArgs s_law) (defBody s_law) (defScope s_law) [] [] ad.a_law ad.d_law
  m_law : mg "law" = some (.ref ad.a_law)
  b__law_asked_2 : ∃ us, DfJ K us [] ∧ Binds K ad.d__law_asked ["first", "second"] us
  b__law_bad_place_1 : ∃ us, DfJ K us [] ∧ Binds K ad.d__law_bad_place ["text"] us
  b__law_due_2 : ∃ us, DfJ K us [] ∧ Binds K ad.d__law_due ["first", "second"] us
  b__law_edited_4 : ∃ us, DfJ K us [] ∧ Binds K ad.d__law_edited ["text", "row", "at", "pool"] us
  b__law_row_2 : ∃ us, DfJ K us [] ∧ Binds K ad.d__law_row ["script", "many"] us
  b__law_same_2 : ∃ us, DfJ K us [] ∧ Binds K ad.d__law_same ["told", "due"] us
  b__law_spoilt_3 : ∃ us, DfJ K us [] ∧ Binds K ad.d__law_spoilt ["text", "row", "at"] us
  b__law_table_2 : ∃ us, DfJ K us [] ∧ Binds K ad.d__law_table ["first", "second"] us
  b__law_word_3 : ∃ us, DfJ K us [] ∧ Binds K ad.d__law_word ["row", "at", "pool"] us
  b_bad_letter_2 : ∃ us, DfJ K us [] ∧ Binds K ad.d_bad_letter ["text", "most"] us
  b_check_text_1 : ∃ us, DfJ K us [(.int 60)] ∧ Binds K ad.d_check_text ["text", "most"] us
  b_letter_changes_2 : ∃ us, DfJ K us [] ∧ Binds K ad.d_letter_changes ["first", "second"] us
  b_text_distance_2 : ∃ us, DfJ K us [] ∧ Binds K ad.d_text_distance ["first", "second"] us
  m_Fault : mg "Fault" = some (.ref ad.c_Fault)
  n_Fault : PySem.W.nsIn K mainGlobals "Fault" = some (some (.ref ad.c_Fault))
  m_BadText : mg "BadText" = some (.ref ad.c_BadText)
  n_BadText : PySem.W.nsIn K mainGlobals "BadText" = some (some (.ref ad.c_BadText))
  m_TooMany : mg "TooMany" = some (.ref ad.c_TooMany)
  n_TooMany : PySem.W.nsIn K mainGlobals "TooMany" = some (some (.ref ad.c_TooMany))
  s_BadText : PySem.PDX.SupTxt P K mg ad.c_BadText ad.i_BadText "invalid text" "place"
  e_Fault : ExT K (.ref ad.c_Fault) ex_Fault
  x_place : XfT K ok_place "place"
  i_BadText : IsT K (.ref ad.c_BadText) is_BadText
  i_TooMany : IsT K (.ref ad.c_TooMany) is_TooMany
  i_ValueError : IsT K (.type "ValueError") is_ValueError
section
variable {P : Program} {w : World} {K : PySem.W.Frag} {mg : Str → Option Value} {base : Heap} {ad : Ad}
theorem fnj_bad_letter (T : Tx P K mg ad) : FnJ P w K mg base 1 ad.a_bad_letter ad.d_bad_letter ["text", "most"] den_bad_letter := by
  refine fnj_ofD T.F_bad_letter sc_bad_letter fun cdv A outer s H E hr => ?_
  have tk := takes_cx (P := P) (w := w) (K := K) (mg := mg) (base := base) (N := ["text", "most", "place", "letter"]) (qual := "bad_letter") (sc := defScope s_bad_letter) (f := ad.a_bad_letter) (cdv := cdv) (A := A) (outer := outer) (s := s) (H := H) (E := E)
  have hp := owns_cx (P := P) (w := w) (K := K) (mg := mg) (base := base) (N := ["text", "most", "place", "letter"]) (qual := "bad_letter") (sc := defScope s_bad_letter) (f := ad.a_bad_letter) (cdv := cdv) (A := A) (outer := outer) (s := s) (H := H) (E := E)
  have nd := sc_bad_letter.nd
  have hu := hu64 hr
  exact (bj_cons (sj_for hp (ij_enum T.z_enumerate (aj_cons (ej_var 0) aj_nil)) (gj_tup 2 (gsj_cons (gj_name 2 nd) (gsj_cons (gj_name 3 nd) gsj_nil))) (calm_un (calm_cons (calm_set 2) (calm_cons (calm_set 3) calm_nil))) (bj_cons (sj_if (TWJ.tj (twj_or (tj_cmp oj_ge (ej_var 2) (ej_var 1)) (twj_or1 (tj_cmp oj_nin (ej_var 3) (ej_glob (T.g_LETTERS.glS)))))) (bj_cons (sj_ret (ej_var 2)) bj_nil) bj_nil) bj_nil)) (bj_cons (sj_ret (ej_neg ej_int)) bj_nil))
theorem fnj_letter_changes (T : Tx P K mg ad) : FnJ P w K mg base 1 ad.a_letter_changes ad.d_letter_changes ["first", "second"] den_letter_changes := by
  refine fnj_ofD T.F_letter_changes sc_letter_changes fun cdv A outer s H E hr => ?_
  have tk := takes_cx (P := P) (w := w) (K := K) (mg := mg) (base := base) (N := ["first", "second", "row", "letter", "above", "place", "other", "cost"]) (qual := "letter_changes") (sc := defScope s_letter_changes) (f := ad.a_letter_changes) (cdv := cdv) (A := A) (outer := outer) (s := s) (H := H) (E := E)
  have hp := owns_cx (P := P) (w := w) (K := K) (mg := mg) (base := base) (N := ["first", "second", "row", "letter", "above", "place", "other", "cost"]) (qual := "letter_changes") (sc := defScope s_letter_changes) (f := ad.a_letter_changes) (cdv := cdv) (A := A) (outer := outer) (s := s) (H := H) (E := E)
  have nd := sc_letter_changes.nd
  have hu := hu64 hr
  exact (bj_cons (sj_setO 2 nd (oj_listRange T.z_list T.z_range (ej_bin oj_add (ej_lenN 1 T.z_len) ej_int))) (bj_cons (sj_for hp (ij_seq (ej_var 0)) (gj_name 3 nd) (calm_set 3) (bj_cons (sj_set 4 nd (ej_var 2)) (bj_cons (sj_setO 2 nd (oj_lst (aj_cons (ej_bin oj_add (ej_subN 4 ej_int) ej_int) aj_nil))) (bj_cons (sj_for hp (ij_enum T.z_enumerate (aj_cons (ej_var 1) aj_nil)) (gj_tup 2 (gsj_cons (gj_name 5 nd) (gsj_cons (gj_name 6 nd) gsj_nil))) (calm_un (calm_cons (calm_set 5) (calm_cons (calm_set 6) calm_nil))) (bj_cons (sj_set 7 nd (ej_bin oj_add (ej_subN 4 (ej_var 5)) (ej_bty cj_int T.z_int (aj_cons (ej_cmpN 3 (n := true) hu (Or.inr ⟨rfl, rfl⟩) (ej_var 6)) aj_nil)))) (bj_cons (sj_app 2 (ej_blt cj_min T.z_min (aj_cons (ej_var 7) (aj_cons (ej_bin oj_add (ej_subN 4 (ej_bin oj_add (ej_var 5) ej_int)) ej_int) (aj_cons (ej_bin oj_add (ej_subN 2 (ej_var 5)) ej_int) aj_nil))))) bj_nil))) bj_nil)))) (bj_cons (sj_ret (ej_subN 2 (ej_neg ej_int))) bj_nil)))
theorem fnj__law_row (T : Tx P K mg ad) : FnJ P w K mg base 1 ad.a__law_row ad.d__law_row ["script", "many"] den__law_row := by
  refine fnj_ofD T.F__law_row sc__law_row fun cdv A outer s H E hr => ?_
  have tk := takes_cx (P := P) (w := w) (K := K) (mg := mg) (base := base) (N := ["script", "many", "rest", "row", "mixed", "k", "cell"]) (qual := "_law_row") (sc := defScope s__law_row) (f := ad.a__law_row) (cdv := cdv) (A := A) (outer := outer) (s := s) (H := H) (E := E)
  have hp := owns_cx (P := P) (w := w) (K := K) (mg := mg) (base := base) (N := ["script", "many", "rest", "row", "mixed", "k", "cell"]) (qual := "_law_row") (sc := defScope s__law_row) (f := ad.a__law_row) (cdv := cdv) (A := A) (outer := outer) (s := s) (H := H) (E := E)
  have nd := sc__law_row.nd
  have hu := hu64 hr
  exact (bj_cons (sj_set 2 nd ej_int) (bj_cons (sj_if (TWJ.tj (twj_and (tj_cmp oj_gt (ej_lenN 0 T.z_len) ej_int) (twj_and1 (tj_cmp oj_ge (ej_subN 0 ej_int) (ej_bin oj_pow ej_int ej_int))))) (bj_cons (sj_set 2 nd (ej_subN 0 ej_int)) bj_nil) bj_nil) (bj_cons (sj_setO 3 nd (oj_lst aj_nil)) (bj_cons (sj_set 4 nd ej_int) (bj_cons (sj_for hp (ij_range1 T.z_range (aj_cons (ej_var 1) aj_nil)) (gj_name 5 nd) (calm_set 5) (bj_cons (sj_set 6 nd (ej_var 5)) (bj_cons (sj_if (tj_cmp oj_gt (ej_lenN 0 T.z_len) ej_int) (bj_cons (sj_set 6 nd (ej_subN 0 (ej_bin oj_mod (ej_bty cj_int T.z_int (aj_cons (ej_var 5) aj_nil)) (ej_blt cj_min T.z_min (aj_cons (ej_lenN 0 T.z_len) (aj_cons ej_int aj_nil)))))) bj_nil) bj_nil) (bj_cons (sj_set 4 nd (ej_bin oj_mod (ej_bty cj_int T.z_int (aj_cons (ej_bin oj_add (ej_bin oj_add (ej_bin oj_mul (ej_var 4) ej_int) (ej_bin oj_mul (ej_bin oj_mod (ej_bty cj_int T.z_int (aj_cons (ej_var 6) aj_nil)) ej_int) ej_int)) (ej_bin oj_mul (ej_var 5) ej_int)) aj_nil)) ej_int)) (bj_cons (sj_if (tj_cmp oj_gt (ej_var 2) ej_int) (bj_cons (sj_app 3 (ej_bin oj_mod (ej_bty cj_int T.z_int (aj_cons (ej_var 2) aj_nil)) ej_int)) (bj_cons (sj_set 2 nd (ej_bin oj_fdiv (ej_var 2) ej_int)) bj_nil)) (bj_cons (sj_app 3 (ej_bin oj_mod (ej_bty cj_int T.z_int (aj_cons (ej_bin oj_fdiv (ej_var 4) ej_int) aj_nil)) ej_int)) bj_nil)) bj_nil))))) (bj_cons (sj_ret (ej_var 3)) bj_nil))))))
theorem fnj__law_same (T : Tx P K mg ad) : FnJ P w K mg base 1 ad.a__law_same ad.d__law_same ["told", "due"] den__law_same := by
  refine fnj_ofD T.F__law_same sc__law_same fun cdv A outer s H E hr => ?_
  have tk := takes_cx (P := P) (w := w) (K := K) (mg := mg) (base := base) (N := ["told", "due", "waiting", "k", "one", "two", "at"]) (qual := "_law_same") (sc := defScope s__law_same) (f := ad.a__law_same) (cdv := cdv) (A := A) (outer := outer) (s := s) (H := H) (E := E)
  have hp := owns_cx (P := P) (w := w) (K := K) (mg := mg) (base := base) (N := ["told", "due", "waiting", "k", "one", "two", "at"]) (qual := "_law_same") (sc := defScope s__law_same) (f := ad.a__law_same) (cdv := cdv) (A := A) (outer := outer) (s := s) (H := H) (E := E)
  have nd := sc__law_same.nd
  have hu := hu64 hr
  exact (bj_cons (sj_setO 2 nd (oj_lst (aj_cons (ej_tup (aj_cons (ej_var 0) (aj_cons (ej_var 1) aj_nil))) aj_nil))) (bj_cons (sj_for hp (ij_range1 T.z_range (aj_cons ej_int aj_nil)) (gj_name 3 nd) (calm_set 3) (bj_cons (sj_if (tj_cmpN 2 (n := false) hu (Or.inl ⟨rfl, rfl⟩) (OJ.ej (oj_lst aj_nil))) (bj_cons (sj_ret ej_bl) bj_nil) bj_nil) (bj_cons (sj_asg (gj_tup 2 (gsj_cons (gj_name 4 nd) (gsj_cons (gj_name 5 nd) gsj_nil))) (calm_un (calm_cons (calm_set 4) (calm_cons (calm_set 5) calm_nil))) (ej_pop 2)) (bj_cons (sj_if (tj_cmp oj_isN (ej_var 5) ej_non) (bj_cons (sj_if (tj_cmp oj_notN (ej_var 4) ej_non) (bj_cons (sj_ret ej_bl) bj_nil) bj_nil) bj_nil) (bj_cons (sj_if (tj_val (ej_blt cj_isi T.z_isinstance (aj_cons (ej_var 5) (aj_cons (ej_ty T.z_bool) aj_nil)))) (bj_cons (sj_if (TWJ.tj (twj_or (tj_not (tj_val (ej_blt cj_isi T.z_isinstance (aj_cons (ej_var 4) (aj_cons (ej_ty T.z_bool) aj_nil))))) (twj_or1 (tj_cmpN 4 (n := true) hu (Or.inr ⟨rfl, rfl⟩) (ej_var 5))))) (bj_cons (sj_ret ej_bl) bj_nil) bj_nil) bj_nil) (bj_cons (sj_if (tj_val (ej_blt cj_isi T.z_isinstance (aj_cons (ej_var 5) (aj_cons (ej_ty T.z_int) aj_nil)))) (bj_cons (sj_if (TWJ.tj (twj_or (tj_not (tj_val (ej_blt cj_isi T.z_isinstance (aj_cons (ej_var 4) (aj_cons (ej_ty T.z_int) aj_nil))))) (twj_or (tj_val (ej_blt cj_isi T.z_isinstance (aj_cons (ej_var 4) (aj_cons (ej_ty T.z_bool) aj_nil)))) (twj_or1 (tj_cmpN 4 (n := true) hu (Or.inr ⟨rfl, rfl⟩) (ej_var 5)))))) (bj_cons (sj_ret ej_bl) bj_nil) bj_nil) bj_nil) (bj_cons (sj_if (tj_val (ej_blt cj_isi T.z_isinstance (aj_cons (ej_var 5) (aj_cons (ej_ty T.z_str) aj_nil)))) (bj_cons (sj_if (TWJ.tj (twj_or (tj_not (tj_val (ej_blt cj_isi T.z_isinstance (aj_cons (ej_var 4) (aj_cons (ej_ty T.z_str) aj_nil))))) (twj_or1 (tj_cmpN 4 (n := true) hu (Or.inr ⟨rfl, rfl⟩) (ej_var 5))))) (bj_cons (sj_ret ej_bl) bj_nil) bj_nil) bj_nil) (bj_cons (sj_if (TWJ.tj (twj_or (tj_cmp (oj_ne hu) (ej_blt cj_isi T.z_isinstance (aj_cons (ej_var 4) (aj_cons (ej_ty T.z_list) aj_nil))) (ej_blt cj_isi T.z_isinstance (aj_cons (ej_var 5) (aj_cons (ej_ty T.z_list) aj_nil)))) (twj_or1 (tj_cmp (oj_ne hu) (ej_blt cj_isi T.z_isinstance (aj_cons (ej_var 4) (aj_cons (ej_ty T.z_tuple) aj_nil))) (ej_blt cj_isi T.z_isinstance (aj_cons (ej_var 5) (aj_cons (ej_ty T.z_tuple) aj_nil))))))) (bj_cons (sj_ret ej_bl) bj_nil) bj_nil) (bj_cons (sj_if (tj_cmp (oj_ne hu) (ej_lenN 4 T.z_len) (ej_lenN 5 T.z_len)) (bj_cons (sj_ret ej_bl) bj_nil) bj_nil) (bj_cons (sj_for hp (ij_range1 T.z_range (aj_cons (ej_lenN 5 T.z_len) aj_nil)) (gj_name 6 nd) (calm_set 6) (bj_cons (sj_app 2 (ej_tup (aj_cons (ej_subN 4 (ej_var 6)) (aj_cons (ej_subN 5 (ej_var 6)) aj_nil)))) bj_nil)) bj_nil)))) bj_nil)) bj_nil)) bj_nil)) bj_nil)))) (bj_cons (sj_ret ej_bl) bj_nil)))
theorem fnj__law_word (T : Tx P K mg ad) : FnJ P w K mg base 1 ad.a__law_word ad.d__law_word ["row", "at", "pool"] den__law_word := by
  refine fnj_ofD T.F__law_word sc__law_word fun cdv A outer s H E hr => ?_
  have tk := takes_cx (P := P) (w := w) (K := K) (mg := mg) (base := base) (N := ["row", "at", "pool", "size", "run", "k"]) (qual := "_law_word") (sc := defScope s__law_word) (f := ad.a__law_word) (cdv := cdv) (A := A) (outer := outer) (s := s) (H := H) (E := E)
  have hp := owns_cx (P := P) (w := w) (K := K) (mg := mg) (base := base) (N := ["row", "at", "pool", "size", "run", "k"]) (qual := "_law_word") (sc := defScope s__law_word) (f := ad.a__law_word) (cdv := cdv) (A := A) (outer := outer) (s := s) (H := H) (E := E)
  have nd := sc__law_word.nd
  have hu := hu64 hr
  exact (bj_cons (sj_set 3 nd (ej_sub (OJ.ej (oj_lst (aj_cons ej_int (aj_cons ej_int (aj_cons ej_int (aj_cons ej_int (aj_cons (ej_bin oj_mod (ej_bty cj_int T.z_int (aj_cons (ej_subN 0 (ej_var 1)) aj_nil)) ej_int) (aj_cons (ej_bin oj_mod (ej_bty cj_int T.z_int (aj_cons (ej_subN 0 (ej_var 1)) aj_nil)) ej_int) (aj_cons (ej_bin oj_mod (ej_bty cj_int T.z_int (aj_cons (ej_subN 0 (ej_var 1)) aj_nil)) ej_int) (aj_cons (ej_bin oj_mod (ej_bty cj_int T.z_int (aj_cons (ej_subN 0 (ej_var 1)) aj_nil)) ej_int) aj_nil)))))))))) (ej_bin oj_mod (ej_bty cj_int T.z_int (aj_cons (ej_subN 0 (ej_bin oj_add (ej_var 1) ej_int)) aj_nil)) ej_int))) (bj_cons (sj_set 4 nd (ej_bin oj_add ej_int (ej_bin oj_mod (ej_bty cj_int T.z_int (aj_cons (ej_subN 0 (ej_bin oj_add (ej_var 1) ej_int)) aj_nil)) ej_int))) (bj_cons (sj_ret (ej_join ej_str (OJ.ej (oj_lc (own := [("k", 5)]) nd (ij_range1 T.z_range (aj_cons (ej_var 3) aj_nil)) (blkQ_by (show blkQ ["row", "at", "pool", "size", "run", "k"] (defScope s__law_word) _ [("k", 5)] = true by decide +kernel)) (fun _ _ _ _ _ => (gcj_name 5 nd)) (fun _ _ _ _ _ => tsj_nil) (fun _ _ _ _ _ => (ej_subN 2 (ej_bin oj_mod (ej_bty cj_int T.z_int (aj_cons (ej_subN 0 (ej_bin oj_add (ej_bin oj_add (ej_var 1) ej_int) (ej_bin oj_fdiv (ej_var 5) (ej_var 4)))) aj_nil)) (ej_lenN 2 T.z_len)))))))) bj_nil)))
theorem fnj__law_edited (T : Tx P K mg ad) : FnJ P w K mg base 1 ad.a__law_edited ad.d__law_edited ["text", "row", "at", "pool"] den__law_edited := by
  refine fnj_ofD T.F__law_edited sc__law_edited fun cdv A outer s H E hr => ?_
  have tk := takes_cx (P := P) (w := w) (K := K) (mg := mg) (base := base) (N := ["text", "row", "at", "pool", "k", "way", "place", "letter"]) (qual := "_law_edited") (sc := defScope s__law_edited) (f := ad.a__law_edited) (cdv := cdv) (A := A) (outer := outer) (s := s) (H := H) (E := E)
  have hp := owns_cx (P := P) (w := w) (K := K) (mg := mg) (base := base) (N := ["text", "row", "at", "pool", "k", "way", "place", "letter"]) (qual := "_law_edited") (sc := defScope s__law_edited) (f := ad.a__law_edited) (cdv := cdv) (A := A) (outer := outer) (s := s) (H := H) (E := E)
  have nd := sc__law_edited.nd
  have hu := hu64 hr
  exact (bj_cons (sj_for hp (ij_range1 T.z_range (aj_cons (ej_bin oj_mod (ej_bty cj_int T.z_int (aj_cons (ej_subN 1 (ej_var 2)) aj_nil)) ej_int) aj_nil)) (gj_name 4 nd) (calm_set 4) (bj_cons (sj_set 5 nd (ej_bin oj_mod (ej_bty cj_int T.z_int (aj_cons (ej_subN 1 (ej_bin oj_add (ej_bin oj_add (ej_var 2) ej_int) (ej_bin oj_mul ej_int (ej_var 4)))) aj_nil)) ej_int)) (bj_cons (sj_set 6 nd (ej_bin oj_mod (ej_bty cj_int T.z_int (aj_cons (ej_subN 1 (ej_bin oj_add (ej_bin oj_add (ej_var 2) ej_int) (ej_bin oj_mul ej_int (ej_var 4)))) aj_nil)) (ej_bin oj_add (ej_lenN 0 T.z_len) ej_int))) (bj_cons (sj_set 7 nd (ej_subN 3 (ej_bin oj_mod (ej_bty cj_int T.z_int (aj_cons (ej_subN 1 (ej_bin oj_add (ej_bin oj_add (ej_var 2) ej_int) (ej_bin oj_mul ej_int (ej_var 4)))) aj_nil)) (ej_lenN 3 T.z_len)))) (bj_cons (sj_if (tj_cmpN 5 (n := false) hu (Or.inl ⟨rfl, rfl⟩) ej_int) (bj_cons (sj_set 0 nd (ej_bin oj_add (ej_bin oj_add (ej_slice (ej_var 0) pj_none (pj_some (ej_var 6))) (ej_var 7)) (ej_slice (ej_var 0) (pj_some (ej_var 6)) pj_none))) bj_nil) bj_nil) (bj_cons (sj_if (tj_cmpN 5 (n := false) hu (Or.inl ⟨rfl, rfl⟩) ej_int) (bj_cons (sj_set 0 nd (ej_bin oj_add (ej_slice (ej_var 0) pj_none (pj_some (ej_var 6))) (ej_slice (ej_var 0) (pj_some (ej_bin oj_add (ej_var 6) ej_int)) pj_none))) bj_nil) bj_nil) (bj_cons (sj_if (tj_cmpN 5 (n := false) hu (Or.inl ⟨rfl, rfl⟩) ej_int) (bj_cons (sj_set 0 nd (ej_bin oj_add (ej_bin oj_add (ej_slice (ej_var 0) pj_none (pj_some (ej_var 6))) (ej_var 7)) (ej_slice (ej_var 0) (pj_some (ej_bin oj_add (ej_var 6) ej_int)) pj_none))) bj_nil) bj_nil) bj_nil))))))) (bj_cons (sj_ret (ej_slice (ej_var 0) pj_none (pj_some ej_int))) bj_nil))
theorem fnj__law_table (T : Tx P K mg ad) : FnJ P w K mg base 1 ad.a__law_table ad.d__law_table ["first", "second"] den__law_table := by
  refine fnj_ofD T.F__law_table sc__law_table fun cdv A outer s H E hr => ?_
  have tk := takes_cx (P := P) (w := w) (K := K) (mg := mg) (base := base) (N := ["first", "second", "above", "i", "below", "k", "cost"]) (qual := "_law_table") (sc := defScope s__law_table) (f := ad.a__law_table) (cdv := cdv) (A := A) (outer := outer) (s := s) (H := H) (E := E)
  have hp := owns_cx (P := P) (w := w) (K := K) (mg := mg) (base := base) (N := ["first", "second", "above", "i", "below", "k", "cost"]) (qual := "_law_table") (sc := defScope s__law_table) (f := ad.a__law_table) (cdv := cdv) (A := A) (outer := outer) (s := s) (H := H) (E := E)
  have nd := sc__law_table.nd
  have hu := hu64 hr
  exact (bj_cons (sj_setLc 2 (own := [("k", 5)]) nd (ij_range1 T.z_range (aj_cons (ej_bin oj_add (ej_lenN 1 T.z_len) ej_int) aj_nil)) (blkQ_by (show blkQ ["first", "second", "above", "i", "below", "k", "cost"] (defScope s__law_table) _ [("k", 5)] = true by decide +kernel)) (fun _ _ _ _ _ => (gcj_name 5 nd)) (fun _ _ _ _ _ => tsj_nil) (fun _ _ _ _ _ => (ej_var 5))) (bj_cons (sj_for hp (ij_range1 T.z_range (aj_cons (ej_lenN 0 T.z_len) aj_nil)) (gj_name 3 nd) (calm_set 3) (bj_cons (sj_setO 4 nd (oj_lst (aj_cons (ej_bin oj_add (ej_var 3) ej_int) aj_nil))) (bj_cons (sj_for hp (ij_range1 T.z_range (aj_cons (ej_lenN 1 T.z_len) aj_nil)) (gj_name 5 nd) (calm_set 5) (bj_cons (sj_set 6 nd (ej_subN 2 (ej_var 5))) (bj_cons (sj_if (tj_cmp (oj_ne hu) (ej_subN 0 (ej_var 3)) (ej_subN 1 (ej_var 5))) (bj_cons (sj_set 6 nd (ej_bin oj_add (ej_var 6) ej_int)) bj_nil) bj_nil) (bj_cons (sj_app 4 (ej_blt cj_min T.z_min (aj_cons (OJ.ej (oj_lst (aj_cons (ej_var 6) (aj_cons (ej_bin oj_add (ej_subN 2 (ej_bin oj_add (ej_var 5) ej_int)) ej_int) (aj_cons (ej_bin oj_add (ej_subN 4 (ej_var 5)) ej_int) aj_nil))))) aj_nil))) bj_nil)))) (bj_cons (sj_set 2 nd (ej_var 4)) bj_nil)))) (bj_cons (sj_ret (ej_subN 2 (ej_lenN 1 T.z_len))) bj_nil)))
theorem fnj__law_bad_place (T : Tx P K mg ad) : FnJ P w K mg base 1 ad.a__law_bad_place ad.d__law_bad_place ["text"] den__law_bad_place := by
  refine fnj_ofD T.F__law_bad_place sc__law_bad_place fun cdv A outer s H E hr => ?_
  have tk := takes_cx (P := P) (w := w) (K := K) (mg := mg) (base := base) (N := ["text", "k"]) (qual := "_law_bad_place") (sc := defScope s__law_bad_place) (f := ad.a__law_bad_place) (cdv := cdv) (A := A) (outer := outer) (s := s) (H := H) (E := E)
  have hp := owns_cx (P := P) (w := w) (K := K) (mg := mg) (base := base) (N := ["text", "k"]) (qual := "_law_bad_place") (sc := defScope s__law_bad_place) (f := ad.a__law_bad_place) (cdv := cdv) (A := A) (outer := outer) (s := s) (H := H) (E := E)
  have nd := sc__law_bad_place.nd
  have hu := hu64 hr
  exact (bj_cons (sj_for hp (ij_range1 T.z_range (aj_cons (ej_lenN 0 T.z_len) aj_nil)) (gj_name 1 nd) (calm_set 1) (bj_cons (sj_if (TWJ.tj (twj_or (tj_cmp oj_ge (ej_var 1) ej_int) (twj_or1 (tj_cmp oj_nin (ej_subN 0 (ej_var 1)) ej_str)))) (bj_cons (sj_ret (ej_var 1)) bj_nil) bj_nil) bj_nil)) (bj_cons (sj_ret (ej_neg ej_int)) bj_nil))
theorem fnj__law_spoilt (T : Tx P K mg ad) : FnJ P w K mg base 1 ad.a__law_spoilt ad.d__law_spoilt ["text", "row", "at"] den__law_spoilt := by
  refine fnj_ofD T.F__law_spoilt sc__law_spoilt fun cdv A outer s H E hr => ?_
  have tk := takes_cx (P := P) (w := w) (K := K) (mg := mg) (base := base) (N := ["text", "row", "at", "bad", "place"]) (qual := "_law_spoilt") (sc := defScope s__law_spoilt) (f := ad.a__law_spoilt) (cdv := cdv) (A := A) (outer := outer) (s := s) (H := H) (E := E)
  have hp := owns_cx (P := P) (w := w) (K := K) (mg := mg) (base := base) (N := ["text", "row", "at", "bad", "place"]) (qual := "_law_spoilt") (sc := defScope s__law_spoilt) (f := ad.a__law_spoilt) (cdv := cdv) (A := A) (outer := outer) (s := s) (H := H) (E := E)
  have nd := sc__law_spoilt.nd
  have hu := hu64 hr
  exact (bj_cons (sj_if (tj_cmp (oj_eq hu) (ej_bin oj_mod (ej_bty cj_int T.z_int (aj_cons (ej_subN 1 (ej_var 2)) aj_nil)) ej_int) ej_int) (bj_cons (sj_ret (ej_slice (ej_bin oj_add (ej_var 0) (ej_bin oj_mul ej_str ej_int)) pj_none (pj_some (ej_bin oj_add ej_int (ej_bin oj_mod (ej_bty cj_int T.z_int (aj_cons (ej_subN 1 (ej_bin oj_add (ej_var 2) ej_int)) aj_nil)) ej_int))))) bj_nil) bj_nil) (bj_cons (sj_set 3 nd ej_str) (bj_cons (sj_set 4 nd (ej_bin oj_mod (ej_bty cj_int T.z_int (aj_cons (ej_subN 1 (ej_bin oj_add (ej_var 2) ej_int)) aj_nil)) (ej_bin oj_add (ej_lenN 0 T.z_len) ej_int))) (bj_cons (sj_ret (ej_bin oj_add (ej_bin oj_add (ej_slice (ej_var 0) pj_none (pj_some (ej_var 4))) (ej_subN 3 (ej_bin oj_mod (ej_bty cj_int T.z_int (aj_cons (ej_subN 1 (ej_bin oj_add (ej_var 2) ej_int)) aj_nil)) (ej_lenN 3 T.z_len)))) (ej_slice (ej_var 0) (pj_some (ej_var 4)) pj_none))) bj_nil))))
theorem fnj_check_text (T : Tx P K mg ad) : FnJ P w K mg base 2 ad.a_check_text ad.d_check_text ["text", "most"] den_check_text := by
  obtain ⟨us_bad_letter_2, hd_bad_letter_2, hb_bad_letter_2⟩ := T.b_bad_letter_2
  refine fnj_ofD T.F_check_text sc_check_text fun cdv A outer s H E hr => ?_
  have tk := takes_cx (P := P) (w := w) (K := K) (mg := mg) (base := base) (N := ["text", "most", "place"]) (qual := "check_text") (sc := defScope s_check_text) (f := ad.a_check_text) (cdv := cdv) (A := A) (outer := outer) (s := s) (H := H) (E := E)
  have hp := owns_cx (P := P) (w := w) (K := K) (mg := mg) (base := base) (N := ["text", "most", "place"]) (qual := "check_text") (sc := defScope s_check_text) (f := ad.a_check_text) (cdv := cdv) (A := A) (outer := outer) (s := s) (H := H) (E := E)
  have nd := sc_check_text.nd
  have hu := hu64 hr
  exact (bj_cons (sj_set 2 nd (ej_call (fnj_bad_letter T) tk (hr.mono (by decide)) T.m_bad_letter T.F_bad_letter.kp hb_bad_letter_2 hd_bad_letter_2 (aj_cons (ej_var 0) (aj_cons (ej_var 1) aj_nil)))) (bj_cons (sj_if (tj_cmp oj_ge (ej_var 2) ej_int) (bj_cons (sj_raise1 rfl tk T.s_BadText T.m_BadText T.n_BadText (hr.mono (by decide) : Room 1 _) (by decide) (aj_cons (ej_var 2) aj_nil)) bj_nil) bj_nil) bj_nil))
theorem fnj__law_due (T : Tx P K mg ad) : FnJ P w K mg base 2 ad.a__law_due ad.d__law_due ["first", "second"] den__law_due := by
  obtain ⟨us__law_bad_place_1, hd__law_bad_place_1, hb__law_bad_place_1⟩ := T.b__law_bad_place_1
  obtain ⟨us__law_table_2, hd__law_table_2, hb__law_table_2⟩ := T.b__law_table_2
  refine fnj_ofD T.F__law_due sc__law_due fun cdv A outer s H E hr => ?_
  have tk := takes_cx (P := P) (w := w) (K := K) (mg := mg) (base := base) (N := ["first", "second", "text"]) (qual := "_law_due") (sc := defScope s__law_due) (f := ad.a__law_due) (cdv := cdv) (A := A) (outer := outer) (s := s) (H := H) (E := E)
  have hp := owns_cx (P := P) (w := w) (K := K) (mg := mg) (base := base) (N := ["first", "second", "text"]) (qual := "_law_due") (sc := defScope s__law_due) (f := ad.a__law_due) (cdv := cdv) (A := A) (outer := outer) (s := s) (H := H) (E := E)
  have nd := sc__law_due.nd
  have hu := hu64 hr
  exact (bj_cons (sj_for hp (ij_seq (OJ.ej (oj_lst (aj_cons (ej_var 0) (aj_cons (ej_var 1) aj_nil))))) (gj_name 2 nd) (calm_set 2) (bj_cons (sj_if (tj_cmp oj_ge (ej_call (fnj__law_bad_place T) tk (hr.mono (by decide)) T.m__law_bad_place T.F__law_bad_place.kp hb__law_bad_place_1 hd__law_bad_place_1 (aj_cons (ej_var 2) aj_nil)) ej_int) (bj_cons (sj_ret (OJ.ej (oj_lst (aj_cons ej_str (aj_cons (ej_call (fnj__law_bad_place T) tk (hr.mono (by decide)) T.m__law_bad_place T.F__law_bad_place.kp hb__law_bad_place_1 hd__law_bad_place_1 (aj_cons (ej_var 2) aj_nil)) aj_nil))))) bj_nil) bj_nil) bj_nil)) (bj_cons (sj_ret (OJ.ej (oj_lst (aj_cons ej_str (aj_cons (ej_call (fnj__law_table T) tk (hr.mono (by decide)) T.m__law_table T.F__law_table.kp hb__law_table_2 hd__law_table_2 (aj_cons (ej_var 0) (aj_cons (ej_var 1) aj_nil))) aj_nil))))) bj_nil))
theorem fnj_text_distance (T : Tx P K mg ad) : FnJ P w K mg base 3 ad.a_text_distance ad.d_text_distance ["first", "second"] den_text_distance := by
  obtain ⟨us_check_text_1, hd_check_text_1, hb_check_text_1⟩ := T.b_check_text_1
  obtain ⟨us_letter_changes_2, hd_letter_changes_2, hb_letter_changes_2⟩ := T.b_letter_changes_2
  refine fnj_ofD T.F_text_distance sc_text_distance fun cdv A outer s H E hr => ?_
  have tk := takes_cx (P := P) (w := w) (K := K) (mg := mg) (base := base) (N := ["first", "second"]) (qual := "text_distance") (sc := defScope s_text_distance) (f := ad.a_text_distance) (cdv := cdv) (A := A) (outer := outer) (s := s) (H := H) (E := E)
  have hp := owns_cx (P := P) (w := w) (K := K) (mg := mg) (base := base) (N := ["first", "second"]) (qual := "text_distance") (sc := defScope s_text_distance) (f := ad.a_text_distance) (cdv := cdv) (A := A) (outer := outer) (s := s) (H := H) (E := E)
  have nd := sc_text_distance.nd
  have hu := hu64 hr
  exact (bj_cons (sj_expr (ej_call (fnj_check_text T) tk (hr.mono (by decide)) T.m_check_text T.F_check_text.kp hb_check_text_1 hd_check_text_1 (aj_cons (ej_var 0) aj_nil))) (bj_cons (sj_expr (ej_call (fnj_check_text T) tk (hr.mono (by decide)) T.m_check_text T.F_check_text.kp hb_check_text_1 hd_check_text_1 (aj_cons (ej_var 1) aj_nil))) (bj_cons (sj_ret (ej_call (fnj_letter_changes T) tk (hr.mono (by decide)) T.m_letter_changes T.F_letter_changes.kp hb_letter_changes_2 hd_letter_changes_2 (aj_cons (ej_var 0) (aj_cons (ej_var 1) aj_nil)))) bj_nil)))
theorem fnj__law_asked (T : Tx P K mg ad) : FnJ P w K mg base 4 ad.a__law_asked ad.d__law_asked ["first", "second"] den__law_asked := by
  obtain ⟨us_text_distance_2, hd_text_distance_2, hb_text_distance_2⟩ := T.b_text_distance_2
  refine fnj_ofD T.F__law_asked sc__law_asked fun cdv A outer s H E hr => ?_
  have tk := takes_cx (P := P) (w := w) (K := K) (mg := mg) (base := base) (N := ["first", "second", "e"]) (qual := "_law_asked") (sc := defScope s__law_asked) (f := ad.a__law_asked) (cdv := cdv) (A := A) (outer := outer) (s := s) (H := H) (E := E)
  have hp := owns_cx (P := P) (w := w) (K := K) (mg := mg) (base := base) (N := ["first", "second", "e"]) (qual := "_law_asked") (sc := defScope s__law_asked) (f := ad.a__law_asked) (cdv := cdv) (A := A) (outer := outer) (s := s) (H := H) (E := E)
  have nd := sc__law_asked.nd
  have hu := hu64 hr
  exact (bj_cons (sj_try (c := .ref ad.c_Fault) (i := 2) tk ⟨rfl, by decide, Or.inl T.m_Fault⟩ T.e_Fault (fun W pn xe tk2 po => (bj_cons (sj_ret (OJ.ej (oj_lst (aj_cons ej_str (aj_cons (ej_call (fnj_text_distance T) tk2 (hr.mono (by decide)) T.m_text_distance T.F_text_distance.kp hb_text_distance_2 hd_text_distance_2 (aj_cons (ej_var 0) (aj_cons (ej_var 1) aj_nil))) aj_nil))))) bj_nil)) (fun a oe cls d pn hz hf => (bj_cons (sj_if (TWJ.tj (twj_and (tj_val (ej_isE 2 T.i_BadText T.z_isinstance hz hf (pe_glob (v := V.ref ad.c_BadText) rfl T.m_BadText rfl) (fun u h => h))) (twj_and (tj_val (ej_isE 2 T.i_ValueError T.z_isinstance hz hf (pe_bltn (v := V.ty "ValueError") rfl T.z_ValueError (by decide +kernel) rfl) (fun u h => h))) (twj_and1 (tj_not (tj_val (ej_isE 2 T.i_TooMany T.z_isinstance hz hf (pe_glob (v := V.ref ad.c_TooMany) rfl T.m_TooMany rfl) (fun u h => h)))))))) (bj_cons (sj_ret (OJ.ej (oj_lst (aj_cons ej_str (aj_cons (ej_xf 2 (T.x_place) hz hf) aj_nil))))) bj_nil) bj_nil) bj_nil)) nd) (bj_cons (sj_ret (OJ.ej (oj_lst (aj_cons ej_str aj_nil)))) bj_nil))
theorem fnj_law (T : Tx P K mg ad) : FnJ P w K mg base 5 ad.a_law ad.d_law ["script"] den_law := by
  obtain ⟨us__law_row_2, hd__law_row_2, hb__law_row_2⟩ := T.b__law_row_2
  obtain ⟨us__law_word_3, hd__law_word_3, hb__law_word_3⟩ := T.b__law_word_3
  obtain ⟨us__law_edited_4, hd__law_edited_4, hb__law_edited_4⟩ := T.b__law_edited_4
  obtain ⟨us__law_table_2, hd__law_table_2, hb__law_table_2⟩ := T.b__law_table_2
  obtain ⟨us__law_asked_2, hd__law_asked_2, hb__law_asked_2⟩ := T.b__law_asked_2
  obtain ⟨us__law_same_2, hd__law_same_2, hb__law_same_2⟩ := T.b__law_same_2
  obtain ⟨us__law_due_2, hd__law_due_2, hb__law_due_2⟩ := T.b__law_due_2
  obtain ⟨us_text_distance_2, hd_text_distance_2, hb_text_distance_2⟩ := T.b_text_distance_2
  obtain ⟨us__law_spoilt_3, hd__law_spoilt_3, hb__law_spoilt_3⟩ := T.b__law_spoilt_3
  refine fnj_ofD T.F_law sc_law fun cdv A outer s H E hr => ?_
  have tk := takes_cx (P := P) (w := w) (K := K) (mg := mg) (base := base) (N := ["script", "row", "letters", "pool", "first", "second", "third", "near", "text", "bad", "worse", "pair"]) (qual := "law") (sc := defScope s_law) (f := ad.a_law) (cdv := cdv) (A := A) (outer := outer) (s := s) (H := H) (E := E)
  have hp := owns_cx (P := P) (w := w) (K := K) (mg := mg) (base := base) (N := ["script", "row", "letters", "pool", "first", "second", "third", "near", "text", "bad", "worse", "pair"]) (qual := "law") (sc := defScope s_law) (f := ad.a_law) (cdv := cdv) (A := A) (outer := outer) (s := s) (H := H) (E := E)
  have nd := sc_law.nd
  have hu := hu64 hr
  exact (bj_cons (sj_set 1 nd (ej_call (fnj__law_row T) tk (hr.mono (by decide)) T.m__law_row T.F__law_row.kp hb__law_row_2 hd__law_row_2 (aj_cons (ej_var 0) (aj_cons ej_int aj_nil)))) (bj_cons (sj_set 2 nd ej_str) (bj_cons (sj_set 3 nd (ej_bin oj_add (ej_bin oj_add (ej_subN 2 (ej_bin oj_mod (ej_bty cj_int T.z_int (aj_cons (ej_subN 1 ej_int) aj_nil)) ej_int)) (ej_subN 2 (ej_bin oj_mod (ej_bty cj_int T.z_int (aj_cons (ej_subN 1 ej_int) aj_nil)) ej_int))) (ej_subN 2 (ej_bin oj_mod (ej_bty cj_int T.z_int (aj_cons (ej_subN 1 ej_int) aj_nil)) ej_int)))) (bj_cons (sj_set 3 nd (ej_slice (ej_var 3) pj_none (pj_some (ej_bin oj_add ej_int (ej_bin oj_mod (ej_bty cj_int T.z_int (aj_cons (ej_subN 1 ej_int) aj_nil)) ej_int))))) (bj_cons (sj_set 4 nd (ej_call (fnj__law_word T) tk (hr.mono (by decide)) T.m__law_word T.F__law_word.kp hb__law_word_3 hd__law_word_3 (aj_cons (ej_var 1) (aj_cons ej_int (aj_cons (ej_var 3) aj_nil))))) (bj_cons (sj_set 5 nd (ej_call (fnj__law_edited T) tk (hr.mono (by decide)) T.m__law_edited T.F__law_edited.kp hb__law_edited_4 hd__law_edited_4 (aj_cons (ej_var 4) (aj_cons (ej_var 1) (aj_cons ej_int (aj_cons (ej_var 3) aj_nil)))))) (bj_cons (sj_if (tj_cmp (oj_eq hu) (ej_bin oj_mod (ej_bty cj_int T.z_int (aj_cons (ej_subN 1 ej_int) aj_nil)) ej_int) ej_int) (bj_cons (sj_set 5 nd (ej_call (fnj__law_word T) tk (hr.mono (by decide)) T.m__law_word T.F__law_word.kp hb__law_word_3 hd__law_word_3 (aj_cons (ej_var 1) (aj_cons ej_int (aj_cons (ej_var 3) aj_nil))))) bj_nil) bj_nil) (bj_cons (sj_set 6 nd (ej_call (fnj__law_word T) tk (hr.mono (by decide)) T.m__law_word T.F__law_word.kp hb__law_word_3 hd__law_word_3 (aj_cons (ej_var 1) (aj_cons ej_int (aj_cons (ej_var 3) aj_nil))))) (bj_cons (sj_set 7 nd (ej_call (fnj__law_table T) tk (hr.mono (by decide)) T.m__law_table T.F__law_table.kp hb__law_table_2 hd__law_table_2 (aj_cons (ej_var 4) (aj_cons (ej_var 5) aj_nil)))) (bj_cons (sj_if (TWJ.tj (twj_or (tj_not (tj_val (ej_call (fnj__law_same T) tk (hr.mono (by decide)) T.m__law_same T.F__law_same.kp hb__law_same_2 hd__law_same_2 (aj_cons (ej_call (fnj__law_asked T) tk (hr.mono (by decide)) T.m__law_asked T.F__law_asked.kp hb__law_asked_2 hd__law_asked_2 (aj_cons (ej_var 4) (aj_cons (ej_var 5) aj_nil))) (aj_cons (OJ.ej (oj_lst (aj_cons ej_str (aj_cons (ej_var 7) aj_nil)))) aj_nil))))) (twj_or1 (tj_not (tj_val (ej_call (fnj__law_same T) tk (hr.mono (by decide)) T.m__law_same T.F__law_same.kp hb__law_same_2 hd__law_same_2 (aj_cons (ej_call (fnj__law_asked T) tk (hr.mono (by decide)) T.m__law_asked T.F__law_asked.kp hb__law_asked_2 hd__law_asked_2 (aj_cons (ej_var 5) (aj_cons (ej_var 4) aj_nil))) (aj_cons (OJ.ej (oj_lst (aj_cons ej_str (aj_cons (ej_var 7) aj_nil)))) aj_nil)))))))) (bj_cons (sj_ret ej_bl) bj_nil) bj_nil) (bj_cons (sj_if (TWJ.tj (twj_or (tj_cmp (oj_ne hu) (ej_cmpN 7 (n := false) hu (Or.inl ⟨rfl, rfl⟩) ej_int) (ej_cmpN 4 (n := false) hu (Or.inl ⟨rfl, rfl⟩) (ej_var 5))) (twj_or1 (tj_not (tj_val (ej_call (fnj__law_same T) tk (hr.mono (by decide)) T.m__law_same T.F__law_same.kp hb__law_same_2 hd__law_same_2 (aj_cons (ej_call (fnj__law_asked T) tk (hr.mono (by decide)) T.m__law_asked T.F__law_asked.kp hb__law_asked_2 hd__law_asked_2 (aj_cons (ej_var 4) (aj_cons (ej_var 4) aj_nil))) (aj_cons (OJ.ej (oj_lst (aj_cons ej_str (aj_cons ej_int aj_nil)))) aj_nil)))))))) (bj_cons (sj_ret ej_bl) bj_nil) bj_nil) (bj_cons (sj_for hp (ij_seq (OJ.ej (oj_lst (aj_cons (ej_var 4) (aj_cons (ej_var 5) aj_nil))))) (gj_name 8 nd) (calm_set 8) (bj_cons (sj_if (tj_not (tj_val (ej_call (fnj__law_same T) tk (hr.mono (by decide)) T.m__law_same T.F__law_same.kp hb__law_same_2 hd__law_same_2 (aj_cons (ej_call (fnj__law_asked T) tk (hr.mono (by decide)) T.m__law_asked T.F__law_asked.kp hb__law_asked_2 hd__law_asked_2 (aj_cons (ej_var 8) (aj_cons (ej_var 6) aj_nil))) (aj_cons (ej_call (fnj__law_due T) tk (hr.mono (by decide)) T.m__law_due T.F__law_due.kp hb__law_due_2 hd__law_due_2 (aj_cons (ej_var 8) (aj_cons (ej_var 6) aj_nil))) aj_nil))))) (bj_cons (sj_ret ej_bl) bj_nil) bj_nil) bj_nil)) (bj_cons (sj_if (tj_cmp oj_gt (ej_call (fnj_text_distance T) tk (hr.mono (by decide)) T.m_text_distance T.F_text_distance.kp hb_text_distance_2 hd_text_distance_2 (aj_cons (ej_var 4) (aj_cons (ej_var 6) aj_nil))) (ej_bin oj_add (ej_var 7) (ej_call (fnj_text_distance T) tk (hr.mono (by decide)) T.m_text_distance T.F_text_distance.kp hb_text_distance_2 hd_text_distance_2 (aj_cons (ej_var 6) (aj_cons (ej_var 5) aj_nil))))) (bj_cons (sj_ret ej_bl) bj_nil) bj_nil) (bj_cons (sj_set 9 nd (ej_call (fnj__law_spoilt T) tk (hr.mono (by decide)) T.m__law_spoilt T.F__law_spoilt.kp hb__law_spoilt_3 hd__law_spoilt_3 (aj_cons (ej_var 4) (aj_cons (ej_var 1) (aj_cons ej_int aj_nil))))) (bj_cons (sj_set 10 nd (ej_call (fnj__law_spoilt T) tk (hr.mono (by decide)) T.m__law_spoilt T.F__law_spoilt.kp hb__law_spoilt_3 hd__law_spoilt_3 (aj_cons (ej_var 6) (aj_cons (ej_var 1) (aj_cons ej_int aj_nil))))) (bj_cons (sj_for hp (ij_seq (OJ.ej (oj_lst (aj_cons (ej_tup (aj_cons (ej_var 9) (aj_cons (ej_var 5) aj_nil))) (aj_cons (ej_tup (aj_cons (ej_var 5) (aj_cons (ej_var 9) aj_nil))) (aj_cons (ej_tup (aj_cons (ej_var 9) (aj_cons (ej_var 10) aj_nil))) (aj_cons (ej_tup (aj_cons (ej_var 10) (aj_cons (ej_var 9) aj_nil))) aj_nil))))))) (gj_name 11 nd) (calm_set 11) (bj_cons (sj_if (tj_not (tj_val (ej_call (fnj__law_same T) tk (hr.mono (by decide)) T.m__law_same T.F__law_same.kp hb__law_same_2 hd__law_same_2 (aj_cons (ej_call (fnj__law_asked T) tk (hr.mono (by decide)) T.m__law_asked T.F__law_asked.kp hb__law_asked_2 hd__law_asked_2 (aj_cons (ej_subN 11 ej_int) (aj_cons (ej_subN 11 ej_int) aj_nil))) (aj_cons (ej_call (fnj__law_due T) tk (hr.mono (by decide)) T.m__law_due T.F__law_due.kp hb__law_due_2 hd__law_due_2 (aj_cons (ej_subN 11 ej_int) (aj_cons (ej_subN 11 ej_int) aj_nil))) aj_nil))))) (bj_cons (sj_ret ej_bl) bj_nil) bj_nil) bj_nil)) (bj_cons (sj_ret ej_bl) bj_nil)))))))))))))))))
end
section
theorem all_mk {P : Program} {w : World} {K : PySem.W.Frag} {h : Heap} {mg : Str → Option Value} {fa : Addr} (X : K.In h) (G : h.Ns mainGlobals mg) (hfa : mg "law" = some (.ref fa))
    {tk_LETTERS : Tok} {a_bad_letter : Addr} {od_bad_letter an_bad_letter : Option Addr} {sl_bad_letter : Array (Option Value)} {oc_bad_letter kV_bad_letter dc_bad_letter pm_bad_letter cd_bad_letter ct_bad_letter : Value} {a_check_text : Addr} {od_check_text an_check_text : Option Addr} {sl_check_text : Array (Option Value)} {oc_check_text kV_check_text dc_check_text pm_check_text cd_check_text ct_check_text : Value} {dT_check_text : Addr} {toc_check_text : Value} {tod_check_text : Option Addr} {ttk_check_text : Tok} {tn_check_text : Nat} {tsl_check_text : Array (Option Value)} {a_letter_changes : Addr} {od_letter_changes an_letter_changes : Option Addr} {sl_letter_changes : Array (Option Value)} {oc_letter_changes kV_letter_changes dc_letter_changes pm_letter_changes cd_letter_changes ct_letter_changes : Value} {a_text_distance : Addr} {od_text_distance an_text_distance : Option Addr} {sl_text_distance : Array (Option Value)} {oc_text_distance kV_text_distance dc_text_distance pm_text_distance cd_text_distance ct_text_distance : Value} {a__law_row : Addr} {od__law_row an__law_row : Option Addr} {sl__law_row : Array (Option Value)} {oc__law_row kV__law_row dc__law_row pm__law_row cd__law_row ct__law_row : Value} {a__law_same : Addr} {od__law_same an__law_same : Option Addr} {sl__law_same : Array (Option Value)} {oc__law_same kV__law_same dc__law_same pm__law_same cd__law_same ct__law_same : Value} {a__law_word : Addr} {od__law_word an__law_word : Option Addr} {sl__law_word : Array (Option Value)} {oc__law_word kV__law_word dc__law_word pm__law_word cd__law_word ct__law_word : Value} {a__law_edited : Addr} {od__law_edited an__law_edited : Option Addr} {sl__law_edited : Array (Option Value)} {oc__law_edited kV__law_edited dc__law_edited pm__law_edited cd__law_edited ct__law_edited : Value} {a__law_table : Addr} {od__law_table an__law_table : Option Addr} {sl__law_table : Array (Option Value)} {oc__law_table kV__law_table dc__law_table pm__law_table cd__law_table ct__law_table : Value} {a__law_asked : Addr} {od__law_asked an__law_asked : Option Addr} {sl__law_asked : Array (Option Value)} {oc__law_asked kV__law_asked dc__law_asked pm__law_asked cd__law_asked ct__law_asked : Value} {a__law_bad_place : Addr} {od__law_bad_place an__law_bad_place : Option Addr} {sl__law_bad_place : Array (Option Value)} {oc__law_bad_place kV__law_bad_place dc__law_bad_place pm__law_bad_place cd__law_bad_place ct__law_bad_place : Value} {a__law_due : Addr} {od__law_due an__law_due : Option Addr} {sl__law_due : Array (Option Value)} {oc__law_due kV__law_due dc__law_due pm__law_due cd__law_due ct__law_due : Value} {a__law_spoilt : Addr} {od__law_spoilt an__law_spoilt : Option Addr} {sl__law_spoilt : Array (Option Value)} {oc__law_spoilt kV__law_spoilt dc__law_spoilt pm__law_spoilt cd__law_spoilt ct__law_spoilt : Value} {a_law : Addr} {od_law an_law : Option Addr} {sl_law : Array (Option Value)} {oc_law kV_law dc_law pm_law cd_law ct_law : Value} {c_Fault : Addr} {c_BadText : Addr} {c_TooMany : Addr} {nm_BadText q_BadText : Str} {N_BadText : Addr} {bs_BadText sb_BadText : List Value} {sn_BadText : List Str} {ab_BadText : Bool} {co_BadText : Option Bool} {dd_BadText : Option Addr} {k0_BadText k1_BadText k2_BadText k3_BadText k5_BadText : Option Value} {i_BadText : Addr} {ioc_BadText idc_BadText ipm_BadText ict_BadText : Value} {iod_BadText ian_BadText : Option Addr} {isl_BadText : Array (Option Value)} {iq_BadText : Str} {ida_BadText icc_BadText : Addr} {ij_BadText : Nat} {p0_BadText p1_BadText p2_BadText p3_BadText p4_BadText p5_BadText p6_BadText p7_BadText p8_BadText p9_BadText p10_BadText p11_BadText : Pos} {lc_BadText : Value} {ld_BadText : Option Addr} {ls_BadText : Array (Option Value)} {mc_BadText : Value} {md_BadText : Option Addr} {mv_BadText : Array Value} {ms_BadText : Array (Option Value)} {mf_BadText : Str} {mt_BadText : Tok}
    (hz_ValueError : PySem.W.nsIn K mainGlobals "ValueError" = some none)
    (hz_bool : PySem.W.nsIn K mainGlobals "bool" = some none)
    (hz_enumerate : PySem.W.nsIn K mainGlobals "enumerate" = some none)
    (hz_int : PySem.W.nsIn K mainGlobals "int" = some none)
    (hz_isinstance : PySem.W.nsIn K mainGlobals "isinstance" = some none)
    (hz_len : PySem.W.nsIn K mainGlobals "len" = some none)
    (hz_list : PySem.W.nsIn K mainGlobals "list" = some none)
    (hz_min : PySem.W.nsIn K mainGlobals "min" = some none)
    (hz_range : PySem.W.nsIn K mainGlobals "range" = some none)
    (hz_str : PySem.W.nsIn K mainGlobals "str" = some none)
    (hz_tuple : PySem.W.nsIn K mainGlobals "tuple" = some none)
    (hg_LETTERS : PySem.W.nsIn K mainGlobals "LETTERS" = some (some (.str "abcdefghijklmnopqrstuvwxyz" tk_LETTERS)))
    (hm_bad_letter : PySem.W.nsIn K mainGlobals "bad_letter" = some (some (.ref a_bad_letter)))
    (hl_bad_letter : K.lookup a_bad_letter = some ⟨oc_bad_letter, od_bad_letter, .func (PySem.W.fnOf "bad_letter" "bad_letter" (defArgs s_bad_letter) (defBody s_bad_letter) (defScope s_bad_letter) .none kV_bad_letter dc_bad_letter pm_bad_letter an_bad_letter cd_bad_letter ct_bad_letter), sl_bad_letter⟩)
    (hc_bad_letter : PySem.W.codeIn K cd_bad_letter "bad_letter" = true)
    (hk_bad_letter : PySem.W.keepIn K (.ref a_bad_letter) = true)
    (hm_check_text : PySem.W.nsIn K mainGlobals "check_text" = some (some (.ref a_check_text)))
    (hl_check_text : K.lookup a_check_text = some ⟨oc_check_text, od_check_text, .func (PySem.W.fnOf "check_text" "check_text" (defArgs s_check_text) (defBody s_check_text) (defScope s_check_text) (.ref dT_check_text) kV_check_text dc_check_text pm_check_text an_check_text cd_check_text ct_check_text), sl_check_text⟩)
    (hc_check_text : PySem.W.codeIn K cd_check_text "check_text" = true)
    (hk_check_text : PySem.W.keepIn K (.ref a_check_text) = true)
    (hd_check_text : K.lookup dT_check_text = some ⟨toc_check_text, tod_check_text, .seq [Value.int 60 ttk_check_text].toArray tn_check_text, tsl_check_text⟩)
    (hm_letter_changes : PySem.W.nsIn K mainGlobals "letter_changes" = some (some (.ref a_letter_changes)))
    (hl_letter_changes : K.lookup a_letter_changes = some ⟨oc_letter_changes, od_letter_changes, .func (PySem.W.fnOf "letter_changes" "letter_changes" (defArgs s_letter_changes) (defBody s_letter_changes) (defScope s_letter_changes) .none kV_letter_changes dc_letter_changes pm_letter_changes an_letter_changes cd_letter_changes ct_letter_changes), sl_letter_changes⟩)
    (hc_letter_changes : PySem.W.codeIn K cd_letter_changes "letter_changes" = true)
    (hk_letter_changes : PySem.W.keepIn K (.ref a_letter_changes) = true)
    (hm_text_distance : PySem.W.nsIn K mainGlobals "text_distance" = some (some (.ref a_text_distance)))
    (hl_text_distance : K.lookup a_text_distance = some ⟨oc_text_distance, od_text_distance, .func (PySem.W.fnOf "text_distance" "text_distance" (defArgs s_text_distance) (defBody s_text_distance) (defScope s_text_distance) .none kV_text_distance dc_text_distance pm_text_distance an_text_distance cd_text_distance ct_text_distance), sl_text_distance⟩)
    (hc_text_distance : PySem.W.codeIn K cd_text_distance "text_distance" = true)
    (hk_text_distance : PySem.W.keepIn K (.ref a_text_distance) = true)
    (hm__law_row : PySem.W.nsIn K mainGlobals "_law_row" = some (some (.ref a__law_row)))
    (hl__law_row : K.lookup a__law_row = some ⟨oc__law_row, od__law_row, .func (PySem.W.fnOf "_law_row" "_law_row" (defArgs s__law_row) (defBody s__law_row) (defScope s__law_row) .none kV__law_row dc__law_row pm__law_row an__law_row cd__law_row ct__law_row), sl__law_row⟩)
    (hc__law_row : PySem.W.codeIn K cd__law_row "_law_row" = true)
    (hk__law_row : PySem.W.keepIn K (.ref a__law_row) = true)
    (hm__law_same : PySem.W.nsIn K mainGlobals "_law_same" = some (some (.ref a__law_same)))
    (hl__law_same : K.lookup a__law_same = some ⟨oc__law_same, od__law_same, .func (PySem.W.fnOf "_law_same" "_law_same" (defArgs s__law_same) (defBody s__law_same) (defScope s__law_same) .none kV__law_same dc__law_same pm__law_same an__law_same cd__law_same ct__law_same), sl__law_same⟩)
    (hc__law_same : PySem.W.codeIn K cd__law_same "_law_same" = true)
    (hk__law_same : PySem.W.keepIn K (.ref a__law_same) = true)
    (hm__law_word : PySem.W.nsIn K mainGlobals "_law_word" = some (some (.ref a__law_word)))
    (hl__law_word : K.lookup a__law_word = some ⟨oc__law_word, od__law_word, .func (PySem.W.fnOf "_law_word" "_law_word" (defArgs s__law_word) (defBody s__law_word) (defScope s__law_word) .none kV__law_word dc__law_word pm__law_word an__law_word cd__law_word ct__law_word), sl__law_word⟩)
    (hc__law_word : PySem.W.codeIn K cd__law_word "_law_word" = true)
    (hk__law_word : PySem.W.keepIn K (.ref a__law_word) = true)
    (hm__law_edited : PySem.W.nsIn K mainGlobals "_law_edited" = some (some (.ref a__law_edited)))
    (hl__law_edited : K.lookup a__law_edited = some ⟨oc__law_edited, od__law_edited, .func (PySem.W.fnOf "_law_edited" "_law_edited" (defArgs s__law_edited) (defBody s__law_edited) (defScope s__law_edited) .none kV__law_edited dc__law_edited pm__law_edited an__law_edited cd__law_edited ct__law_edited), sl__law_edited⟩)
    (hc__law_edited : PySem.W.codeIn K cd__law_edited "_law_edited" = true)
    (hk__law_edited : PySem.W.keepIn K (.ref a__law_edited) = true)
    (hm__law_table : PySem.W.nsIn K mainGlobals "_law_table" = some (some (.ref a__law_table)))
    (hl__law_table : K.lookup a__law_table = some ⟨oc__law_table, od__law_table, .func (PySem.W.fnOf "_law_table" "_law_table" (defArgs s__law_table) (defBody s__law_table) (defScope s__law_table) .none kV__law_table dc__law_table pm__law_table an__law_table cd__law_table ct__law_table), sl__law_table⟩)
    (hc__law_table : PySem.W.codeIn K cd__law_table "_law_table" = true)
    (hk__law_table : PySem.W.keepIn K (.ref a__law_table) = true)
    (hm__law_asked : PySem.W.nsIn K mainGlobals "_law_asked" = some (some (.ref a__law_asked)))
    (hl__law_asked : K.lookup a__law_asked = some ⟨oc__law_asked, od__law_asked, .func (PySem.W.fnOf "_law_asked" "_law_asked" (defArgs s__law_asked) (defBody s__law_asked) (defScope s__law_asked) .none kV__law_asked dc__law_asked pm__law_asked an__law_asked cd__law_asked ct__law_asked), sl__law_asked⟩)
    (hc__law_asked : PySem.W.codeIn K cd__law_asked "_law_asked" = true)
    (hk__law_asked : PySem.W.keepIn K (.ref a__law_asked) = true)
    (hm__law_bad_place : PySem.W.nsIn K mainGlobals "_law_bad_place" = some (some (.ref a__law_bad_place)))
    (hl__law_bad_place : K.lookup a__law_bad_place = some ⟨oc__law_bad_place, od__law_bad_place, .func (PySem.W.fnOf "_law_bad_place" "_law_bad_place" (defArgs s__law_bad_place) (defBody s__law_bad_place) (defScope s__law_bad_place) .none kV__law_bad_place dc__law_bad_place pm__law_bad_place an__law_bad_place cd__law_bad_place ct__law_bad_place), sl__law_bad_place⟩)
    (hc__law_bad_place : PySem.W.codeIn K cd__law_bad_place "_law_bad_place" = true)
    (hk__law_bad_place : PySem.W.keepIn K (.ref a__law_bad_place) = true)
    (hm__law_due : PySem.W.nsIn K mainGlobals "_law_due" = some (some (.ref a__law_due)))
    (hl__law_due : K.lookup a__law_due = some ⟨oc__law_due, od__law_due, .func (PySem.W.fnOf "_law_due" "_law_due" (defArgs s__law_due) (defBody s__law_due) (defScope s__law_due) .none kV__law_due dc__law_due pm__law_due an__law_due cd__law_due ct__law_due), sl__law_due⟩)
    (hc__law_due : PySem.W.codeIn K cd__law_due "_law_due" = true)
    (hk__law_due : PySem.W.keepIn K (.ref a__law_due) = true)
    (hm__law_spoilt : PySem.W.nsIn K mainGlobals "_law_spoilt" = some (some (.ref a__law_spoilt)))
    (hl__law_spoilt : K.lookup a__law_spoilt = some ⟨oc__law_spoilt, od__law_spoilt, .func (PySem.W.fnOf "_law_spoilt" "_law_spoilt" (defArgs s__law_spoilt) (defBody s__law_spoilt) (defScope s__law_spoilt) .none kV__law_spoilt dc__law_spoilt pm__law_spoilt an__law_spoilt cd__law_spoilt ct__law_spoilt), sl__law_spoilt⟩)
    (hc__law_spoilt : PySem.W.codeIn K cd__law_spoilt "_law_spoilt" = true)
    (hk__law_spoilt : PySem.W.keepIn K (.ref a__law_spoilt) = true)
    (hm_law : PySem.W.nsIn K mainGlobals "law" = some (some (.ref a_law)))
    (hl_law : K.lookup a_law = some ⟨oc_law, od_law, .func (PySem.W.fnOf "law" "law" (defArgs s_law) (defBody s_law) (defScope s_law) .none kV_law dc_law pm_law an_law cd_law ct_law), sl_law⟩)
    (hc_law : PySem.W.codeIn K cd_law "law" = true)
    (hk_law : PySem.W.keepIn K (.ref a_law) = true)
    (hm_Fault : PySem.W.nsIn K mainGlobals "Fault" = some (some (.ref c_Fault)))
    (hm_BadText : PySem.W.nsIn K mainGlobals "BadText" = some (some (.ref c_BadText)))
    (hm_TooMany : PySem.W.nsIn K mainGlobals "TooMany" = some (some (.ref c_TooMany)))
    (h_any : PySem.W.nsIn K cStatics "thirdparty.any" = some none)
    (h_sup : PySem.W.nsIn K mainGlobals "super" = some none)
    (h_top : (P.main.scope.names.lookup ("super" : Str)).isSome = false)
    (xl_BadText : K.lookup c_BadText = some (excClassObj nm_BadText q_BadText c_BadText N_BadText bs_BadText [.ref c_Fault, .type "ValueError", .type "Exception", .type "BaseException", .type "object"] true sn_BadText sb_BadText ab_BadText co_BadText dd_BadText k0_BadText k1_BadText k2_BadText k3_BadText k5_BadText "ValueError.__new__"))
    (sa_BadText : PySem.W.findIn K (.ref c_BadText) "__setattr__" = some (some (.builtin "object.__setattr__")))
    (nf_BadText : PySem.W.findIn K (.ref c_BadText) "place" = some none)
    (ic_BadText : PySem.W.findIn K (.ref c_BadText) "__init__" = some (some (.ref i_BadText)))
    (ti_BadText : PySem.W.typeIn K (.ref i_BadText) = some (.type "function"))
    (kc_BadText : PySem.W.keepIn K (.ref c_BadText) = true)
    (xc_BadText : PySem.W.subIn K (.ref c_BadText) (.type "BaseException") = some true)
    (ve_BadText : PySem.W.subIn K (.ref c_BadText) (.type "ValueError") = some true)
    (ty_BadText : PySem.W.typeIn K (.ref c_BadText) = some (.type "type"))
    (up_BadText : PySem.W.ks_superIn K c_BadText c_BadText "__init__" = some (some (.builtin "ValueError.__init__")))
    (mr_BadText : PySem.W.mroIn K c_BadText (.ref c_BadText) = some true)
    (hf_BadText : K.lookup i_BadText = some ⟨ioc_BadText, iod_BadText, .func (PySem.W.ksFn "__init__" iq_BadText (PySem.PDX.iA "place" p0_BadText p1_BadText) (PySem.PDX.iB "invalid text" "place" ij_BadText p2_BadText p3_BadText p4_BadText p5_BadText p6_BadText p7_BadText p8_BadText p9_BadText p10_BadText p11_BadText) (PySem.PDX.iS "place") .none .none idc_BadText ipm_BadText ian_BadText (.ref ida_BadText) ict_BadText icc_BadText), isl_BadText⟩)
    (hq_BadText : PySem.W.codeIn K (.ref ida_BadText) iq_BadText = true)
    (hcell_BadText : K.lookup icc_BadText = some ⟨lc_BadText, ld_BadText, .cell (some (.ref c_BadText)), ls_BadText⟩)
    (hcode_BadText : K.lookup ida_BadText = some ⟨mc_BadText, md_BadText, .fields mv_BadText, ms_BadText⟩)
    (hvs_BadText : mv_BadText[2]? = some (.str mf_BadText mt_BadText))
    (hfile_BadText : ((P.main.file : Str) == mf_BadText) = true)
    (hev_BadText : ∀ env, ∃ pl, eval (.Call (.Attribute (.Call (.Name "super" p2_BadText) [] [] p3_BadText) "__init__" p4_BadText) [.Constant (.str "invalid text") ij_BadText p5_BadText] [] p6_BadText) env = (do
      let ov ← attributeBase (.Call (.Name "super" p2_BadText) [] [] p3_BadText) "__init__" env (eval (.Call (.Name "super" p2_BadText) [] [] p3_BadText) env)
      standAt p4_BadText.atName
      let (f, first) ← holding [ov] (getMethod ov "__init__" pl)
      callWith p6_BadText f first (backTo p6_BadText (starEach [.Constant (.str "invalid text") ij_BadText p5_BadText] env)) []))
    (te_Fault : PySem.W.subIn K (.ref c_Fault) (.type "BaseException") = some true)
    (td_Fault : PySem.W.hasDictIn K c_Fault = true)
    (tt_Fault : PySem.W.typeIn K (.ref c_Fault) = some (.type "type"))
    (ts_Fault_BadText : PySem.W.subIn K (.ref c_BadText) (.ref c_Fault) = some true)
    (ki_BadText_BadText : PySem.W.kitOne K (.ref c_BadText) (.ref c_BadText) = some true)
    (ki_TooMany_BadText : PySem.W.kitOne K (.ref c_BadText) (.ref c_TooMany) = some false)
    (ki_ValueError_BadText : PySem.W.kitOne K (.ref c_BadText) (.type "ValueError") = some true)
    (xg_BadText : PySem.W.findIn K (.ref c_BadText) "__getattribute__" = some (some (.builtin "BaseException.__getattribute__")))
    (xk_BadText : PySem.W.findIn K (.ref c_BadText) "__getattr__" = some none)
    (xd_BadText : PySem.W.hasDictIn K c_BadText = true)
    (xa_BadText : PySem.W.findIn K (.ref c_BadText) "__class__" = some (some (.builtin "object.__class__")))
    (xo_BadText : PySem.W.mroIn K c_BadText (.type "object") = some true)
    (h_get : PySem.W.specialIn K (.builtin "object.__class__") "__get__" = some (some (.builtin "getset_descriptor.__get__")))
    (h_tak : PySem.W.takesIn K (.builtin "object.__class__") = some true) :
    ∃ fd : FuncData, (∀ (s : Shared) (u : Value), BindsTo s fd ⟨[u], []⟩ [("script", u)]) ∧ ∀ base : Heap, K.In base → base.Ns mainGlobals mg → FnOk P w K mg base (L2.CX P w) 5 fa fd ["script"] (spD K 1 den_law) := by
  have e : a_law = fa := Value.ref.inj (Option.some.inj ((PySem.W.mg_of X G hm_law).symm.trans hfa))
  subst e
  have F_bad_letter : FunD K "bad_letter" "bad_letter" (defArgs s_bad_letter) (defBody s_bad_letter) (defScope s_bad_letter) [] [] a_bad_letter _ := ⟨⟨_, _, _, _, _, _, _, _, _, _, rfl, hl_bad_letter, hc_bad_letter, dfl_none, .inl rfl⟩, hk_bad_letter⟩
  have F_check_text : FunD K "check_text" "check_text" (defArgs s_check_text) (defBody s_check_text) (defScope s_check_text) [(.int 60)] [] a_check_text _ := ⟨⟨_, _, _, _, _, _, _, _, _, _, rfl, hl_check_text, hc_check_text, (dfl_int hd_check_text), .inl rfl⟩, hk_check_text⟩
  have F_letter_changes : FunD K "letter_changes" "letter_changes" (defArgs s_letter_changes) (defBody s_letter_changes) (defScope s_letter_changes) [] [] a_letter_changes _ := ⟨⟨_, _, _, _, _, _, _, _, _, _, rfl, hl_letter_changes, hc_letter_changes, dfl_none, .inl rfl⟩, hk_letter_changes⟩
  have F_text_distance : FunD K "text_distance" "text_distance" (defArgs s_text_distance) (defBody s_text_distance) (defScope s_text_distance) [] [] a_text_distance _ := ⟨⟨_, _, _, _, _, _, _, _, _, _, rfl, hl_text_distance, hc_text_distance, dfl_none, .inl rfl⟩, hk_text_distance⟩
  have F__law_row : FunD K "_law_row" "_law_row" (defArgs s__law_row) (defBody s__law_row) (defScope s__law_row) [] [] a__law_row _ := ⟨⟨_, _, _, _, _, _, _, _, _, _, rfl, hl__law_row, hc__law_row, dfl_none, .inl rfl⟩, hk__law_row⟩
  have F__law_same : FunD K "_law_same" "_law_same" (defArgs s__law_same) (defBody s__law_same) (defScope s__law_same) [] [] a__law_same _ := ⟨⟨_, _, _, _, _, _, _, _, _, _, rfl, hl__law_same, hc__law_same, dfl_none, .inl rfl⟩, hk__law_same⟩
  have F__law_word : FunD K "_law_word" "_law_word" (defArgs s__law_word) (defBody s__law_word) (defScope s__law_word) [] [] a__law_word _ := ⟨⟨_, _, _, _, _, _, _, _, _, _, rfl, hl__law_word, hc__law_word, dfl_none, .inl rfl⟩, hk__law_word⟩
  have F__law_edited : FunD K "_law_edited" "_law_edited" (defArgs s__law_edited) (defBody s__law_edited) (defScope s__law_edited) [] [] a__law_edited _ := ⟨⟨_, _, _, _, _, _, _, _, _, _, rfl, hl__law_edited, hc__law_edited, dfl_none, .inl rfl⟩, hk__law_edited⟩
  have F__law_table : FunD K "_law_table" "_law_table" (defArgs s__law_table) (defBody s__law_table) (defScope s__law_table) [] [] a__law_table _ := ⟨⟨_, _, _, _, _, _, _, _, _, _, rfl, hl__law_table, hc__law_table, dfl_none, .inl rfl⟩, hk__law_table⟩
  have F__law_asked : FunD K "_law_asked" "_law_asked" (defArgs s__law_asked) (defBody s__law_asked) (defScope s__law_asked) [] [] a__law_asked _ := ⟨⟨_, _, _, _, _, _, _, _, _, _, rfl, hl__law_asked, hc__law_asked, dfl_none, .inl rfl⟩, hk__law_asked⟩
  have F__law_bad_place : FunD K "_law_bad_place" "_law_bad_place" (defArgs s__law_bad_place) (defBody s__law_bad_place) (defScope s__law_bad_place) [] [] a__law_bad_place _ := ⟨⟨_, _, _, _, _, _, _, _, _, _, rfl, hl__law_bad_place, hc__law_bad_place, dfl_none, .inl rfl⟩, hk__law_bad_place⟩
  have F__law_due : FunD K "_law_due" "_law_due" (defArgs s__law_due) (defBody s__law_due) (defScope s__law_due) [] [] a__law_due _ := ⟨⟨_, _, _, _, _, _, _, _, _, _, rfl, hl__law_due, hc__law_due, dfl_none, .inl rfl⟩, hk__law_due⟩
  have F__law_spoilt : FunD K "_law_spoilt" "_law_spoilt" (defArgs s__law_spoilt) (defBody s__law_spoilt) (defScope s__law_spoilt) [] [] a__law_spoilt _ := ⟨⟨_, _, _, _, _, _, _, _, _, _, rfl, hl__law_spoilt, hc__law_spoilt, dfl_none, .inl rfl⟩, hk__law_spoilt⟩
  have F_law : FunD K "law" "law" (defArgs s_law) (defBody s_law) (defScope s_law) [] [] a_law _ := ⟨⟨_, _, _, _, _, _, _, _, _, _, rfl, hl_law, hc_law, dfl_none, .inl rfl⟩, hk_law⟩
  have xx_BadText : ExcC K c_BadText := ⟨xg_BadText, xk_BadText, xc_BadText, xd_BadText, xa_BadText, h_get, h_tak, xo_BadText⟩
  have xf_BadText : XfC K c_BadText := ⟨xg_BadText, xk_BadText, xc_BadText, xd_BadText⟩
  let ad : Ad := {
    a_bad_letter := a_bad_letter
    d_bad_letter := PySem.W.fnOf "bad_letter" "bad_letter" (defArgs s_bad_letter) (defBody s_bad_letter) (defScope s_bad_letter) .none kV_bad_letter dc_bad_letter pm_bad_letter an_bad_letter cd_bad_letter ct_bad_letter
    a_check_text := a_check_text
    d_check_text := PySem.W.fnOf "check_text" "check_text" (defArgs s_check_text) (defBody s_check_text) (defScope s_check_text) (.ref dT_check_text) kV_check_text dc_check_text pm_check_text an_check_text cd_check_text ct_check_text
    a_letter_changes := a_letter_changes
    d_letter_changes := PySem.W.fnOf "letter_changes" "letter_changes" (defArgs s_letter_changes) (defBody s_letter_changes) (defScope s_letter_changes) .none kV_letter_changes dc_letter_changes pm_letter_changes an_letter_changes cd_letter_changes ct_letter_changes
    a_text_distance := a_text_distance
    d_text_distance := PySem.W.fnOf "text_distance" "text_distance" (defArgs s_text_distance) (defBody s_text_distance) (defScope s_text_distance) .none kV_text_distance dc_text_distance pm_text_distance an_text_distance cd_text_distance ct_text_distance
    a__law_row := a__law_row
    d__law_row := PySem.W.fnOf "_law_row" "_law_row" (defArgs s__law_row) (defBody s__law_row) (defScope s__law_row) .none kV__law_row dc__law_row pm__law_row an__law_row cd__law_row ct__law_row
    a__law_same := a__law_same
    d__law_same := PySem.W.fnOf "_law_same" "_law_same" (defArgs s__law_same) (defBody s__law_same) (defScope s__law_same) .none kV__law_same dc__law_same pm__law_same an__law_same cd__law_same ct__law_same
    a__law_word := a__law_word
    d__law_word := PySem.W.fnOf "_law_word" "_law_word" (defArgs s__law_word) (defBody s__law_word) (defScope s__law_word) .none kV__law_word dc__law_word pm__law_word an__law_word cd__law_word ct__law_word
    a__law_edited := a__law_edited
    d__law_edited := PySem.W.fnOf "_law_edited" "_law_edited" (defArgs s__law_edited) (defBody s__law_edited) (defScope s__law_edited) .none kV__law_edited dc__law_edited pm__law_edited an__law_edited cd__law_edited ct__law_edited
    a__law_table := a__law_table
    d__law_table := PySem.W.fnOf "_law_table" "_law_table" (defArgs s__law_table) (defBody s__law_table) (defScope s__law_table) .none kV__law_table dc__law_table pm__law_table an__law_table cd__law_table ct__law_table
    a__law_asked := a__law_asked
    d__law_asked := PySem.W.fnOf "_law_asked" "_law_asked" (defArgs s__law_asked) (defBody s__law_asked) (defScope s__law_asked) .none kV__law_asked dc__law_asked pm__law_asked an__law_asked cd__law_asked ct__law_asked
    a__law_bad_place := a__law_bad_place
    d__law_bad_place := PySem.W.fnOf "_law_bad_place" "_law_bad_place" (defArgs s__law_bad_place) (defBody s__law_bad_place) (defScope s__law_bad_place) .none kV__law_bad_place dc__law_bad_place pm__law_bad_place an__law_bad_place cd__law_bad_place ct__law_bad_place
    a__law_due := a__law_due
    d__law_due := PySem.W.fnOf "_law_due" "_law_due" (defArgs s__law_due) (defBody s__law_due) (defScope s__law_due) .none kV__law_due dc__law_due pm__law_due an__law_due cd__law_due ct__law_due
    a__law_spoilt := a__law_spoilt
    d__law_spoilt := PySem.W.fnOf "_law_spoilt" "_law_spoilt" (defArgs s__law_spoilt) (defBody s__law_spoilt) (defScope s__law_spoilt) .none kV__law_spoilt dc__law_spoilt pm__law_spoilt an__law_spoilt cd__law_spoilt ct__law_spoilt
    a_law := a_law
    d_law := PySem.W.fnOf "law" "law" (defArgs s_law) (defBody s_law) (defScope s_law) .none kV_law dc_law pm_law an_law cd_law ct_law
    c_Fault := c_Fault
    c_BadText := c_BadText
    c_TooMany := c_TooMany
    i_BadText := i_BadText }
  have T : Tx P K mg ad := {
    z_ValueError := PySem.W.mg_none_of X G hz_ValueError
    z_bool := PySem.W.mg_none_of X G hz_bool
    z_enumerate := PySem.W.mg_none_of X G hz_enumerate
    z_int := PySem.W.mg_none_of X G hz_int
    z_isinstance := PySem.W.mg_none_of X G hz_isinstance
    z_len := PySem.W.mg_none_of X G hz_len
    z_list := PySem.W.mg_none_of X G hz_list
    z_min := PySem.W.mg_none_of X G hz_min
    z_range := PySem.W.mg_none_of X G hz_range
    z_str := PySem.W.mg_none_of X G hz_str
    z_tuple := PySem.W.mg_none_of X G hz_tuple
    g_LETTERS := ⟨⟨_, PySem.W.mg_of X G hg_LETTERS, ⟨_, rfl⟩⟩⟩
    F_bad_letter := F_bad_letter
    m_bad_letter := PySem.W.mg_of X G hm_bad_letter
    F_check_text := F_check_text
    m_check_text := PySem.W.mg_of X G hm_check_text
    F_letter_changes := F_letter_changes
    m_letter_changes := PySem.W.mg_of X G hm_letter_changes
    F_text_distance := F_text_distance
    m_text_distance := PySem.W.mg_of X G hm_text_distance
    F__law_row := F__law_row
    m__law_row := PySem.W.mg_of X G hm__law_row
    F__law_same := F__law_same
    m__law_same := PySem.W.mg_of X G hm__law_same
    F__law_word := F__law_word
    m__law_word := PySem.W.mg_of X G hm__law_word
    F__law_edited := F__law_edited
    m__law_edited := PySem.W.mg_of X G hm__law_edited
    F__law_table := F__law_table
    m__law_table := PySem.W.mg_of X G hm__law_table
    F__law_asked := F__law_asked
    m__law_asked := PySem.W.mg_of X G hm__law_asked
    F__law_bad_place := F__law_bad_place
    m__law_bad_place := PySem.W.mg_of X G hm__law_bad_place
    F__law_due := F__law_due
    m__law_due := PySem.W.mg_of X G hm__law_due
    F__law_spoilt := F__law_spoilt
    m__law_spoilt := PySem.W.mg_of X G hm__law_spoilt
    F_law := F_law
    m_law := PySem.W.mg_of X G hm_law
    b__law_asked_2 := bnd_none (F__law_asked.bindsN (fun _ _ _ _ _ _ us hl => match us, hl with | [_, _], _ => rfl))
    b__law_bad_place_1 := bnd_none (F__law_bad_place.bindsN (fun _ _ _ _ _ _ us hl => match us, hl with | [_], _ => rfl))
    b__law_due_2 := bnd_none (F__law_due.bindsN (fun _ _ _ _ _ _ us hl => match us, hl with | [_, _], _ => rfl))
    b__law_edited_4 := bnd_none (F__law_edited.bindsN (fun _ _ _ _ _ _ us hl => match us, hl with | [_, _, _, _], _ => rfl))
    b__law_row_2 := bnd_none (F__law_row.bindsN (fun _ _ _ _ _ _ us hl => match us, hl with | [_, _], _ => rfl))
    b__law_same_2 := bnd_none (F__law_same.bindsN (fun _ _ _ _ _ _ us hl => match us, hl with | [_, _], _ => rfl))
    b__law_spoilt_3 := bnd_none (F__law_spoilt.bindsN (fun _ _ _ _ _ _ us hl => match us, hl with | [_, _, _], _ => rfl))
    b__law_table_2 := bnd_none (F__law_table.bindsN (fun _ _ _ _ _ _ us hl => match us, hl with | [_, _], _ => rfl))
    b__law_word_3 := bnd_none (F__law_word.bindsN (fun _ _ _ _ _ _ us hl => match us, hl with | [_, _, _], _ => rfl))
    b_bad_letter_2 := bnd_none (F_bad_letter.bindsN (fun _ _ _ _ _ _ us hl => match us, hl with | [_, _], _ => rfl))
    b_check_text_1 := bnd_int (F_check_text.binds1 1 0 (by simp) rfl (fun _ _ _ _ _ _ _ us its hu hi => match us, its, hu, hi with | [_], [_], _, _ => ⟨_, rfl, rfl⟩))
    b_letter_changes_2 := bnd_none (F_letter_changes.bindsN (fun _ _ _ _ _ _ us hl => match us, hl with | [_, _], _ => rfl))
    b_text_distance_2 := bnd_none (F_text_distance.bindsN (fun _ _ _ _ _ _ us hl => match us, hl with | [_, _], _ => rfl))
    m_Fault := PySem.W.mg_of X G hm_Fault
    n_Fault := hm_Fault
    m_BadText := PySem.W.mg_of X G hm_BadText
    n_BadText := hm_BadText
    m_TooMany := PySem.W.mg_of X G hm_TooMany
    n_TooMany := hm_TooMany
    s_BadText := { cls := ⟨_, _, _, _, _, _, _, _, _, _, _, _, _, _, _, xl_BadText, by rfl⟩, sa := sa_BadText, noF := nf_BadText, iC := ic_BadText, tI := ti_BadText, kC := kc_BadText, exC := xc_BadText, veC := ve_BadText, tyC := ty_BadText, up := up_BadText, sub := mr_BadText, any := h_any, sup := PySem.W.mg_none_of X G h_sup, fn := ⟨_, _, _, _, _, _, _, _, _, _, _, _, _, _, _, _, _, _, _, _, _, _, _, hf_BadText, hq_BadText, ⟨_, _, _, hcell_BadText⟩, _, _, _, _, _, _, hcode_BadText, hvs_BadText, hfile_BadText, hev_BadText⟩, bnd := fun _ _ _ _ _ _ _ _ _ _ _ _ => rfl, ne := by decide +kernel, db := by decide +kernel, top := h_top }
    e_Fault := (ext_cons hm_BadText (PySem.W.exm_ref te_Fault td_Fault tt_Fault ts_Fault_BadText) ext_nil)
    x_place := (xft_cons hm_BadText xf_BadText nf_BadText xft_nil)
    i_BadText := (ist_cons hm_BadText xx_BadText ki_BadText_BadText ist_nil)
    i_TooMany := (ist_cons hm_BadText xx_BadText ki_TooMany_BadText ist_nil)
    i_ValueError := (ist_cons hm_BadText xx_BadText ki_ValueError_BadText ist_nil) }
  exact ⟨_, fun s u => F_law.bindsA (ps := ["script"]) (fun _ _ _ _ _ _ us hl => match us, hl with | [_], _ => rfl) s [u] rfl, fun base _ _ => (fnj_law (ad := ad) T).ok⟩
end
end G
set_option Elab.async false
set_option linter.all false
set_option maxRecDepth 100000
set_option maxHeartbeats 4000000
/-! P44: what the defs of k44 compute. -/
namespace G
open PySem PySem.Spec L2 PD LV
abbrev ch (c : Nat) : D := .str ⟨#[c]⟩
def tx (x : Str) : List Nat := x.cps.toList
theorem tx_len (x : Str) : (tx x).length = x.length := by
  show x.cps.toList.length = x.cps.size
  simp
theorem subS {x : Str} {i : Nat} (hl : x.length ≤ lim) (hi : i < (tx x).length) : subD (.str x) (.int (i : Nat)) = some (ch (tx x)[i]) := by
  show (if x.length ≤ lim then (atI x.cps.toList (i : Nat)).map fun c => D.str ⟨#[c]⟩ else none) = _
  rw [if_pos hl]
  show (atI (tx x) (i : Nat)).map (fun c => D.str ⟨#[c]⟩) = _
  rw [PD.atI_nat hi]
  rfl
def isL (c : Nat) : Bool := decide (c ∈ tx ("abcdefghijklmnopqrstuvwxyz" : Str))
theorem nin_ch (c : Nat) : ninD (ch c) (.str "abcdefghijklmnopqrstuvwxyz") = some (.bl (!isL c)) := by
  have h : inStr true (ch c) (.str "abcdefghijklmnopqrstuvwxyz") = some (.bl (!isL c)) := by
    show (if (#[c] : Array Nat).size = 1 then some (D.bl (true != decide ((#[c] : Array Nat).getD 0 0 ∈ tx ("abcdefghijklmnopqrstuvwxyz" : Str)))) else none) = _
    rw [if_pos (by rfl)]
    simp [isL, tx]
  exact h
/-- the first bad place, from i on -/
def badF (m : Int) : Nat → List Nat → Int
  | _, [] => -1
  | i, c :: r => if m ≤ (i : Int) ∨ isL c = false then (i : Int) else badF m (i + 1) r
theorem badF_drop {m : Int} {l : List Nat} {i : Nat} (hi : i < l.length) : badF m i (l.drop i) = if m ≤ (i : Int) ∨ isL l[i] = false then (i : Int) else badF m (i + 1) (l.drop (i + 1)) := by
  rw [List.drop_eq_getElem_cons hi]
  rfl
theorem bad_letter_is {x : Str} {m : Int} : den_bad_letter [.str x, .int m] = .ok (.int (badF m 0 (tx x))) := by
  unfold den_bad_letter
  rw [fnD_app (ds := [.str x, .int m]) (by rfl : _ = 2)]
  show (bod_bad_letter [.d (.str x), .d (.int m), .un, .un]).fin = _
  have e0 : sFor (iEnum1 (aCons (fVar 0) aNil)) (gUn 2 (tsCons (setD 2) (tsCons (setD 3) tsNil))) (bSeq (sIf (fOr (fTst boolD (fBin geD (fVar 2) (fVar 1))) (fTst boolD (fBin ninD (fVar 3) (fC (.str "abcdefghijklmnopqrstuvwxyz"))))) (bSeq (sRet (fVar 2)) bNil) bNil) bNil) [.d (.str x), .d (.int m), .un, .un] =
      forD (gUn 2 (tsCons (setD 2) (tsCons (setD 3) tsNil))) (bSeq (sIf (fOr (fTst boolD (fBin geD (fVar 2) (fVar 1))) (fTst boolD (fBin ninD (fVar 3) (fC (.str "abcdefghijklmnopqrstuvwxyz"))))) (bSeq (sRet (fVar 2)) bNil) bNil) bNil) (dEnum (chars x)) [.d (.str x), .d (.int m), .un, .un] := by rfl
  have h := forD_inv (g := gUn 2 (tsCons (setD 2) (tsCons (setD 3) tsNil))) (f := bSeq (sIf (fOr (fTst boolD (fBin geD (fVar 2) (fVar 1))) (fTst boolD (fBin ninD (fVar 3) (fC (.str "abcdefghijklmnopqrstuvwxyz"))))) (bSeq (sRet (fVar 2)) bNil) bNil) bNil)
    (fun i ρ => i ≤ (tx x).length ∧ (∃ a b, ρ = [.d (.str x), .d (.int m), a, b]) ∧ badF m i ((tx x).drop i) = badF m 0 (tx x)) (fun z => z = .rt (.int (badF m 0 (tx x)))) (dEnum (chars x)) 0 [.d (.str x), .d (.int m), .un, .un] (fun i d ρ hd hp => by
      obtain ⟨hle, ⟨a, b, rfl⟩, hb⟩ := hp
      rw [Nat.zero_add] at hb ⊢
      have hlen : (dEnum (chars x)).length = (tx x).length := by
        unfold dEnum chars
        rw [dEnumAux_len, List.length_map]
        rfl
      have hi : i < (tx x).length := by rw [← hlen]; exact get_lt hd
      have hg := dEnumAux_get 0 (chars x) i (ch (tx x)[i]) (by unfold chars; rw [List.getElem?_map]; show ((tx x)[i]?).map _ = _; rw [List.getElem?_eq_getElem hi]; rfl)
      rw [Nat.zero_add] at hg
      have hd' : some d = some (.tup [.int (i : Nat), ch (tx x)[i]]) := by
        rw [← hd]
        exact hg
      cases hd'
      rw [badF_drop hi] at hb
      by_cases h1 : m ≤ (i : Int)
      · rw [if_pos (.inl h1)] at hb
        right; left
        rw [← hb]
        simp [seq_bNil, bSeq, bNil, sAsg, sAsgO, setO, setD, sIf, sRet, sDrop, sFor, sApp, fC, fVar, fBin, fLate, slotD, fTst, boolD, fAnd, fOr, fNot, fUn, negD, fIf, fBlt, fLenN, fTup, fO, oLst, aNil, aCons, fSl, pNone, pSome, intD, fPop, ownAt, iSeq, iRange1, iRange2, iEnum1, addD, subI, modI, fdivI, cmpI, ltD, leD, gtD, geD, lenOf, lenL, intL, gUn, tsCons, tsNil, List.getElem?_cons_zero, List.getElem?_cons_succ, List.set_cons_zero, List.set_cons_succ, List.length_cons, List.length_nil, h1]
      · by_cases h2 : isL (tx x)[i] = false
        · rw [if_pos (.inr h2)] at hb
          right; left
          rw [← hb]
          simp [seq_bNil, bSeq, bNil, sAsg, sAsgO, setO, setD, sIf, sRet, sDrop, sFor, sApp, fC, fVar, fBin, fLate, slotD, fTst, boolD, fAnd, fOr, fNot, fUn, negD, fIf, fBlt, fLenN, fTup, fO, oLst, aNil, aCons, fSl, pNone, pSome, intD, fPop, ownAt, iSeq, iRange1, iRange2, iEnum1, addD, subI, modI, fdivI, cmpI, ltD, leD, gtD, geD, lenOf, lenL, intL, gUn, tsCons, tsNil, List.getElem?_cons_zero, List.getElem?_cons_succ, List.set_cons_zero, List.set_cons_succ, List.length_cons, List.length_nil, h1, nin_ch, h2]
        · rw [if_neg (fun z => z.elim h1 h2)] at hb
          left
          have h2' : isL (tx x)[i] = true := by simpa using h2
          exact ⟨[.d (.str x), .d (.int m), .d (.int (i : Nat)), .d (ch (tx x)[i])], .inl (by simp [seq_bNil, bSeq, bNil, sAsg, sAsgO, setO, setD, sIf, sRet, sDrop, sFor, sApp, fC, fVar, fBin, fLate, slotD, fTst, boolD, fAnd, fOr, fNot, fUn, negD, fIf, fBlt, fLenN, fTup, fO, oLst, aNil, aCons, fSl, pNone, pSome, intD, fPop, ownAt, iSeq, iRange1, iRange2, iEnum1, addD, subI, modI, fdivI, cmpI, ltD, leD, gtD, geD, lenOf, lenL, intL, gUn, tsCons, tsNil, List.getElem?_cons_zero, List.getElem?_cons_succ, List.set_cons_zero, List.set_cons_succ, List.length_cons, List.length_nil, h1, nin_ch, h2']), by omega, ⟨_, _, rfl⟩, hb⟩) ⟨by omega, ⟨_, _, rfl⟩, rfl⟩
  unfold bod_bad_letter
  rw [bSeq_app, e0]
  have hlen : (dEnum (chars x)).length = (tx x).length := by
    unfold dEnum chars
    rw [dEnumAux_len, List.length_map]
    rfl
  rcases h with ⟨ρ', h, _, ⟨a, b, rfl⟩, hb⟩ | h
  · rw [h, Fl.seq_nx]
    rw [Nat.zero_add, hlen, List.drop_length] at hb
    rw [← hb]
    simp [seq_bNil, bSeq, bNil, sAsg, sAsgO, setO, setD, sIf, sRet, sDrop, sFor, sApp, fC, fVar, fBin, fLate, slotD, fTst, boolD, fAnd, fOr, fNot, fUn, negD, fIf, fBlt, fLenN, fTup, fO, oLst, aNil, aCons, fSl, pNone, pSome, intD, fPop, ownAt, iSeq, iRange1, iRange2, iEnum1, addD, subI, modI, fdivI, cmpI, ltD, leD, gtD, geD, lenOf, lenL, intL, gUn, tsCons, tsNil, List.getElem?_cons_zero, List.getElem?_cons_succ, List.set_cons_zero, List.set_cons_succ, List.length_cons, List.length_nil, Fl.fin, badF]
  · rw [h]
    rfl
theorem bad_place_is {x : Str} (hl : x.length ≤ lim) : den__law_bad_place [.str x] = .ok (.int (badF 60 0 (tx x))) := by
  unfold den__law_bad_place
  rw [fnD_app (ds := [.str x]) (by rfl : _ = 1)]
  show (bod__law_bad_place [.d (.str x), .un]).fin = _
  have hR : okR ((tx x).length : Nat) = true := okR_nat (by rw [tx_len]; exact Nat.lt_of_le_of_lt hl (by decide))
  have hlen : lenOf (.str x) = some (.int ((tx x).length : Nat)) := by
    show (if x.length ≤ lim then some (D.int x.length) else none) = _
    rw [if_pos hl, tx_len]
  have e0 : ∀ (L : En → Fl), sFor (iRange1 (aCons (fLenN 0) aNil)) (setD 1) L [.d (.str x), .un] = forD (setD 1) L (dRange 0 (tx x).length) [.d (.str x), .un] := fun L => by
    simp [sFor, iRange1, aCons, fLenN, aNil, slotD, hlen, hR]
  have h := forD_inv (g := setD 1) (f := bSeq (sIf (fOr (fTst boolD (fBin geD (fVar 1) (fC (.int 60)))) (fTst boolD (fBin ninD (fLate 0 subD (fVar 1)) (fC (.str "abcdefghijklmnopqrstuvwxyz"))))) (bSeq (sRet (fVar 1)) bNil) bNil) bNil)
    (fun i ρ => i ≤ (tx x).length ∧ (∃ a, ρ = [.d (.str x), a]) ∧ badF 60 i ((tx x).drop i) = badF 60 0 (tx x)) (fun z => z = .rt (.int (badF 60 0 (tx x)))) (dRange 0 (tx x).length) 0 [.d (.str x), .un] (fun i d ρ hd hp => by
      obtain ⟨hle, ⟨a, rfl⟩, hb⟩ := hp
      rw [Nat.zero_add] at hb ⊢
      obtain ⟨hi, rfl⟩ := dRange_inv0 hd
      have hs := subS hl hi
      rw [badF_drop hi] at hb
      by_cases h1 : (60 : Int) ≤ (i : Int)
      · rw [if_pos (.inl h1)] at hb
        right; left
        rw [← hb]
        simp [seq_bNil, bSeq, bNil, sAsg, sAsgO, setO, setD, sIf, sRet, sDrop, sFor, sApp, fC, fVar, fBin, fLate, slotD, fTst, boolD, fAnd, fOr, fNot, fUn, negD, fIf, fBlt, fLenN, fTup, fO, oLst, aNil, aCons, fSl, pNone, pSome, intD, fPop, ownAt, iSeq, iRange1, iRange2, iEnum1, addD, subI, modI, fdivI, cmpI, ltD, leD, gtD, geD, lenOf, lenL, intL, gUn, tsCons, tsNil, List.getElem?_cons_zero, List.getElem?_cons_succ, List.set_cons_zero, List.set_cons_succ, List.length_cons, List.length_nil, h1]
      · by_cases h2 : isL (tx x)[i] = false
        · rw [if_pos (.inr h2)] at hb
          right; left
          rw [← hb]
          simp [seq_bNil, bSeq, bNil, sAsg, sAsgO, setO, setD, sIf, sRet, sDrop, sFor, sApp, fC, fVar, fBin, fLate, slotD, fTst, boolD, fAnd, fOr, fNot, fUn, negD, fIf, fBlt, fLenN, fTup, fO, oLst, aNil, aCons, fSl, pNone, pSome, intD, fPop, ownAt, iSeq, iRange1, iRange2, iEnum1, addD, subI, modI, fdivI, cmpI, ltD, leD, gtD, geD, lenOf, lenL, intL, gUn, tsCons, tsNil, List.getElem?_cons_zero, List.getElem?_cons_succ, List.set_cons_zero, List.set_cons_succ, List.length_cons, List.length_nil, h1, hs, nin_ch, h2]
        · rw [if_neg (fun z => z.elim h1 h2)] at hb
          left
          have h2' : isL (tx x)[i] = true := by simpa using h2
          exact ⟨[.d (.str x), .d (.int (i : Nat))], .inl (by simp [seq_bNil, bSeq, bNil, sAsg, sAsgO, setO, setD, sIf, sRet, sDrop, sFor, sApp, fC, fVar, fBin, fLate, slotD, fTst, boolD, fAnd, fOr, fNot, fUn, negD, fIf, fBlt, fLenN, fTup, fO, oLst, aNil, aCons, fSl, pNone, pSome, intD, fPop, ownAt, iSeq, iRange1, iRange2, iEnum1, addD, subI, modI, fdivI, cmpI, ltD, leD, gtD, geD, lenOf, lenL, intL, gUn, tsCons, tsNil, List.getElem?_cons_zero, List.getElem?_cons_succ, List.set_cons_zero, List.set_cons_succ, List.length_cons, List.length_nil, h1, hs, nin_ch, h2']), by omega, ⟨_, rfl⟩, hb⟩) ⟨by omega, ⟨_, rfl⟩, rfl⟩
  unfold bod__law_bad_place
  rw [bSeq_app, e0]
  rcases h with ⟨ρ', h, _, ⟨a, rfl⟩, hb⟩ | h
  · rw [h, Fl.seq_nx]
    rw [Nat.zero_add, dRange_len, List.drop_length] at hb
    rw [← hb]
    simp [seq_bNil, bSeq, bNil, sAsg, sAsgO, setO, setD, sIf, sRet, sDrop, sFor, sApp, fC, fVar, fBin, fLate, slotD, fTst, boolD, fAnd, fOr, fNot, fUn, negD, fIf, fBlt, fLenN, fTup, fO, oLst, aNil, aCons, fSl, pNone, pSome, intD, fPop, ownAt, iSeq, iRange1, iRange2, iEnum1, addD, subI, modI, fdivI, cmpI, ltD, leD, gtD, geD, lenOf, lenL, intL, gUn, tsCons, tsNil, List.getElem?_cons_zero, List.getElem?_cons_succ, List.set_cons_zero, List.set_cons_succ, List.length_cons, List.length_nil, Fl.fin, badF]
  · rw [h]
    rfl
theorem check_ok {x : Str} (h : badF 60 0 (tx x) < 0) : den_check_text [.str x, .int 60] = .ok .non := by
  unfold den_check_text
  rw [fnD_app (ds := [.str x, .int 60]) (by rfl : _ = 2)]
  show (bod_check_text [.d (.str x), .d (.int 60), .un]).fin = _
  unfold bod_check_text
  have h' : ¬ 0 ≤ badF 60 0 (tx x) := by omega
  simp [seq_bNil, bSeq, bNil, sAsg, sAsgO, setO, setD, sIf, sRet, sDrop, sFor, sApp, fC, fVar, fBin, fLate, slotD, fTst, boolD, fAnd, fOr, fNot, fUn, negD, fIf, fBlt, fLenN, fTup, fO, oLst, aNil, aCons, fSl, pNone, pSome, intD, fPop, ownAt, iSeq, iRange1, iRange2, iEnum1, addD, subI, modI, fdivI, cmpI, ltD, leD, gtD, geD, lenOf, lenL, intL, gUn, tsCons, tsNil, List.getElem?_cons_zero, List.getElem?_cons_succ, List.set_cons_zero, List.set_cons_succ, List.length_cons, List.length_nil, fCall, bad_letter_is, h', Fl.fin]
theorem check_bad {x : Str} (h : ¬ badF 60 0 (tx x) < 0) : den_check_text [.str x, .int 60] = .exc ⟨"BadText", [("place", .int (badF 60 0 (tx x)))]⟩ := by
  unfold den_check_text
  rw [fnD_app (ds := [.str x, .int 60]) (by rfl : _ = 2)]
  show (bod_check_text [.d (.str x), .d (.int 60), .un]).fin = _
  unfold bod_check_text
  have h' : 0 ≤ badF 60 0 (tx x) := by omega
  simp [seq_bNil, bSeq, bNil, sAsg, sAsgO, setO, setD, sIf, sRet, sDrop, sFor, sApp, fC, fVar, fBin, fLate, slotD, fTst, boolD, fAnd, fOr, fNot, fUn, negD, fIf, fBlt, fLenN, fTup, fO, oLst, aNil, aCons, fSl, pNone, pSome, intD, fPop, ownAt, iSeq, iRange1, iRange2, iEnum1, addD, subI, modI, fdivI, cmpI, ltD, leD, gtD, geD, lenOf, lenL, intL, gUn, tsCons, tsNil, List.getElem?_cons_zero, List.getElem?_cons_succ, List.set_cons_zero, List.set_cons_succ, List.length_cons, List.length_nil, fCall, bad_letter_is, h', Fl.fin, fRaise1]
/-! ### the row of the table -/
def rI (ra b : List Nat) : List Int := (List.range (b.length + 1)).map fun j => (lev ra (b.take j).reverse : Int)
theorem rI_len (ra b : List Nat) : (rI ra b).length = b.length + 1 := by unfold rI; simp
theorem rI_get {ra b : List Nat} {j : Nat} (hj : j ≤ b.length) : (rI ra b)[j]? = some (lev ra (b.take j).reverse : Int) := by
  unfold rI
  rw [List.getElem?_map, List.getElem?_range (by omega)]
  rfl
theorem rI_sub {ra b : List Nat} {j : Nat} (hj : j ≤ b.length) : subD (.lst ((rI ra b).map D.int)) (.int (j : Nat)) = some (.int (lev ra (b.take j).reverse : Nat)) := by
  show atI ((rI ra b).map D.int) (j : Nat) = _
  rw [PD.atI_nat (by rw [List.length_map, rI_len]; omega)]
  have := rI_get (ra := ra) hj
  rw [List.getElem?_eq_getElem (by rw [rI_len]; omega)] at this
  rw [List.getElem_map, Option.some.inj this]
theorem rI_take_sub {ra b : List Nat} {j k : Nat} (hj : j < k) (hk : k ≤ b.length + 1) : subD (.lst (((rI ra b).take k).map D.int)) (.int (j : Nat)) = some (.int (lev ra (b.take j).reverse : Nat)) := by
  show atI (((rI ra b).take k).map D.int) (j : Nat) = _
  have hl : j < (((rI ra b).take k).map D.int).length := by rw [List.length_map, List.length_take, rI_len]; omega
  rw [PD.atI_nat hl]
  have := rI_get (ra := ra) (b := b) (j := j) (by omega)
  rw [List.getElem?_eq_getElem (by rw [rI_len]; omega)] at this
  rw [List.getElem_map, List.getElem_take, Option.some.inj this]
theorem rI_nil (b : List Nat) : (rI [] b).map D.int = dRange 0 (b.length + 1) := by
  unfold rI dRange
  rw [List.map_map]
  refine List.map_congr_left fun j hj => ?_
  have hj' : j < b.length + 1 := List.mem_range.mp hj
  show D.int (lev [] (b.take j).reverse : Nat) = D.int (0 + (j : Nat))
  rw [lev_nil, List.length_reverse, List.length_take, Nat.min_eq_left (by omega), Int.zero_add]
theorem rI_take1 (ra b : List Nat) : (rI ra b).take 1 = [(ra.length : Int)] := by
  unfold rI
  rw [← List.map_take, List.take_range, Nat.min_eq_left (by omega)]
  show [(lev ra (b.take 0).reverse : Int)] = _
  rw [List.take_zero, List.reverse_nil, lev_nil2]
theorem rI_snoc {ra b : List Nat} {j : Nat} (hj : j < b.length + 1) : (rI ra b).take (j + 1) = (rI ra b).take j ++ [(lev ra (b.take j).reverse : Int)] := by
  have hl : j < (rI ra b).length := by rw [rI_len]; omega
  rw [List.take_succ_eq_append_getElem hl]
  have := rI_get (ra := ra) (b := b) (j := j) (by omega)
  rw [List.getElem?_eq_getElem hl] at this
  rw [Option.some.inj this]
theorem take_rev {b : List Nat} {j : Nat} (hj : j < b.length) : (b.take (j + 1)).reverse = b[j] :: (b.take j).reverse := by
  rw [List.take_succ_eq_append_getElem hj, List.reverse_append]
  rfl
/-- the new entry -/
theorem lev_next (x : Nat) (ra : List Nat) {b : List Nat} {j : Nat} (hj : j < b.length) : lev (x :: ra) (b.take (j + 1)).reverse =
    min (min (lev ra (b.take j).reverse + if x = b[j] then 0 else 1) (lev ra (b.take (j + 1)).reverse + 1)) (lev (x :: ra) (b.take j).reverse + 1) := by
  rw [take_rev hj, lev_cons]
theorem min3_is (i j k : Nat) : minL [.int (i : Nat), .int (j : Nat), .int (k : Nat)] = some (.int ((min (min i j) k : Nat) : Int)) := by
  show some (D.int (let m := if (j : Int) < (i : Int) then (j : Int) else (i : Int); if (k : Int) < m then (k : Int) else m)) = _
  congr 2
  by_cases h : (j : Int) < (i : Int)
  · rw [if_pos h]
    show (if (k : Int) < (j : Int) then (k : Int) else (j : Int)) = _
    split <;> omega
  · rw [if_neg h]
    show (if (k : Int) < (i : Int) then (k : Int) else (i : Int)) = _
    split <;> omega
def lcIn : En → Fl := (bSeq (sAsg (fBin addD (fLate 4 subD (fVar 5)) (fBlt intL (aCons (fLate 3 neD (fVar 6)) aNil))) (setD 7)) (bSeq (sApp 2 (fBlt minL (aCons (fVar 7) (aCons (fBin addD (fLate 4 subD (fBin addD (fVar 5) (fC (.int 1)))) (fC (.int 1))) (aCons (fBin addD (fLate 2 subD (fVar 5)) (fC (.int 1))) aNil))))) bNil))
theorem ne_ch (c d : Nat) : neD (ch c) (ch d) = some (.bl (!decide (c = d))) := by
  show some (D.bl (!decide ((⟨#[c]⟩ : Str) = ⟨#[d]⟩))) = _
  congr 3
  simp
theorem lc_in_step {f b : Str} {ra : List Nat} {c : Nat} {j : Nat} {x5 x6 x7 : Sl} (hl : b.length ≤ 100000) (hj : j < (tx b).length) :
    (gUn 2 (tsCons (setD 5) (tsCons (setD 6) tsNil)) (.tup [.int (j : Nat), ch (tx b)[j]]) [.d (.str f), .d (.str b), .own (((rI (c :: ra) (tx b)).take (j + 1)).map D.int), .d (ch c), .d (.lst ((rI ra (tx b)).map D.int)), x5, x6, x7]).seq lcIn =
      .nx [.d (.str f), .d (.str b), .own (((rI (c :: ra) (tx b)).take (j + 1 + 1)).map D.int), .d (ch c), .d (.lst ((rI ra (tx b)).map D.int)), .d (.int (j : Nat)), .d (ch (tx b)[j]), .d (.int ((lev ra ((tx b).take j).reverse + if c = (tx b)[j] then 0 else 1 : Nat) : Int))] := by
  have h1 := rI_sub (ra := ra) (b := tx b) (j := j) (by omega)
  have h2 := rI_sub (ra := ra) (b := tx b) (j := j + 1) (by omega)
  have h3 := rI_take_sub (ra := c :: ra) (b := tx b) (j := j) (k := j + 1) (by omega) (by omega)
  have h4 := lev_next c ra hj
  have h5 := rI_snoc (ra := c :: ra) (b := tx b) (j := j + 1) (by omega)
  have h6 := ne_ch c (tx b)[j]
  have hlen : (((rI (c :: ra) (tx b)).take (j + 1)).map D.int).length < lim := by
    rw [List.length_map, List.length_take, rI_len]
    rw [tx_len] at hj
    have : (100001 : Nat) < lim := by decide
    omega
  rw [h5, h4]
  generalize (tx b)[j] = e at *
  generalize (rI (c :: ra) (tx b)).take (j + 1) = row at *
  generalize (rI ra (tx b)) = above at *
  generalize lev ra ((tx b).take j).reverse = p at *
  generalize lev ra ((tx b).take (j + 1)).reverse = q at *
  generalize lev (c :: ra) ((tx b).take j).reverse = r at *
  have h7 : (if decide (c = e) = true then (0 : Int) else 1) = ((if c = e then 0 else 1 : Nat) : Int) := by
    by_cases z : c = e <;> simp [z]
  have h8 := min3_is (p + if c = e then 0 else 1) (q + 1) (r + 1)
  have h9 : ((j : Int) + 1) = ((j + 1 : Nat) : Int) := by omega
  unfold lcIn
  have i1 : intL [.bl (!decide (c = e))] = some (.int ((if c = e then 0 else 1 : Nat) : Int)) := by
    by_cases z : c = e <;> simp [z, intL]
  have a1 : addD (.int (p : Int)) (.int ((if c = e then 0 else 1 : Nat) : Int)) = some (.int ((p + if c = e then 0 else 1 : Nat) : Int)) := by
    show some (D.int _) = _
    congr 2
  have a2 : addD (.int (q : Int)) (.int 1) = some (.int ((q + 1 : Nat) : Int)) := rfl
  have a3 : addD (.int (r : Int)) (.int 1) = some (.int ((r + 1 : Nat) : Int)) := rfl
  have a4 : addD (.int (j : Int)) (.int 1) = some (.int ((j + 1 : Nat) : Int)) := rfl
  generalize ((min (min (p + if c = e then 0 else 1) (q + 1)) (r + 1) : Nat) : Int) = M at *
  generalize ((p + if c = e then 0 else 1 : Nat) : Int) = A1 at *
  generalize ((q + 1 : Nat) : Int) = Q1 at *
  generalize ((r + 1 : Nat) : Int) = R1 at *
  generalize ((j + 1 : Nat) : Int) = J1 at *
  generalize ((if c = e then 0 else 1 : Nat) : Int) = I0 at *
  generalize (p : Int) = P at *
  generalize (q : Int) = Q at *
  generalize (r : Int) = R at *
  generalize (j : Int) = J at *
  generalize (!decide (c = e)) = B at *
  rw [List.length_map] at hlen
  simp [seq_bNil, bSeq, bNil, sAsg, sAsgO, setO, setD, sIf, sRet, sDrop, sFor, sApp, fC, fVar, fBin, fLate, slotD, fTst, boolD, fAnd, fOr, fNot, fUn, negD, fIf, fBlt, fLenN, fTup, fO, oLst, aNil, aCons, fSl, pNone, pSome, intD, fPop, ownAt, iSeq, iRange1, iRange2, iEnum1, fdivI, cmpI, ltD, leD, gtD, geD, lenL, gUn, tsCons, tsNil, List.getElem?_cons_zero, List.getElem?_cons_succ, List.set_cons_zero, List.set_cons_succ, List.length_cons, List.length_nil, h1, h2, h3, h6, h8, i1, a1, a2, a3, a4, hlen]
theorem letter_changes_is {a b : Str} (ha : a.length ≤ 1000) (hb : b.length ≤ 1000) : den_letter_changes [.str a, .str b] = .ok (.int (lev (tx a).reverse (tx b).reverse : Nat)) := by
  have hlim : (100002 : Nat) < lim := by decide
  unfold den_letter_changes
  rw [fnD_app (ds := [.str a, .str b]) (by rfl : _ = 2)]
  show (bod_letter_changes [.d (.str a), .d (.str b), .un, .un, .un, .un, .un, .un]).fin = _
  have hlenb : lenOf (.str b) = some (.int ((tx b).length : Nat)) := by
    show (if b.length ≤ lim then some (D.int b.length) else none) = _
    rw [if_pos (by omega), tx_len]
  have hR : okL 0 (((tx b).length + 1 : Nat) : Int) = true := by
    unfold okL
    have z0 : okR 0 = true := by decide
    have z1 : (tx b).length + 1 < 2 ^ 62 := by
      rw [tx_len]
      have : (1002 : Nat) < 2 ^ 62 := by decide
      omega
    have z2 : (((((tx b).length + 1 : Nat) : Int)) - 0).toNat ≤ 100000 := by
      rw [tx_len]; omega
    rw [z0, okR_nat z1, decide_eq_true z2]
    rfl
  have e0 : sAsgO (oRange1 (fBin addD (fLenN 1) (fC (.int 1)))) 2 [.d (.str a), .d (.str b), .un, .un, .un, .un, .un, .un] = .nx [.d (.str a), .d (.str b), .own ((rI [] (tx b)).map D.int), .un, .un, .un, .un, .un] := by
    rw [rI_nil]
    have a1 : addD (.int ((tx b).length : Nat)) (.int 1) = some (.int (((tx b).length + 1 : Nat) : Int)) := rfl
    generalize hn : ((tx b).length + 1) = n at *
    simp [seq_bNil, bSeq, bNil, sAsg, sAsgO, setO, setD, sIf, sRet, sDrop, sFor, sApp, fC, fVar, fBin, fLate, slotD, fTst, boolD, fAnd, fOr, fNot, fUn, negD, fIf, fBlt, fLenN, fTup, fO, oLst, aNil, aCons, fSl, pNone, pSome, intD, fPop, ownAt, iSeq, iRange1, iRange2, iEnum1, fdivI, cmpI, ltD, leD, gtD, geD, lenL, gUn, tsCons, tsNil, List.getElem?_cons_zero, List.getElem?_cons_succ, List.set_cons_zero, List.set_cons_succ, List.length_cons, List.length_nil, hlenb, a1, oRange1, hR]
  have e1 : ∀ L : En → Fl, ∀ ρ0 : En, ρ0[0]? = some (.d (.str a)) → sFor (iSeq (fVar 0)) (setD 3) L ρ0 = forD (setD 3) L (chars a) ρ0 := fun L ρ0 h0 => by
    simp [sFor, iSeq, fVar, h0]
  have step : ∀ (i : Nat) (c : Nat) (ra : List Nat) (x2 x3 x4 x5 x6 x7 : Sl), (x2 = .own ((rI ra (tx b)).map D.int)) →
      ∃ y4 y5 y6 y7, (setD 3 (ch c) [.d (.str a), .d (.str b), x2, x3, x4, x5, x6, x7]).seq (bSeq (sAsg (fVar 2) (setD 4)) (bSeq (sAsgO (oLst (aCons (fBin addD (fLate 4 subD (fC (.int 0))) (fC (.int 1))) aNil)) 2) (bSeq (sFor (iEnum1 (aCons (fVar 1) aNil)) (gUn 2 (tsCons (setD 5) (tsCons (setD 6) tsNil))) lcIn) bNil))) =
        .nx [.d (.str a), .d (.str b), .own ((rI (c :: ra) (tx b)).map D.int), .d (ch c), y4, y5, y6, y7] := by
    intro i c ra x2 x3 x4 x5 x6 x7 hx2
    subst hx2
    have g0 : subD (.lst ((rI ra (tx b)).map D.int)) (.int 0) = some (.int (ra.length : Nat)) := by
      have := rI_sub (ra := ra) (b := tx b) (j := 0) (by omega)
      rw [List.take_zero, List.reverse_nil, lev_nil2] at this
      exact this
    have g1 : addD (.int (ra.length : Nat)) (.int 1) = some (.int (((c :: ra).length : Nat) : Int)) := rfl
    have p1 : (setD 3 (ch c) [.d (.str a), .d (.str b), .own ((rI ra (tx b)).map D.int), x3, x4, x5, x6, x7]).seq (bSeq (sAsg (fVar 2) (setD 4)) (sAsgO (oLst (aCons (fBin addD (fLate 4 subD (fC (.int 0))) (fC (.int 1))) aNil)) 2)) =
        .nx [.d (.str a), .d (.str b), .own [.int ((c :: ra).length : Nat)], .d (ch c), .d (.lst ((rI ra (tx b)).map D.int)), x5, x6, x7] := by
      have z : (1 : Nat) ≤ lim := by decide
      generalize ((c :: ra).length : Int) = G1 at *
      generalize (ra.length : Int) = G0 at *
      generalize (rI ra (tx b)).map D.int = row at *
      simp [seq_bNil, bSeq, bNil, sAsg, sAsgO, setO, setD, sIf, sRet, sDrop, sFor, sApp, fC, fVar, fBin, fLate, slotD, fTst, boolD, fAnd, fOr, fNot, fUn, negD, fIf, fBlt, fLenN, fTup, fO, oLst, aNil, aCons, fSl, pNone, pSome, intD, fPop, ownAt, iSeq, iRange1, iRange2, iEnum1, fdivI, cmpI, ltD, leD, gtD, geD, lenL, gUn, tsCons, tsNil, List.getElem?_cons_zero, List.getElem?_cons_succ, List.set_cons_zero, List.set_cons_succ, List.length_cons, List.length_nil, g0, g1, z]
    have p2 : ∀ ρ0 : En, ρ0[1]? = some (.d (.str b)) → sFor (iEnum1 (aCons (fVar 1) aNil)) (gUn 2 (tsCons (setD 5) (tsCons (setD 6) tsNil))) lcIn ρ0 = forD (gUn 2 (tsCons (setD 5) (tsCons (setD 6) tsNil))) lcIn (dEnum (chars b)) ρ0 := fun ρ0 h0 => by
      simp [sFor, iEnum1, aCons, aNil, fVar, h0]
    have hlen : (dEnum (chars b)).length = (tx b).length := by
      unfold dEnum chars
      rw [dEnumAux_len, List.length_map]
      rfl
    obtain ⟨ρ', e, hle, y5, y6, y7, rfl⟩ := forD_thru (g := gUn 2 (tsCons (setD 5) (tsCons (setD 6) tsNil))) (f := lcIn) (ds := dEnum (chars b)) (ρ := [.d (.str a), .d (.str b), .own [.int ((c :: ra).length : Nat)], .d (ch c), .d (.lst ((rI ra (tx b)).map D.int)), x5, x6, x7])
      (fun j ρ => j ≤ (tx b).length ∧ ∃ y5 y6 y7, ρ = [.d (.str a), .d (.str b), .own (((rI (c :: ra) (tx b)).take (j + 1)).map D.int), .d (ch c), .d (.lst ((rI ra (tx b)).map D.int)), y5, y6, y7]) (fun j d ρ hd ⟨hj, y5, y6, y7, hρ⟩ => by
        subst hρ
        have hi : j < (tx b).length := by rw [← hlen]; exact get_lt hd
        have hg := dEnumAux_get 0 (chars b) j (ch (tx b)[j]) (by unfold chars; rw [List.getElem?_map]; show ((tx b)[j]?).map _ = _; rw [List.getElem?_eq_getElem hi]; rfl)
        rw [Nat.zero_add] at hg
        have hd' : some d = some (.tup [.int (j : Nat), ch (tx b)[j]]) := by
          rw [← hd]
          exact hg
        cases hd'
        exact ⟨_, .inl (lc_in_step (by omega) hi), by omega, _, _, _, rfl⟩) ⟨by omega, x5, x6, x7, by rw [rI_take1]; rfl⟩
    rw [hlen] at e
    refine ⟨.d (.lst ((rI ra (tx b)).map D.int)), y5, y6, y7, ?_⟩
    rw [bSeq_assoc, seq_bSeq, p1, Fl.seq_nx, bSeq_app, p2 _ rfl, e, seq_bNil, List.take_of_length_le (Nat.le_of_eq (rI_len _ _))]
  have hlen : (chars a).length = (tx a).length := by
    unfold chars
    rw [List.length_map]
    rfl
  obtain ⟨ρ', e, hle, y3, y4, y5, y6, y7, rfl⟩ := forD_thru (g := setD 3) (f := (bSeq (sAsg (fVar 2) (setD 4)) (bSeq (sAsgO (oLst (aCons (fBin addD (fLate 4 subD (fC (.int 0))) (fC (.int 1))) aNil)) 2) (bSeq (sFor (iEnum1 (aCons (fVar 1) aNil)) (gUn 2 (tsCons (setD 5) (tsCons (setD 6) tsNil))) lcIn) bNil)))) (ds := chars a)
    (ρ := [.d (.str a), .d (.str b), .own ((rI [] (tx b)).map D.int), .un, .un, .un, .un, .un])
    (fun i ρ => i ≤ (tx a).length ∧ ∃ y3 y4 y5 y6 y7, ρ = [.d (.str a), .d (.str b), .own ((rI ((tx a).take i).reverse (tx b)).map D.int), y3, y4, y5, y6, y7]) (fun i d ρ hd ⟨hi, y3, y4, y5, y6, y7, hρ⟩ => by
      subst hρ
      have hil : i < (tx a).length := by rw [← hlen]; exact get_lt hd
      have hd' : some d = some (ch (tx a)[i]) := by
        rw [← hd]
        unfold chars
        rw [List.getElem?_map]
        show ((tx a)[i]?).map _ = _
        rw [List.getElem?_eq_getElem hil]
        rfl
      cases hd'
      obtain ⟨z4, z5, z6, z7, hz⟩ := step i (tx a)[i] ((tx a).take i).reverse _ y3 y4 y5 y6 y7 rfl
      exact ⟨_, .inl hz, by omega, .d (ch (tx a)[i]), z4, z5, z6, z7, by rw [take_rev hil]⟩) ⟨by omega, _, _, _, _, _, by rfl⟩
  rw [hlen, List.take_of_length_le (Nat.le_refl _)] at e
  show (bSeq _ (bSeq _ _) _).fin = _
  rw [bSeq_app, e0, Fl.seq_nx, bSeq_app, e1 _ _ rfl]
  show ((forD (setD 3) _ (chars a) _).seq _).fin = _
  have ef := e
  unfold lcIn at ef
  rw [ef, Fl.seq_nx]
  have hs : subD (.lst ((rI (tx a).reverse (tx b)).map D.int)) (.int (-1)) = some (.int (lev (tx a).reverse (tx b).reverse : Nat)) := by
    have h1 := rI_get (ra := (tx a).reverse) (b := tx b) (j := (tx b).length) (Nat.le_refl _)
    rw [List.take_of_length_le (Nat.le_refl _)] at h1
    have h2 := rI_len (tx a).reverse (tx b)
    generalize rI (tx a).reverse (tx b) = row at h1 h2 ⊢
    show atI (row.map D.int) (-1) = _
    unfold atI ixN
    rw [if_neg (by decide), if_pos (by rw [List.length_map]; omega), Option.bind_some]
    have h3 : ((-1 : Int) + ((row.map D.int).length : Nat)).toNat = (tx b).length := by
      rw [List.length_map]; omega
    rw [h3, List.getElem?_map, h1]
    rfl
  simp [seq_bNil, bSeq, bNil, sAsg, sAsgO, setO, setD, sIf, sRet, sDrop, sFor, sApp, fC, fVar, fBin, fLate, slotD, fTst, boolD, fAnd, fOr, fNot, fUn, negD, fIf, fBlt, fLenN, fTup, fO, oLst, aNil, aCons, fSl, pNone, pSome, intD, fPop, ownAt, iSeq, iRange1, iRange2, iEnum1, fdivI, cmpI, ltD, leD, gtD, geD, lenL, gUn, tsCons, tsNil, List.getElem?_cons_zero, List.getElem?_cons_succ, List.set_cons_zero, List.set_cons_succ, List.length_cons, List.length_nil, hs, Fl.fin]
/-! ### the law's own table -/
def ltIn : En → Fl := (bSeq (sAsg (fLate 2 subD (fVar 5)) (setD 6)) (bSeq (sIf (fTst boolD (fBin neD (fLate 0 subD (fVar 3)) (fLate 1 subD (fVar 5)))) (bSeq (sAsg (fBin addD (fVar 6) (fC (.int 1))) (setD 6)) bNil) bNil) (bSeq (sApp 4 (fBlt minL (aCons (fO (oLst (aCons (fVar 6) (aCons (fBin addD (fLate 2 subD (fBin addD (fVar 5) (fC (.int 1)))) (fC (.int 1))) (aCons (fBin addD (fLate 4 subD (fVar 5)) (fC (.int 1))) aNil))))) aNil))) bNil)))
theorem minL3_is (i j k : Nat) : minL [.lst [.int (i : Nat), .int (j : Nat), .int (k : Nat)]] = some (.int ((min (min i j) k : Nat) : Int)) := by
  show (intsOf [.int (i : Nat), .int (j : Nat), .int (k : Nat)]).bind (fun ns => (ns.min?).map D.int) = _
  show ((some [(i : Int), (j : Int), (k : Int)]).bind (fun ns => (ns.min?).map D.int)) = _
  rw [Option.bind_some]
  have : ([(i : Int), (j : Int), (k : Int)]).min? = some (min (min (i : Int) j) k) := by rfl
  rw [this]
  show some (D.int _) = _
  congr 2
  omega
theorem lt_in_step {f b : Str} {ra : List Nat} {i : Nat} {j : Nat} {x2 x6 x5 : Sl} (hf : f.length ≤ 1000) (hb : b.length ≤ 1000) (hi : i < (tx f).length) (hj : j < (tx b).length) (hx : x2 = .own ((rI ra (tx b)).map D.int) ∨ x2 = .d (.lst ((rI ra (tx b)).map D.int))) :
    ∃ y6, (setD 5 (.int (j : Nat)) [.d (.str f), .d (.str b), x2, .d (.int (i : Nat)), .own (((rI ((tx f)[i] :: ra) (tx b)).take (j + 1)).map D.int), x5, x6]).seq ltIn =
      .nx [.d (.str f), .d (.str b), x2, .d (.int (i : Nat)), .own (((rI ((tx f)[i] :: ra) (tx b)).take (j + 1 + 1)).map D.int), .d (.int (j : Nat)), y6] := by
  have hlm : (1002 : Nat) < lim := by decide
  have h1 := rI_sub (ra := ra) (b := tx b) (j := j) (by omega)
  have h2 := rI_sub (ra := ra) (b := tx b) (j := j + 1) (by omega)
  have h3 := rI_take_sub (ra := (tx f)[i] :: ra) (b := tx b) (j := j) (k := j + 1) (by omega) (by omega)
  have h4 := lev_next (tx f)[i] ra hj
  have h5 := rI_snoc (ra := (tx f)[i] :: ra) (b := tx b) (j := j + 1) (by omega)
  have h6 := ne_ch (tx f)[i] (tx b)[j]
  have s1 := subS (by omega) hi
  have s2 := subS (by omega) hj
  have hlen : (((rI ((tx f)[i] :: ra) (tx b)).take (j + 1)).map D.int).length < lim := by
    rw [List.length_map, List.length_take, rI_len]
    rw [tx_len] at hj
    omega
  rw [h5, h4]
  generalize (tx f)[i] = c at *
  generalize (tx b)[j] = e at *
  generalize (rI (c :: ra) (tx b)).take (j + 1) = row at *
  generalize (rI ra (tx b)) = above at *
  generalize lev ra ((tx b).take j).reverse = p at *
  generalize lev ra ((tx b).take (j + 1)).reverse = q at *
  generalize lev (c :: ra) ((tx b).take j).reverse = r at *
  have h8 := minL3_is (p + if c = e then 0 else 1) (q + 1) (r + 1)
  have a1 : addD (.int (p : Int)) (.int 1) = some (.int ((p + 1 : Nat) : Int)) := rfl
  have a2 : addD (.int (q : Int)) (.int 1) = some (.int ((q + 1 : Nat) : Int)) := rfl
  have a3 : addD (.int (r : Int)) (.int 1) = some (.int ((r + 1 : Nat) : Int)) := rfl
  have a4 : addD (.int (j : Int)) (.int 1) = some (.int ((j + 1 : Nat) : Int)) := rfl
  rw [List.length_map] at hlen
  have l3 : 3 ≤ lim := by decide
  refine ⟨.d (.int ((p + if c = e then 0 else 1 : Nat) : Int)), ?_⟩
  by_cases z : c = e
  · simp only [if_pos z, Nat.add_zero] at *
    have z' : (!decide (c = e)) = false := by simp [z]
    rw [z'] at h6
    generalize ((min (min p (q + 1)) (r + 1) : Nat) : Int) = M at *
    generalize ((q + 1 : Nat) : Int) = Q1 at *
    generalize ((r + 1 : Nat) : Int) = R1 at *
    generalize ((j + 1 : Nat) : Int) = J1 at *
    generalize (p : Int) = P at *
    generalize (q : Int) = Q at *
    generalize (r : Int) = R at *
    generalize (j : Int) = J at *
    generalize (i : Int) = I at *
    unfold ltIn
    rcases hx with rfl | rfl <;> simp [seq_bNil, bSeq, bNil, sAsg, sAsgO, setO, setD, sIf, sRet, sDrop, sFor, sApp, fC, fVar, fBin, fLate, slotD, fTst, boolD, fAnd, fOr, fNot, fUn, negD, fIf, fBlt, fLenN, fTup, fO, oLst, aNil, aCons, fSl, pNone, pSome, intD, fPop, ownAt, iSeq, iRange1, iRange2, iEnum1, fdivI, cmpI, ltD, leD, gtD, geD, lenL, gUn, tsCons, tsNil, List.getElem?_cons_zero, List.getElem?_cons_succ, List.set_cons_zero, List.set_cons_succ, List.length_cons, List.length_nil, h1, h2, h3, h6, h8, s1, s2, a1, a2, a3, a4, hlen, l3]
  · simp only [if_neg z] at *
    have z' : (!decide (c = e)) = true := by simp [z]
    rw [z'] at h6
    generalize ((min (min (p + 1) (q + 1)) (r + 1) : Nat) : Int) = M at *
    generalize ((p + 1 : Nat) : Int) = P1 at *
    generalize ((q + 1 : Nat) : Int) = Q1 at *
    generalize ((r + 1 : Nat) : Int) = R1 at *
    generalize ((j + 1 : Nat) : Int) = J1 at *
    generalize (p : Int) = P at *
    generalize (q : Int) = Q at *
    generalize (r : Int) = R at *
    generalize (j : Int) = J at *
    generalize (i : Int) = I at *
    unfold ltIn
    rcases hx with rfl | rfl <;> simp [seq_bNil, bSeq, bNil, sAsg, sAsgO, setO, setD, sIf, sRet, sDrop, sFor, sApp, fC, fVar, fBin, fLate, slotD, fTst, boolD, fAnd, fOr, fNot, fUn, negD, fIf, fBlt, fLenN, fTup, fO, oLst, aNil, aCons, fSl, pNone, pSome, intD, fPop, ownAt, iSeq, iRange1, iRange2, iEnum1, fdivI, cmpI, ltD, leD, gtD, geD, lenL, gUn, tsCons, tsNil, List.getElem?_cons_zero, List.getElem?_cons_succ, List.set_cons_zero, List.set_cons_succ, List.length_cons, List.length_nil, h1, h2, h3, h6, h8, s1, s2, a1, a2, a3, a4, hlen, l3]
/-- [k for k in range(n)] -/
theorem lcGo_id : ∀ (ds acc : List D) (a b c d e f : Sl), acc.length + ds.length ≤ lim → lcGo (setD 5) tYesD (fVar 5) [5] ds acc [a, b, c, d, e, .un, f] = .ok (acc ++ ds) [a, b, c, d, e, .un, f]
  | [], acc, a, b, c, d, e, f, _ => by simp [lcGo]
  | x :: r, acc, a, b, c, d, e, f, h => by
    simp only [List.length_cons] at h
    have ih := lcGo_id r (acc ++ [x]) a b c d e f (by rw [List.length_append, List.length_singleton]; omega)
    have hl : acc.length < lim := by omega
    simp [lcGo, setD, tYesD, fVar, hl, wipeE, ih]
theorem law_table_is {a b : Str} (ha : a.length ≤ 1000) (hb : b.length ≤ 1000) : den__law_table [.str a, .str b] = .ok (.int (lev (tx a).reverse (tx b).reverse : Nat)) := by
  have hlim : (1002 : Nat) < lim := by decide
  unfold den__law_table
  rw [fnD_app (ds := [.str a, .str b]) (by rfl : _ = 2)]
  show (bod__law_table [.d (.str a), .d (.str b), .un, .un, .un, .un, .un]).fin = _
  have hlenb : lenOf (.str b) = some (.int ((tx b).length : Nat)) := by
    show (if b.length ≤ lim then some (D.int b.length) else none) = _
    rw [if_pos (by omega), tx_len]
  have hlena : lenOf (.str a) = some (.int ((tx a).length : Nat)) := by
    show (if a.length ≤ lim then some (D.int a.length) else none) = _
    rw [if_pos (by omega), tx_len]
  have z62 : (1002 : Nat) < 2 ^ 62 := by decide
  have la : (tx a).length ≤ 1000 := by rw [tx_len]; exact ha
  have lb : (tx b).length ≤ 1000 := by rw [tx_len]; exact hb
  have hRb1 : okR (((tx b).length + 1 : Nat) : Int) = true := okR_nat (by omega)
  have hRb : okR (((tx b).length : Nat) : Int) = true := okR_nat (by omega)
  have hRa : okR (((tx a).length : Nat) : Int) = true := okR_nat (by omega)
  have e0 : sAsgO (fLc (iRange1 (aCons (fBin addD (fLenN 1) (fC (.int 1))) aNil)) (setD 5) tYesD (fVar 5) [5]) 2 [.d (.str a), .d (.str b), .un, .un, .un, .un, .un] = .nx [.d (.str a), .d (.str b), .own ((rI [] (tx b)).map D.int), .un, .un, .un, .un] := by
    rw [rI_nil]
    have a1 : addD (.int ((tx b).length : Nat)) (.int 1) = some (.int (((tx b).length + 1 : Nat) : Int)) := rfl
    have go := lcGo_id (dRange 0 ((tx b).length + 1)) [] (.d (.str a)) (.d (.str b)) .un .un .un .un (by rw [dRange_len, List.length_nil]; omega)
    have e1 : iRange1 (aCons (fBin addD (fLenN 1) (fC (.int 1))) aNil) [.d (.str a), .d (.str b), .un, .un, .un, .un, .un] = .ok (dRange 0 ((tx b).length + 1)) [.d (.str a), .d (.str b), .un, .un, .un, .un, .un] := by
      generalize hn : ((tx b).length + 1) = n at *
      simp [seq_bNil, bSeq, bNil, sAsg, sAsgO, setO, setD, sIf, sRet, sDrop, sFor, sApp, fC, fVar, fBin, fLate, slotD, fTst, boolD, fAnd, fOr, fNot, fUn, negD, fIf, fBlt, fLenN, fTup, fO, oLst, aNil, aCons, fSl, pNone, pSome, intD, fPop, ownAt, iSeq, iRange1, iRange2, iEnum1, fdivI, cmpI, ltD, leD, gtD, geD, lenL, gUn, tsCons, tsNil, List.getElem?_cons_zero, List.getElem?_cons_succ, List.set_cons_zero, List.set_cons_succ, List.length_cons, List.length_nil, hlenb, a1, hRb1]
    unfold sAsgO fLc
    rw [e1, Res.bind_ok]
    show (lcGo (setD 5) tYesD (fVar 5) [5] _ [] [.d (.str a), .d (.str b), .un, .un, .un, .un, .un]).fl _ = _
    rw [go]
    simp [setO]
  have e1 : ∀ L : En → Fl, ∀ ρ0 : En, slotD ρ0 0 = some (.str a) → sFor (iRange1 (aCons (fLenN 0) aNil)) (setD 3) L ρ0 = forD (setD 3) L (dRange 0 (tx a).length) ρ0 := fun L ρ0 h0 => by
    simp [sFor, iRange1, aCons, aNil, fLenN, h0, hlena, hRa]
  have p2 : ∀ ρ0 : En, slotD ρ0 1 = some (.str b) → sFor (iRange1 (aCons (fLenN 1) aNil)) (setD 5) ltIn ρ0 = forD (setD 5) ltIn (dRange 0 (tx b).length) ρ0 := fun ρ0 h0 => by
    simp [sFor, iRange1, aCons, aNil, fLenN, h0, hlenb, hRb]
  have step : ∀ (i : Nat) (hi : i < (tx a).length) (x2 x3 x4 x5 x6 : Sl), (x2 = .own ((rI ((tx a).take i).reverse (tx b)).map D.int) ∨ x2 = .d (.lst ((rI ((tx a).take i).reverse (tx b)).map D.int))) →
      ∃ y4 y5 y6, (setD 3 (.int (i : Nat)) [.d (.str a), .d (.str b), x2, x3, x4, x5, x6]).seq (bSeq (sAsgO (oLst (aCons (fBin addD (fVar 3) (fC (.int 1))) aNil)) 4) (bSeq (sFor (iRange1 (aCons (fLenN 1) aNil)) (setD 5) ltIn) (bSeq (sAsg (fVar 4) (setD 2)) bNil))) =
        .nx [.d (.str a), .d (.str b), .d (.lst ((rI ((tx a).take (i + 1)).reverse (tx b)).map D.int)), .d (.int (i : Nat)), y4, y5, y6] := by
    intro i hi x2 x3 x4 x5 x6 hx2
    rw [take_rev hi]
    have hrl : ((tx a).take i).reverse.length = i := by rw [List.length_reverse, List.length_take]; omega
    generalize ((tx a).take i).reverse = ra at *
    have p1 : (setD 3 (.int (i : Nat)) [.d (.str a), .d (.str b), x2, x3, x4, x5, x6]).seq (sAsgO (oLst (aCons (fBin addD (fVar 3) (fC (.int 1))) aNil)) 4) =
        .nx [.d (.str a), .d (.str b), x2, .d (.int (i : Nat)), .own [.int ((i + 1 : Nat) : Int)], x5, x6] := by
      have a4 : addD (.int (i : Int)) (.int 1) = some (.int ((i + 1 : Nat) : Int)) := rfl
      have z : (1 : Nat) ≤ lim := by decide
      generalize ((i + 1 : Nat) : Int) = I1 at *
      simp [seq_bNil, bSeq, bNil, sAsg, sAsgO, setO, setD, sIf, sRet, sDrop, sFor, sApp, fC, fVar, fBin, fLate, slotD, fTst, boolD, fAnd, fOr, fNot, fUn, negD, fIf, fBlt, fLenN, fTup, fO, oLst, aNil, aCons, fSl, pNone, pSome, intD, fPop, ownAt, iSeq, iRange1, iRange2, iEnum1, fdivI, cmpI, ltD, leD, gtD, geD, lenL, gUn, tsCons, tsNil, List.getElem?_cons_zero, List.getElem?_cons_succ, List.set_cons_zero, List.set_cons_succ, List.length_cons, List.length_nil, a4, z]
    obtain ⟨ρ', e, hle, y5, y6, rfl⟩ := forD_thru (g := setD 5) (f := ltIn) (ds := dRange 0 (tx b).length) (ρ := [.d (.str a), .d (.str b), x2, .d (.int (i : Nat)), .own [.int ((i + 1 : Nat) : Int)], x5, x6])
      (fun j ρ => j ≤ (tx b).length ∧ ∃ y5 y6, ρ = [.d (.str a), .d (.str b), x2, .d (.int (i : Nat)), .own (((rI ((tx a)[i] :: ra) (tx b)).take (j + 1)).map D.int), y5, y6]) (fun j d ρ hd ⟨hj, y5, y6, hρ⟩ => by
        subst hρ
        obtain ⟨hjl, rfl⟩ := dRange_inv0 hd
        obtain ⟨z6, hz⟩ := lt_in_step (x5 := y5) (x6 := y6) ha hb hi hjl hx2
        exact ⟨_, .inl hz, by omega, _, _, rfl⟩) ⟨by omega, x5, x6, by rw [rI_take1, List.length_cons, hrl]; rfl⟩
    rw [dRange_len, List.take_of_length_le (Nat.le_of_eq (rI_len _ _))] at e
    refine ⟨.d (.lst ((rI ((tx a)[i] :: ra) (tx b)).map D.int)), y5, y6, ?_⟩
    rw [seq_bSeq, p1, Fl.seq_nx, bSeq_app, p2 _ rfl, e, Fl.seq_nx]
    simp [seq_bNil, bSeq, bNil, sAsg, sAsgO, setO, setD, sIf, sRet, sDrop, sFor, sApp, fC, fVar, fBin, fLate, slotD, fTst, boolD, fAnd, fOr, fNot, fUn, negD, fIf, fBlt, fLenN, fTup, fO, oLst, aNil, aCons, fSl, pNone, pSome, intD, fPop, ownAt, iSeq, iRange1, iRange2, iEnum1, fdivI, cmpI, ltD, leD, gtD, geD, lenL, gUn, tsCons, tsNil, List.getElem?_cons_zero, List.getElem?_cons_succ, List.set_cons_zero, List.set_cons_succ, List.length_cons, List.length_nil]
  obtain ⟨ρ', e, hle, y2, y3, y4, y5, y6, hy2, rfl⟩ := forD_thru (g := setD 3) (f := (bSeq (sAsgO (oLst (aCons (fBin addD (fVar 3) (fC (.int 1))) aNil)) 4) (bSeq (sFor (iRange1 (aCons (fLenN 1) aNil)) (setD 5) ltIn) (bSeq (sAsg (fVar 4) (setD 2)) bNil)))) (ds := dRange 0 (tx a).length)
    (ρ := [.d (.str a), .d (.str b), .own ((rI [] (tx b)).map D.int), .un, .un, .un, .un])
    (fun i ρ => i ≤ (tx a).length ∧ ∃ y2 y3 y4 y5 y6, (y2 = .own ((rI ((tx a).take i).reverse (tx b)).map D.int) ∨ y2 = .d (.lst ((rI ((tx a).take i).reverse (tx b)).map D.int))) ∧ ρ = [.d (.str a), .d (.str b), y2, y3, y4, y5, y6]) (fun i d ρ hd ⟨hi, y2, y3, y4, y5, y6, hy2, hρ⟩ => by
      subst hρ
      obtain ⟨hil, rfl⟩ := dRange_inv0 hd
      obtain ⟨z4, z5, z6, hz⟩ := step i hil y2 y3 y4 y5 y6 hy2
      exact ⟨_, .inl hz, by omega, _, _, _, _, _, .inr rfl, rfl⟩) ⟨by omega, _, _, _, _, _, .inl rfl, rfl⟩
  rw [dRange_len, List.take_of_length_le (Nat.le_refl _)] at hy2
  show (bSeq _ (bSeq _ _) _).fin = _
  rw [bSeq_app, e0, Fl.seq_nx, bSeq_app, e1 _ _ rfl]
  have ef := e
  unfold ltIn at ef
  rw [ef, Fl.seq_nx]
  have hs := rI_sub (ra := (tx a).reverse) (b := tx b) (j := (tx b).length) (Nat.le_refl _)
  rw [List.take_of_length_le (Nat.le_refl _)] at hs
  rcases hy2 with rfl | rfl <;> simp [seq_bNil, bSeq, bNil, sAsg, sAsgO, setO, setD, sIf, sRet, sDrop, sFor, sApp, fC, fVar, fBin, fLate, slotD, fTst, boolD, fAnd, fOr, fNot, fUn, negD, fIf, fBlt, fLenN, fTup, fO, oLst, aNil, aCons, fSl, pNone, pSome, intD, fPop, ownAt, iSeq, iRange1, iRange2, iEnum1, fdivI, cmpI, ltD, leD, gtD, geD, lenL, gUn, tsCons, tsNil, List.getElem?_cons_zero, List.getElem?_cons_succ, List.set_cons_zero, List.set_cons_succ, List.length_cons, List.length_nil, hs, hlenb, Fl.fin]
end G
set_option Elab.async false
set_option linter.all false
set_option maxRecDepth 100000
set_option maxHeartbeats 4000000
/-! Q44: what the law asks and what is due. -/
namespace G
open PySem PySem.Spec L2 PD LV
abbrev dist (a b : Str) : Nat := lev (tx a).reverse (tx b).reverse
theorem text_distance_ok {a b : Str} (ha : a.length ≤ 1000) (hb : b.length ≤ 1000) (h1 : badF 60 0 (tx a) < 0) (h2 : badF 60 0 (tx b) < 0) : den_text_distance [.str a, .str b] = .ok (.int (dist a b : Nat)) := by
  unfold den_text_distance
  rw [fnD_app (ds := [.str a, .str b]) (by rfl : _ = 2)]
  show (bod_text_distance [.d (.str a), .d (.str b)]).fin = _
  unfold bod_text_distance
  simp [seq_bNil, bSeq, bNil, sAsg, sAsgO, setO, setD, sIf, sRet, sDrop, sFor, sApp, fC, fVar, fBin, fLate, slotD, fTst, boolD, fAnd, fOr, fNot, fUn, negD, fIf, fBlt, fLenN, fTup, fO, oLst, aNil, aCons, fSl, pNone, pSome, intD, fPop, ownAt, iSeq, iRange1, iRange2, iEnum1, addD, subI, modI, fdivI, cmpI, ltD, leD, gtD, geD, lenOf, lenL, intL, gUn, tsCons, tsNil, List.getElem?_cons_zero, List.getElem?_cons_succ, List.set_cons_zero, List.set_cons_succ, List.length_cons, List.length_nil, fCall, check_ok h1, check_ok h2, letter_changes_is ha hb, Fl.fin]
theorem text_distance_b1 {a b : Str} (h1 : ¬ badF 60 0 (tx a) < 0) : den_text_distance [.str a, .str b] = .exc ⟨"BadText", [("place", .int (badF 60 0 (tx a)))]⟩ := by
  unfold den_text_distance
  rw [fnD_app (ds := [.str a, .str b]) (by rfl : _ = 2)]
  show (bod_text_distance [.d (.str a), .d (.str b)]).fin = _
  unfold bod_text_distance
  simp [seq_bNil, bSeq, bNil, sAsg, sAsgO, setO, setD, sIf, sRet, sDrop, sFor, sApp, fC, fVar, fBin, fLate, slotD, fTst, boolD, fAnd, fOr, fNot, fUn, negD, fIf, fBlt, fLenN, fTup, fO, oLst, aNil, aCons, fSl, pNone, pSome, intD, fPop, ownAt, iSeq, iRange1, iRange2, iEnum1, addD, subI, modI, fdivI, cmpI, ltD, leD, gtD, geD, lenOf, lenL, intL, gUn, tsCons, tsNil, List.getElem?_cons_zero, List.getElem?_cons_succ, List.set_cons_zero, List.set_cons_succ, List.length_cons, List.length_nil, fCall, check_bad h1, Fl.fin]
theorem text_distance_b2 {a b : Str} (h1 : badF 60 0 (tx a) < 0) (h2 : ¬ badF 60 0 (tx b) < 0) : den_text_distance [.str a, .str b] = .exc ⟨"BadText", [("place", .int (badF 60 0 (tx b)))]⟩ := by
  unfold den_text_distance
  rw [fnD_app (ds := [.str a, .str b]) (by rfl : _ = 2)]
  show (bod_text_distance [.d (.str a), .d (.str b)]).fin = _
  unfold bod_text_distance
  simp [seq_bNil, bSeq, bNil, sAsg, sAsgO, setO, setD, sIf, sRet, sDrop, sFor, sApp, fC, fVar, fBin, fLate, slotD, fTst, boolD, fAnd, fOr, fNot, fUn, negD, fIf, fBlt, fLenN, fTup, fO, oLst, aNil, aCons, fSl, pNone, pSome, intD, fPop, ownAt, iSeq, iRange1, iRange2, iEnum1, addD, subI, modI, fdivI, cmpI, ltD, leD, gtD, geD, lenOf, lenL, intL, gUn, tsCons, tsNil, List.getElem?_cons_zero, List.getElem?_cons_succ, List.set_cons_zero, List.set_cons_succ, List.length_cons, List.length_nil, fCall, check_ok h1, check_bad h2, Fl.fin]
/-- what is due -/
def due (a b : Str) : D := if ¬ badF 60 0 (tx a) < 0 then .lst [.str "bad", .int (badF 60 0 (tx a))] else if ¬ badF 60 0 (tx b) < 0 then .lst [.str "bad", .int (badF 60 0 (tx b))] else .lst [.str "told", .int (dist a b : Nat)]
theorem asked_exc {a b : Str} {p : Int} (h : den_text_distance [.str a, .str b] = .exc ⟨"BadText", [("place", .int p)]⟩) : den__law_asked [.str a, .str b] = .ok (.lst [.str "bad", .int p]) := by
  unfold den__law_asked
  rw [fnD_app (ds := [.str a, .str b]) (by rfl : _ = 2)]
  show (bod__law_asked [.d (.str a), .d (.str b), .un]).fin = _
  have l2 : 2 ≤ lim := by decide
  unfold bod__law_asked
  simp [seq_bNil, bSeq, bNil, sAsg, sAsgO, setO, setD, sIf, sRet, sDrop, sFor, sApp, fC, fVar, fBin, fLate, slotD, fTst, boolD, fAnd, fOr, fNot, fUn, negD, fIf, fBlt, fLenN, fTup, fO, oLst, aNil, aCons, fSl, pNone, pSome, intD, fPop, ownAt, iSeq, iRange1, iRange2, iEnum1, addD, subI, modI, fdivI, cmpI, ltD, leD, gtD, geD, lenOf, lenL, intL, gUn, tsCons, tsNil, List.getElem?_cons_zero, List.getElem?_cons_succ, List.set_cons_zero, List.set_cons_succ, List.length_cons, List.length_nil, fCall, fTry, h, ex_Fault, List.lookup, noX, unX, fIsE, is_BadText, is_ValueError, is_TooMany, fXf, ok_place, l2, Fl.out, Fl.fin]
theorem asked_is {a b : Str} (ha : a.length ≤ 1000) (hb : b.length ≤ 1000) : den__law_asked [.str a, .str b] = .ok (due a b) := by
  unfold due
  by_cases h1 : badF 60 0 (tx a) < 0
  · rw [if_neg (fun z => z h1)]
    by_cases h2 : badF 60 0 (tx b) < 0
    · rw [if_neg (fun z => z h2)]
      unfold den__law_asked
      rw [fnD_app (ds := [.str a, .str b]) (by rfl : _ = 2)]
      show (bod__law_asked [.d (.str a), .d (.str b), .un]).fin = _
      have l2 : 2 ≤ lim := by decide
      unfold bod__law_asked
      simp [seq_bNil, bSeq, bNil, sAsg, sAsgO, setO, setD, sIf, sRet, sDrop, sFor, sApp, fC, fVar, fBin, fLate, slotD, fTst, boolD, fAnd, fOr, fNot, fUn, negD, fIf, fBlt, fLenN, fTup, fO, oLst, aNil, aCons, fSl, pNone, pSome, intD, fPop, ownAt, iSeq, iRange1, iRange2, iEnum1, addD, subI, modI, fdivI, cmpI, ltD, leD, gtD, geD, lenOf, lenL, intL, gUn, tsCons, tsNil, List.getElem?_cons_zero, List.getElem?_cons_succ, List.set_cons_zero, List.set_cons_succ, List.length_cons, List.length_nil, fCall, fTry, text_distance_ok ha hb h1 h2, l2, Fl.out, Fl.fin]
    · rw [if_pos h2]
      exact asked_exc (text_distance_b2 h1 h2)
  · rw [if_pos h1]
    exact asked_exc (text_distance_b1 h1)
theorem due_is {a b : Str} (ha : a.length ≤ 1000) (hb : b.length ≤ 1000) : den__law_due [.str a, .str b] = .ok (due a b) := by
  have hlim : (1002 : Nat) < lim := by decide
  have b1 := bad_place_is (x := a) (by omega)
  have b2 := bad_place_is (x := b) (by omega)
  have l2 : 2 ≤ lim := by decide
  unfold den__law_due
  rw [fnD_app (ds := [.str a, .str b]) (by rfl : _ = 2)]
  show (bod__law_due [.d (.str a), .d (.str b), .un]).fin = _
  unfold due bod__law_due
  by_cases h1 : badF 60 0 (tx a) < 0
  · have h1' : ¬ 0 ≤ badF 60 0 (tx a) := by omega
    rw [if_neg (fun z => z h1)]
    by_cases h2 : badF 60 0 (tx b) < 0
    · have h2' : ¬ 0 ≤ badF 60 0 (tx b) := by omega
      rw [if_neg (fun z => z h2)]
      simp [seq_bNil, bSeq, bNil, sAsg, sAsgO, setO, setD, sIf, sRet, sDrop, sFor, sApp, fC, fVar, fBin, fLate, slotD, fTst, boolD, fAnd, fOr, fNot, fUn, negD, fIf, fBlt, fLenN, fTup, fO, oLst, aNil, aCons, fSl, pNone, pSome, intD, fPop, ownAt, iSeq, iRange1, iRange2, iEnum1, addD, subI, modI, fdivI, cmpI, ltD, leD, gtD, geD, lenOf, lenL, intL, gUn, tsCons, tsNil, List.getElem?_cons_zero, List.getElem?_cons_succ, List.set_cons_zero, List.set_cons_succ, List.length_cons, List.length_nil, forD, fCall, b1, b2, h1', h2', l2, law_table_is ha hb, Fl.fin]
    · have h2' : 0 ≤ badF 60 0 (tx b) := by omega
      rw [if_pos h2]
      simp [seq_bNil, bSeq, bNil, sAsg, sAsgO, setO, setD, sIf, sRet, sDrop, sFor, sApp, fC, fVar, fBin, fLate, slotD, fTst, boolD, fAnd, fOr, fNot, fUn, negD, fIf, fBlt, fLenN, fTup, fO, oLst, aNil, aCons, fSl, pNone, pSome, intD, fPop, ownAt, iSeq, iRange1, iRange2, iEnum1, addD, subI, modI, fdivI, cmpI, ltD, leD, gtD, geD, lenOf, lenL, intL, gUn, tsCons, tsNil, List.getElem?_cons_zero, List.getElem?_cons_succ, List.set_cons_zero, List.set_cons_succ, List.length_cons, List.length_nil, forD, fCall, b1, b2, h1', h2', l2, Fl.fin]
  · have h1' : 0 ≤ badF 60 0 (tx a) := by omega
    rw [if_pos h1]
    simp [seq_bNil, bSeq, bNil, sAsg, sAsgO, setO, setD, sIf, sRet, sDrop, sFor, sApp, fC, fVar, fBin, fLate, slotD, fTst, boolD, fAnd, fOr, fNot, fUn, negD, fIf, fBlt, fLenN, fTup, fO, oLst, aNil, aCons, fSl, pNone, pSome, intD, fPop, ownAt, iSeq, iRange1, iRange2, iEnum1, addD, subI, modI, fdivI, cmpI, ltD, leD, gtD, geD, lenOf, lenL, intL, gUn, tsCons, tsNil, List.getElem?_cons_zero, List.getElem?_cons_succ, List.set_cons_zero, List.set_cons_succ, List.length_cons, List.length_nil, forD, fCall, b1, h1', l2, Fl.fin]
theorem due_ok (a b : Str) : ok1 (due a b) ∧ D.sz (due a b) < 200000 := by
  unfold due ok1
  split
  · exact ⟨by simp [D.py, D.pyL], by simp [D.sz, D.szL]⟩
  · split
    · exact ⟨by simp [D.py, D.pyL], by simp [D.sz, D.szL]⟩
    · exact ⟨by simp [D.py, D.pyL], by simp [D.sz, D.szL]⟩
theorem same_due (a b : Str) : den__law_same [due a b, due a b] = .ok (.bl true) := same_ok (due_ok a b).1 (due_ok a b).2
/-- a text of letters -/
def Good (x : Str) : Prop := x.length ≤ 60 ∧ ∀ c ∈ tx x, isL c = true
theorem badF_good : ∀ (l : List Nat) (i : Nat), i + l.length ≤ 60 → (∀ c ∈ l, isL c = true) → badF 60 i l = -1
  | [], i, _, _ => rfl
  | c :: r, i, h, hc => by
    simp only [List.length_cons] at h
    unfold badF
    rw [if_neg (fun z => by
      rcases z with z | z
      · omega
      · rw [hc c (List.mem_cons_self ..)] at z; cases z)]
    exact badF_good r (i + 1) (by omega) fun c hc' => hc c (List.mem_cons_of_mem _ hc')
theorem good_neg {x : Str} (h : Good x) : badF 60 0 (tx x) < 0 := by
  rw [badF_good (tx x) 0 (by rw [tx_len]; have := h.1; omega) h.2]
  decide
theorem due_good {a b : Str} (ha : Good a) (hb : Good b) : due a b = .lst [.str "told", .int (dist a b : Nat)] := by
  unfold due
  rw [if_neg (fun z => z (good_neg ha)), if_neg (fun z => z (good_neg hb))]
end G
set_option Elab.async false
set_option linter.all false
set_option maxRecDepth 100000
set_option maxHeartbeats 4000000
/-! R44: the law's draws of texts. -/
namespace G
open PySem PySem.Spec L2 PD LV
abbrev one (c : Nat) : Str := ⟨#[c]⟩
theorem empty_cps : (("" : Str)).cps = #[] := by decide +kernel
theorem fold_cat : ∀ (l : List Str) (a : Array Nat), (l.foldl (fun acc p => acc ++ (("" : Str)).cps ++ p.cps) a).toList = a.toList ++ (l.map tx).flatten
  | [], a => by simp
  | p :: r, a => by
    rw [List.foldl_cons, fold_cat r]
    rw [empty_cps]
    simp [tx]
theorem tx_join (cs : List Nat) : tx (Txt.join "" (cs.map one)) = cs := by
  cases cs with
  | nil => decide +kernel
  | cons c r =>
    have h : tx (Txt.join "" ((c :: r).map one)) = ((r.map one).foldl (fun acc p => acc ++ (("" : Str)).cps ++ p.cps) #[c]).toList := rfl
    rw [h, fold_cat]
    have : ∀ l : List Nat, ((l.map one).map tx).flatten = l := by
      intro l
      induction l with
      | nil => rfl
      | cons a r ih => rw [List.map_cons, List.map_cons, List.flatten_cons, ih]; rfl
    rw [this]
    rfl
theorem strsOf_ones : ∀ cs : List Nat, strsOf (cs.map ch) = some (cs.map one)
  | [] => rfl
  | c :: r => by
    show (strsOf (r.map ch)).map (fun l => one c :: l) = _
    rw [strsOf_ones r]
    rfl
theorem joinD_is {cs : List Nat} (h : cs.length ≤ 1000) : joinD "" (.lst (cs.map ch)) = some (.str (Txt.join "" (cs.map one))) := by
  show (some (cs.map ch)).bind (fun xs => (strsOf xs).bind fun ys => if (ys.map (·.length)).sum + ys.length * (("" : Str)).length ≤ lim then some (D.str (Txt.join "" ys)) else none) = _
  rw [Option.bind_some, strsOf_ones, Option.bind_some]
  have e0 : (("" : Str)).length = 0 := by decide +kernel
  have e1 : ∀ l : List Nat, ((l.map one).map (·.length)).sum = l.length := by
    intro l
    induction l with
    | nil => rfl
    | cons a r ih => rw [List.map_cons, List.map_cons, List.sum_cons, ih, List.length_cons]; show 1 + _ = _; omega
  rw [e0, e1, if_pos (by have : (1002 : Nat) < lim := by decide
                         omega)]
/-- ints from 0 to 996, 260 of them -/
def Row (row : List Int) : Prop := row.length = 260 ∧ ∀ r ∈ row, 0 ≤ r ∧ r < 997
theorem row_at {row : List Int} (h : Row row) {i : Int} (h0 : 0 ≤ i) (h1 : i < 260) : ∃ r, 0 ≤ r ∧ r < 997 ∧ subD (.lst (row.map D.int)) (.int i) = some (.int r) := by
  obtain ⟨r, hr, e⟩ := subD_int (ns := row) h0 (by rw [h.1]; exact h1)
  exact ⟨r, (h.2 r hr).1, (h.2 r hr).2, e⟩
/-- a pool of letters -/
def Pool (p : Str) : Prop := 0 < p.length ∧ p.length ≤ 26 ∧ ∀ c ∈ tx p, isL c = true
theorem pool_at {p : Str} (h : Pool p) (r : Int) : ∃ c, isL c = true ∧ subD (.str p) (.int (r % (p.length : Nat))) = some (ch c) := by
  have h1 := h.1
  have n0 := Int.emod_nonneg r (b := (p.length : Nat)) (by omega)
  have n1 := Int.emod_lt_of_pos r (b := (p.length : Nat)) (by omega)
  obtain ⟨k, hk⟩ : ∃ k : Nat, r % (p.length : Nat) = (k : Int) := ⟨(r % (p.length : Nat)).toNat, by omega⟩
  have hl : k < (tx p).length := by rw [tx_len]; omega
  have : (1002 : Nat) < lim := by decide
  refine ⟨(tx p)[k], h.2.2 _ (List.getElem_mem hl), ?_⟩
  rw [hk]
  exact subS (by have := h.2.1; omega) hl
theorem lenOf_str {p : Str} (h : p.length ≤ 1000) : lenOf (.str p) = some (.int (p.length : Nat)) := by
  show (if p.length ≤ lim then some (D.int p.length) else none) = _
  have : (1002 : Nat) < lim := by decide
  rw [if_pos (by omega)]
theorem lcGo_chs {te : En → Res D} {N : List D} {a b c d e : Sl} (h : ∀ (k : Nat) (hk : k < 1000), (.int (k : Nat)) ∈ N → ∃ y, isL y = true ∧ te [a, b, c, d, e, .d (.int (k : Nat))] = .ok (ch y) [a, b, c, d, e, .d (.int (k : Nat))]) :
    ∀ (ds : List D) (acc : List Nat), (∀ x ∈ ds, x ∈ N ∧ ∃ k : Nat, k < 1000 ∧ x = .int (k : Nat)) → acc.length + ds.length ≤ lim → (∀ y ∈ acc, isL y = true) →
      ∃ cs : List Nat, lcGo (setD 5) tYesD te [5] ds (acc.map ch) [a, b, c, d, e, .un] = .ok (cs.map ch) [a, b, c, d, e, .un] ∧ cs.length = acc.length + ds.length ∧ ∀ y ∈ cs, isL y = true
  | [], acc, _, _, hacc => ⟨acc, rfl, rfl, hacc⟩
  | x :: r, acc, hds, hl, hacc => by
    simp only [List.length_cons] at hl
    obtain ⟨hN, k, hk, rfl⟩ := hds x (List.mem_cons_self ..)
    obtain ⟨y, hy, hte⟩ := h k hk hN
    obtain ⟨cs, e1, e2, e3⟩ := lcGo_chs h r (acc ++ [y]) (fun z hz => hds z (List.mem_cons_of_mem _ hz)) (by rw [List.length_append, List.length_singleton]; omega) (fun z hz => by
      rcases List.mem_append.mp hz with q | q
      · exact hacc z q
      · rw [List.mem_singleton.mp q]; exact hy)
    refine ⟨cs, ?_, by rw [e2, List.length_append, List.length_singleton, List.length_cons]; omega, e3⟩
    rw [← e1]
    have hl2 : acc.length < lim := by omega
    simp [lcGo, setD, tYesD, hte, hl2, wipeE]
theorem mod_ii {i j : Int} (h : 0 < j) : modI (.int i) (.int j) = some (.int (i % j)) := if_pos h
theorem add_ii (i j : Int) : addD (.int i) (.int j) = some (.int (i + j)) := rfl
theorem fdiv_ii {i j : Int} (h : 0 < j) (h2 : j < 1000) : fdivI (.int i) (.int j) = some (.int (i / j)) := by
  show (if (decide (0 < j) && decide (j.natAbs < 2 ^ 64)) = true then some (D.int (i / j)) else none) = _
  have h3 : j.natAbs < 2 ^ 64 := by
    have : (1000 : Nat) < 2 ^ 64 := by decide
    omega
  rw [decide_eq_true h, decide_eq_true h3]
  rfl
theorem int_i (i : Int) : intL [.int i] = some (.int i) := rfl
theorem sizes_at {a b c d : Int} (ha : 0 ≤ a ∧ a ≤ 60) (hb : 0 ≤ b ∧ b ≤ 60) (hc : 0 ≤ c ∧ c ≤ 60) (hd : 0 ≤ d ∧ d ≤ 60) {k : Int} (h0 : 0 ≤ k) (h1 : k < 8) :
    ∃ s : Nat, s ≤ 60 ∧ subD (.lst [.int 0, .int 1, .int 59, .int 60, .int a, .int b, .int c, .int d]) (.int k) = some (.int (s : Nat)) := by
  obtain ⟨r, hr, e⟩ := subD_int (ns := [0, 1, 59, 60, a, b, c, d]) h0 (by simpa using h1)
  have h : 0 ≤ r ∧ r ≤ 60 := by
    simp only [List.mem_cons, List.not_mem_nil, or_false] at hr
    rcases hr with rfl | rfl | rfl | rfl | rfl | rfl | rfl | rfl <;> first | assumption | omega
  refine ⟨r.toNat, by omega, ?_⟩
  have e2 : ((r.toNat : Nat) : Int) = r := by omega
  rw [e2]
  exact e
theorem m_bd (r : Int) {m : Int} (h : 0 < m) : 0 ≤ r % m ∧ r % m < m := ⟨Int.emod_nonneg r (by omega), Int.emod_lt_of_pos r h⟩
theorem word_ok {row : List Int} (hr : Row row) {p : Str} (hp : Pool p) {at_ : Nat} (hat : at_ ≤ 190) : ∃ w : Str, Good w ∧ den__law_word [.lst (row.map D.int), .int (at_ : Nat), .str p] = .ok (.str w) := by
  have hlim : (1002 : Nat) < lim := by decide
  unfold den__law_word
  rw [fnD_app (ds := [.lst (row.map D.int), .int (at_ : Nat), .str p]) (by rfl : _ = 3)]
  show ∃ w : Str, Good w ∧ (bod__law_word [.d (.lst (row.map D.int)), .d (.int (at_ : Nat)), .d (.str p), .un, .un, .un]).fin = _
  obtain ⟨r0, _, _, e0⟩ := row_at hr (i := (at_ : Int)) (by omega) (by omega)
  obtain ⟨r1, _, _, e1⟩ := row_at hr (i := (at_ : Int) + 1) (by omega) (by omega)
  obtain ⟨r2, _, _, e2⟩ := row_at hr (i := (at_ : Int) + 2) (by omega) (by omega)
  have m61 := m_bd r0 (m := 61) (by decide)
  have m12 := m_bd r0 (m := 12) (by decide)
  have m30 := m_bd r0 (m := 30) (by decide)
  have m8 := m_bd r1 (m := 8) (by decide)
  have m4 := m_bd r2 (m := 4) (by decide)
  obtain ⟨s, hs, es⟩ := sizes_at (a := r0 % 61) (b := r0 % 12) (c := r0 % 30) (d := r0 % 61) ⟨m61.1, by omega⟩ ⟨m12.1, by omega⟩ ⟨m30.1, by omega⟩ ⟨m61.1, by omega⟩ m8.1 m8.2
  have run0 : 0 < 1 + r2 % 4 := by omega
  have run1 : 1 + r2 % 4 < 1000 := by omega
  generalize hrun : 1 + r2 % 4 = run at *
  have l8 : 8 ≤ lim := by decide
  have hlp := lenOf_str (p := p) (by have := hp.2.1; omega)
  have hRs : okR ((s : Nat) : Int) = true := okR_nat (by have : (1002 : Nat) < 2 ^ 62 := by decide
                                                         omega)
  have a1 := add_ii 1 (r2 % 4)
  rw [hrun] at a1
  have st1 : (bSeq (sAsg (fBin subD (fO (oLst (aCons (fC (.int 0)) (aCons (fC (.int 1)) (aCons (fC (.int 59)) (aCons (fC (.int 60)) (aCons (fBin modI (fBlt intL (aCons (fLate 0 subD (fVar 1)) aNil)) (fC (.int 61))) (aCons (fBin modI (fBlt intL (aCons (fLate 0 subD (fVar 1)) aNil)) (fC (.int 12))) (aCons (fBin modI (fBlt intL (aCons (fLate 0 subD (fVar 1)) aNil)) (fC (.int 30))) (aCons (fBin modI (fBlt intL (aCons (fLate 0 subD (fVar 1)) aNil)) (fC (.int 61))) aNil)))))))))) (fBin modI (fBlt intL (aCons (fLate 0 subD (fBin addD (fVar 1) (fC (.int 1)))) aNil)) (fC (.int 8)))) (setD 3)) (sAsg (fBin addD (fC (.int 1)) (fBin modI (fBlt intL (aCons (fLate 0 subD (fBin addD (fVar 1) (fC (.int 2)))) aNil)) (fC (.int 4)))) (setD 4))) [.d (.lst (row.map D.int)), .d (.int (at_ : Nat)), .d (.str p), .un, .un, .un] =
      .nx [.d (.lst (row.map D.int)), .d (.int (at_ : Nat)), .d (.str p), .d (.int (s : Nat)), .d (.int run), .un] := by
    generalize (s : Int) = S at *
    generalize (at_ : Int) = At at *
    simp [seq_bNil, bSeq, bNil, sAsg, sAsgO, setO, setD, sIf, sRet, sDrop, sFor, sApp, fC, fVar, fBin, fLate, slotD, fTst, boolD, fAnd, fOr, fNot, fUn, negD, fIf, fBlt, fLenN, fTup, fO, oLst, aNil, aCons, fSl, pNone, pSome, intD, fPop, ownAt, iSeq, iRange1, iRange2, iEnum1, cmpI, ltD, leD, gtD, geD, lenL, gUn, tsCons, tsNil, List.getElem?_cons_zero, List.getElem?_cons_succ, List.set_cons_zero, List.set_cons_succ, List.length_cons, List.length_nil, e0, e1, e2, mod_ii, add_ii, int_i, es, l8, hrun]
  obtain ⟨cs, g1, g2, g3⟩ := lcGo_chs (N := dRange 0 s) (a := .d (.lst (row.map D.int))) (b := .d (.int (at_ : Nat))) (c := .d (.str p)) (d := .d (.int (s : Nat))) (e := .d (.int run))
    (te := fLate 2 subD (fBin modI (fBlt intL (aCons (fLate 0 subD (fBin addD (fBin addD (fVar 1) (fC (.int 3))) (fBin fdivI (fVar 5) (fVar 4)))) aNil)) (fLenN 2)))
    (fun k hk hN => by
      have hks : k < s := by
        obtain ⟨i, hi, e⟩ := List.getElem_of_mem hN
        rw [dRange_len] at hi
        have := dRange_get 0 s i hi
        rw [List.getElem?_eq_getElem (by rw [dRange_len]; exact hi), e] at this
        have := Option.some.inj this
        have := D.int.inj this
        omega
      have q0 : 0 ≤ (k : Int) / run := Int.ediv_nonneg (by omega) (by omega)
      have q1 : (k : Int) / run ≤ k := Int.ediv_le_self _ (by omega)
      obtain ⟨r3, _, _, e3⟩ := row_at hr (i := (at_ : Int) + 3 + (k : Int) / run) (by omega) (by omega)
      obtain ⟨y, hy, ey⟩ := pool_at hp r3
      have hpl : (0 : Int) < (p.length : Nat) := by have := hp.1; omega
      refine ⟨y, hy, ?_⟩
      have d1 := fdiv_ii (i := (k : Int)) run0 run1
      have d2 := mod_ii (i := r3) hpl
      generalize (s : Int) = S at *
      generalize (at_ : Int) = At at *
      generalize (k : Int) = K at *
      generalize (p.length : Int) = PL at *
      simp [seq_bNil, bSeq, bNil, sAsg, sAsgO, setO, setD, sIf, sRet, sDrop, sFor, sApp, fC, fVar, fBin, fLate, slotD, fTst, boolD, fAnd, fOr, fNot, fUn, negD, fIf, fBlt, fLenN, fTup, fO, oLst, aNil, aCons, fSl, pNone, pSome, intD, fPop, ownAt, iSeq, iRange1, iRange2, iEnum1, cmpI, ltD, leD, gtD, geD, lenL, gUn, tsCons, tsNil, List.getElem?_cons_zero, List.getElem?_cons_succ, List.set_cons_zero, List.set_cons_succ, List.length_cons, List.length_nil, d1, d2, add_ii, int_i, e3, ey, hlp]) (dRange 0 s) [] (fun x hx => ⟨hx, by
      obtain ⟨i, hi, e⟩ := List.getElem_of_mem hx
      rw [dRange_len] at hi
      have := dRange_get 0 s i hi
      rw [List.getElem?_eq_getElem (by rw [dRange_len]; exact hi), e] at this
      have := Option.some.inj this
      exact ⟨i, by omega, by rw [this, Int.zero_add]⟩⟩) (by rw [dRange_len, List.length_nil]; omega) (fun y hy => by cases hy)
  rw [dRange_len, List.length_nil, Nat.zero_add] at g2
  refine ⟨Txt.join "" (cs.map one), ⟨?_, ?_⟩, ?_⟩
  · rw [← tx_len, tx_join, g2]; exact hs
  · rw [tx_join]; exact g3
  · have hj := joinD_is (cs := cs) (by omega)
    unfold bod__law_word
    rw [bSeq_assoc, bSeq_app, st1, Fl.seq_nx]
    have e1 : iRange1 (aCons (fVar 3) aNil) [.d (.lst (row.map D.int)), .d (.int (at_ : Nat)), .d (.str p), .d (.int (s : Nat)), .d (.int run), .un] = .ok (dRange 0 s) [.d (.lst (row.map D.int)), .d (.int (at_ : Nat)), .d (.str p), .d (.int (s : Nat)), .d (.int run), .un] := by
      simp [seq_bNil, bSeq, bNil, sAsg, sAsgO, setO, setD, sIf, sRet, sDrop, sFor, sApp, fC, fVar, fBin, fLate, slotD, fTst, boolD, fAnd, fOr, fNot, fUn, negD, fIf, fBlt, fLenN, fTup, fO, oLst, aNil, aCons, fSl, pNone, pSome, intD, fPop, ownAt, iSeq, iRange1, iRange2, iEnum1, cmpI, ltD, leD, gtD, geD, lenL, gUn, tsCons, tsNil, List.getElem?_cons_zero, List.getElem?_cons_succ, List.set_cons_zero, List.set_cons_succ, List.length_cons, List.length_nil, hRs]
    have e2 : fLc (iRange1 (aCons (fVar 3) aNil)) (setD 5) tYesD (fLate 2 subD (fBin modI (fBlt intL (aCons (fLate 0 subD (fBin addD (fBin addD (fVar 1) (fC (.int 3))) (fBin fdivI (fVar 5) (fVar 4)))) aNil)) (fLenN 2))) [5] [.d (.lst (row.map D.int)), .d (.int (at_ : Nat)), .d (.str p), .d (.int (s : Nat)), .d (.int run), .un] = .ok (cs.map ch) [.d (.lst (row.map D.int)), .d (.int (at_ : Nat)), .d (.str p), .d (.int (s : Nat)), .d (.int run), .un] := by
      unfold fLc
      rw [e1, Res.bind_ok]
      exact g1
    have e3 : fO (fLc (iRange1 (aCons (fVar 3) aNil)) (setD 5) tYesD (fLate 2 subD (fBin modI (fBlt intL (aCons (fLate 0 subD (fBin addD (fBin addD (fVar 1) (fC (.int 3))) (fBin fdivI (fVar 5) (fVar 4)))) aNil)) (fLenN 2))) [5]) [.d (.lst (row.map D.int)), .d (.int (at_ : Nat)), .d (.str p), .d (.int (s : Nat)), .d (.int run), .un] = .ok (.lst (cs.map ch)) [.d (.lst (row.map D.int)), .d (.int (at_ : Nat)), .d (.str p), .d (.int (s : Nat)), .d (.int run), .un] := by
      unfold fO
      rw [e2]
      rfl
    have e4 : ∀ f : En → Res D, ∀ ρ : En, f ρ = .ok (.lst (cs.map ch)) ρ → (bSeq (sRet (fJoin (fC (.str "")) f)) bNil ρ).fin = .ok (.str (Txt.join "" (cs.map one))) := fun f ρ h => by
      simp [bSeq, sRet, fJoin, fC, h, hj, Fl.fin]
    exact e4 _ _ e3
end G
set_option Elab.async false
set_option linter.all false
set_option maxRecDepth 100000
set_option maxHeartbeats 4000000
/-! S44: edited and spoilt texts. -/
namespace G
open PySem PySem.Spec L2 PD LV
theorem sl_take {t : Str} (h : t.length ≤ 1000) (p : Nat) : ∃ u : Str, slD (.str t) none (some (p : Int)) = some (.str u) ∧ tx u = (tx t).take p := by
  have : (1002 : Nat) < lim := by decide
  refine ⟨cutS t none (some (p : Int)), if_pos (by omega), ?_⟩
  show (((tx t).drop (HT.sIx t.length 0 none)).take (HT.sIx t.length t.length (some (p : Int)) - HT.sIx t.length 0 none)) = _
  rw [HT.sIx_none, HT.sIx_nat, List.drop_zero, Nat.sub_zero, ← tx_len]
  rcases Nat.le_total p (tx t).length with q | q
  · rw [Nat.min_eq_left q]
  · rw [Nat.min_eq_right q, List.take_of_length_le (Nat.le_refl _), List.take_of_length_le q]
theorem sl_drop {t : Str} (h : t.length ≤ 1000) (p : Nat) : ∃ u : Str, slD (.str t) (some (p : Int)) none = some (.str u) ∧ tx u = (tx t).drop p := by
  have : (1002 : Nat) < lim := by decide
  refine ⟨cutS t (some (p : Int)) none, if_pos (by omega), ?_⟩
  show (((tx t).drop (HT.sIx t.length 0 (some (p : Int)))).take (HT.sIx t.length t.length none - HT.sIx t.length 0 (some (p : Int)))) = _
  rw [HT.sIx_none, HT.sIx_nat, ← tx_len]
  rcases Nat.le_total p (tx t).length with q | q
  · rw [Nat.min_eq_left q, List.take_of_length_le (Nat.le_of_eq List.length_drop)]
  · rw [Nat.min_eq_right q, Nat.sub_self, List.take_zero, List.drop_eq_nil_of_le q]
theorem cat_is {a b : Str} (h : a.length + b.length ≤ 2000) : ∃ u : Str, addD (.str a) (.str b) = some (.str u) ∧ tx u = tx a ++ tx b := by
  have : (2002 : Nat) < lim := by decide
  refine ⟨a ++ b, if_pos (by omega), ?_⟩
  show (a.cps ++ b.cps).toList = _
  rw [Array.toList_append]
  rfl
theorem slD_lit {d : D} {lo : Option Int} : slD d lo (some (60 : Int)) = slD d lo (some ((60 : Nat) : Int)) := rfl
def Lt (n : Nat) (t : Str) : Prop := t.length ≤ n ∧ ∀ c ∈ tx t, isL c = true
theorem lt_len {n : Nat} {t : Str} (h : (tx t).length ≤ n) (h2 : ∀ c ∈ tx t, isL c = true) : Lt n t := ⟨by rw [← tx_len]; exact h, h2⟩
def edLoop : En → Fl := (bSeq (sAsg (fBin modI (fBlt intL (aCons (fLate 1 subD (fBin addD (fBin addD (fVar 2) (fC (.int 1))) (fBin mulD (fC (.int 3)) (fVar 4)))) aNil)) (fC (.int 3))) (setD 5)) (bSeq (sAsg (fBin modI (fBlt intL (aCons (fLate 1 subD (fBin addD (fBin addD (fVar 2) (fC (.int 2))) (fBin mulD (fC (.int 3)) (fVar 4)))) aNil)) (fBin addD (fLenN 0) (fC (.int 1)))) (setD 6)) (bSeq (sAsg (fLate 3 subD (fBin modI (fBlt intL (aCons (fLate 1 subD (fBin addD (fBin addD (fVar 2) (fC (.int 3))) (fBin mulD (fC (.int 3)) (fVar 4)))) aNil)) (fLenN 3))) (setD 7)) (bSeq (sIf (fTst boolD (fLate 5 eqD (fC (.int 0)))) (bSeq (sAsg (fBin addD (fBin addD (fSl (fVar 0) pNone (pSome (fVar 6))) (fVar 7)) (fSl (fVar 0) (pSome (fVar 6)) pNone)) (setD 0)) bNil) bNil) (bSeq (sIf (fTst boolD (fLate 5 eqD (fC (.int 1)))) (bSeq (sAsg (fBin addD (fSl (fVar 0) pNone (pSome (fVar 6))) (fSl (fVar 0) (pSome (fBin addD (fVar 6) (fC (.int 1)))) pNone)) (setD 0)) bNil) bNil) (bSeq (sIf (fTst boolD (fLate 5 eqD (fC (.int 2)))) (bSeq (sAsg (fBin addD (fBin addD (fSl (fVar 0) pNone (pSome (fVar 6))) (fVar 7)) (fSl (fVar 0) (pSome (fBin addD (fVar 6) (fC (.int 1)))) pNone)) (setD 0)) bNil) bNil) bNil))))))
theorem ed_step {row : List Int} (hr : Row row) {p : Str} (hp : Pool p) {t : Str} {n : Nat} (ht : Lt n t) (hn : n ≤ 100) {k : Nat} (hk : k < 8) (x4 x5 x6 x7 : Sl) :
    ∃ t' y5 y6 y7, Lt (n + 1) t' ∧ (setD 4 (.int (k : Nat)) [.d (.str t), .d (.lst (row.map D.int)), .d (.int 74), .d (.str p), x4, x5, x6, x7]).seq edLoop = .nx [.d (.str t'), .d (.lst (row.map D.int)), .d (.int 74), .d (.str p), .d (.int (k : Nat)), y5, y6, y7] := by
  obtain ⟨r1, _, _, e1⟩ := row_at hr (i := 74 + 1 + 3 * (k : Int)) (by omega) (by omega)
  obtain ⟨r2, _, _, e2⟩ := row_at hr (i := 74 + 2 + 3 * (k : Int)) (by omega) (by omega)
  obtain ⟨r3, _, _, e3⟩ := row_at hr (i := 74 + 3 + 3 * (k : Int)) (by omega) (by omega)
  have hlt := lenOf_str (p := t) (by have := ht.1; omega)
  have hlp := lenOf_str (p := p) (by have := hp.2.1; omega)
  have m3 := m_bd r1 (m := 3) (by decide)
  have ml := m_bd r2 (m := (t.length : Int) + 1) (by omega)
  obtain ⟨pl, hpl⟩ : ∃ pl : Nat, r2 % ((t.length : Int) + 1) = (pl : Int) := ⟨(r2 % ((t.length : Int) + 1)).toNat, by omega⟩
  have hple : pl ≤ t.length := by omega
  obtain ⟨y, hy, ey⟩ := pool_at hp r3
  have k3 : mulD (.int 3) (.int (k : Nat)) = some (.int (3 * (k : Int))) := mulD_ii (by
    have : (8 : Nat) < 2 ^ 64 := by decide
    omega)
  have d1 := mod_ii (i := r1) (j := 3) (by decide)
  have d2 := mod_ii (i := r2) (j := (t.length : Int) + 1) (by omega)
  have d3 := mod_ii (i := r3) (j := (p.length : Int)) (by have := hp.1; omega)
  rw [hpl] at d2
  obtain ⟨u1, s1, tu1⟩ := sl_take (t := t) (by have := ht.1; omega) pl
  obtain ⟨u2, s2, tu2⟩ := sl_drop (t := t) (by have := ht.1; omega) pl
  obtain ⟨u3, s3, tu3⟩ := sl_drop (t := t) (by have := ht.1; omega) (pl + 1)
  have tl := tx_len t
  have lu1 : u1.length ≤ pl := by rw [← tx_len, tu1, List.length_take]; omega
  have lu2 : u2.length = t.length - pl := by rw [← tx_len, tu2, List.length_drop, tl]
  have lu3 : u3.length = t.length - (pl + 1) := by rw [← tx_len, tu3, List.length_drop, tl]
  have hn1 := ht.1
  have c1 : (one y).length = 1 := rfl
  obtain ⟨v1, q1, tv1⟩ := cat_is (a := u1) (b := one y) (by omega)
  have tone : tx (one y) = [y] := rfl
  have lv1 : v1.length ≤ pl + 1 := by rw [← tx_len, tv1, List.length_append, tx_len, tone, List.length_singleton]; omega
  obtain ⟨v2, q2, tv2⟩ := cat_is (a := v1) (b := u2) (by omega)
  obtain ⟨v3, q3, tv3⟩ := cat_is (a := u1) (b := u3) (by omega)
  obtain ⟨v4, q4, tv4⟩ := cat_is (a := v1) (b := u3) (by omega)
  have ok : ∀ c, c ∈ tx u1 ++ [y] ++ tx u2 ∨ c ∈ tx u1 ++ tx u3 ∨ c ∈ tx u1 ++ [y] ++ tx u3 → isL c = true := by
    have h1 : ∀ c ∈ tx u1, isL c = true := fun c hc => ht.2 c (List.mem_of_mem_take (by rw [tu1] at hc; exact hc))
    have h2 : ∀ c ∈ tx u2, isL c = true := fun c hc => ht.2 c (List.mem_of_mem_drop (by rw [tu2] at hc; exact hc))
    have h3 : ∀ c ∈ tx u3, isL c = true := fun c hc => ht.2 c (List.mem_of_mem_drop (by rw [tu3] at hc; exact hc))
    intro c hc
    simp only [List.mem_append, List.mem_singleton] at hc
    rcases hc with ((hc | hc) | hc) | (hc | hc) | ((hc | hc) | hc) <;> first | exact h1 c hc | exact h2 c hc | exact h3 c hc | (rw [hc]; exact hy)
  have g2 : Lt (n + 1) v2 := lt_len (by rw [tx_len, ← tx_len, tv2, List.length_append, tx_len, tx_len]; omega) (fun c hc => ok c (.inl (by rw [tv2, tv1, tone] at hc; exact hc)))
  have g3 : Lt (n + 1) v3 := lt_len (by rw [tv3, List.length_append, tx_len, tx_len]; omega) (fun c hc => ok c (.inr (.inl (by rw [tv3] at hc; exact hc))))
  have g4 : Lt (n + 1) v4 := lt_len (by rw [tv4, List.length_append, tx_len, tx_len]; omega) (fun c hc => ok c (.inr (.inr (by rw [tv4, tv1, tone] at hc; exact hc))))
  have a1 : addD (.int (pl : Int)) (.int 1) = some (.int ((pl + 1 : Nat) : Int)) := rfl
  have w : r1 % 3 = 0 ∨ r1 % 3 = 1 ∨ r1 % 3 = 2 := by omega
  have e1' : subD (.lst (row.map D.int)) (.int (75 + 3 * (k : Int))) = some (.int r1) := e1
  have e2' : subD (.lst (row.map D.int)) (.int (76 + 3 * (k : Int))) = some (.int r2) := e2
  have e3' : subD (.lst (row.map D.int)) (.int (77 + 3 * (k : Int))) = some (.int r3) := e3
  have s3' : slD (.str t) (some ((pl : Int) + 1)) none = some (.str u3) := s3
  unfold edLoop
  rcases w with w | w | w
  · rw [w] at d1
    refine ⟨v2, .d (.int 0), .d (.int pl), .d (ch y), g2, ?_⟩
    generalize (pl : Int) = PL at *
    generalize (k : Int) = K at *
    simp [seq_bNil, bSeq, bNil, sAsg, sAsgO, setO, setD, sIf, sRet, sDrop, sFor, sApp, fC, fVar, fBin, fLate, slotD, fTst, boolD, fAnd, fOr, fNot, fUn, negD, fIf, fBlt, fLenN, fTup, fO, oLst, aNil, aCons, fSl, pNone, pSome, intD, fPop, ownAt, iSeq, iRange1, iRange2, iEnum1, cmpI, ltD, leD, gtD, geD, lenL, gUn, tsCons, tsNil, List.getElem?_cons_zero, List.getElem?_cons_succ, List.set_cons_zero, List.set_cons_succ, List.length_cons, List.length_nil, k3, add_ii, e1', e2', e3', int_i, d1, hlt, d2, hlp, d3, ey, eq_int, s1, q1, s2, q2]
  · rw [w] at d1
    refine ⟨v3, .d (.int 1), .d (.int pl), .d (ch y), g3, ?_⟩
    generalize (pl : Int) = PL at *
    generalize (k : Int) = K at *
    simp [seq_bNil, bSeq, bNil, sAsg, sAsgO, setO, setD, sIf, sRet, sDrop, sFor, sApp, fC, fVar, fBin, fLate, slotD, fTst, boolD, fAnd, fOr, fNot, fUn, negD, fIf, fBlt, fLenN, fTup, fO, oLst, aNil, aCons, fSl, pNone, pSome, intD, fPop, ownAt, iSeq, iRange1, iRange2, iEnum1, cmpI, ltD, leD, gtD, geD, lenL, gUn, tsCons, tsNil, List.getElem?_cons_zero, List.getElem?_cons_succ, List.set_cons_zero, List.set_cons_succ, List.length_cons, List.length_nil, k3, add_ii, e1', e2', e3', int_i, d1, hlt, d2, hlp, d3, ey, eq_int, s1, s3', q3]
  · rw [w] at d1
    refine ⟨v4, .d (.int 2), .d (.int pl), .d (ch y), g4, ?_⟩
    generalize (pl : Int) = PL at *
    generalize (k : Int) = K at *
    simp [seq_bNil, bSeq, bNil, sAsg, sAsgO, setO, setD, sIf, sRet, sDrop, sFor, sApp, fC, fVar, fBin, fLate, slotD, fTst, boolD, fAnd, fOr, fNot, fUn, negD, fIf, fBlt, fLenN, fTup, fO, oLst, aNil, aCons, fSl, pNone, pSome, intD, fPop, ownAt, iSeq, iRange1, iRange2, iEnum1, cmpI, ltD, leD, gtD, geD, lenL, gUn, tsCons, tsNil, List.getElem?_cons_zero, List.getElem?_cons_succ, List.set_cons_zero, List.set_cons_succ, List.length_cons, List.length_nil, k3, add_ii, e1', e2', e3', int_i, d1, hlt, d2, hlp, d3, ey, eq_int, s1, q1, s3', q4]
theorem edited_ok {row : List Int} (hr : Row row) {p : Str} (hp : Pool p) {x : Str} (hx : Good x) : ∃ w : Str, Good w ∧ den__law_edited [.str x, .lst (row.map D.int), .int 74, .str p] = .ok (.str w) := by
  unfold den__law_edited
  rw [fnD_app (ds := [.str x, .lst (row.map D.int), .int 74, .str p]) (by rfl : _ = 4)]
  show ∃ w : Str, Good w ∧ (bod__law_edited [.d (.str x), .d (.lst (row.map D.int)), .d (.int 74), .d (.str p), .un, .un, .un, .un]).fin = _
  obtain ⟨r0, _, _, e0⟩ := row_at hr (i := 74) (by decide) (by decide)
  have m8 := m_bd r0 (m := 8) (by decide)
  obtain ⟨n, hn⟩ : ∃ n : Nat, r0 % 8 = (n : Int) := ⟨(r0 % 8).toNat, by omega⟩
  have hn8 : n < 8 := by omega
  have hR : okR ((n : Nat) : Int) = true := okR_nat (by
    have : (8 : Nat) < 2 ^ 62 := by decide
    omega)
  have d0 := mod_ii (i := r0) (j := 8) (by decide)
  rw [hn] at d0
  have st1 : ∀ L : En → Fl, sFor (iRange1 (aCons (fBin modI (fBlt intL (aCons (fLate 1 subD (fVar 2)) aNil)) (fC (.int 8))) aNil)) (setD 4) L [.d (.str x), .d (.lst (row.map D.int)), .d (.int 74), .d (.str p), .un, .un, .un, .un] = forD (setD 4) L (dRange 0 n) [.d (.str x), .d (.lst (row.map D.int)), .d (.int 74), .d (.str p), .un, .un, .un, .un] := fun L => by
    simp [seq_bNil, bSeq, bNil, sAsg, sAsgO, setO, setD, sIf, sRet, sDrop, sFor, sApp, fC, fVar, fBin, fLate, slotD, fTst, boolD, fAnd, fOr, fNot, fUn, negD, fIf, fBlt, fLenN, fTup, fO, oLst, aNil, aCons, fSl, pNone, pSome, intD, fPop, ownAt, iSeq, iRange1, iRange2, iEnum1, cmpI, ltD, leD, gtD, geD, lenL, gUn, tsCons, tsNil, List.getElem?_cons_zero, List.getElem?_cons_succ, List.set_cons_zero, List.set_cons_succ, List.length_cons, List.length_nil, e0, int_i, d0, hR]
  obtain ⟨ρ', e, hle, t, y4, y5, y6, y7, ht, rfl⟩ := forD_thru (g := setD 4) (f := edLoop) (ds := dRange 0 n) (ρ := [.d (.str x), .d (.lst (row.map D.int)), .d (.int 74), .d (.str p), .un, .un, .un, .un])
    (fun i ρ => i ≤ n ∧ ∃ t y4 y5 y6 y7, Lt (60 + i) t ∧ ρ = [.d (.str t), .d (.lst (row.map D.int)), .d (.int 74), .d (.str p), y4, y5, y6, y7]) (fun i d ρ hd ⟨hi, t, y4, y5, y6, y7, ht, hρ⟩ => by
      subst hρ
      obtain ⟨hil, rfl⟩ := dRange_inv0 hd
      obtain ⟨t', z5, z6, z7, ht', hz⟩ := ed_step hr hp ht (by omega) (k := i) (by omega) y4 y5 y6 y7
      exact ⟨_, .inl hz, by omega, t', _, _, _, _, ht', rfl⟩) ⟨by omega, x, _, _, _, _, hx, rfl⟩
  obtain ⟨u, hu, tu⟩ := sl_take (t := t) (by have := ht.1; rw [dRange_len] at this; omega) 60
  have hu' : slD (.str t) none (some 60) = some (.str u) := hu
  refine ⟨u, ⟨by rw [← tx_len, tu, List.length_take]; omega, fun c hc => ht.2 c (List.mem_of_mem_take (by rw [tu] at hc; exact hc))⟩, ?_⟩
  unfold bod__law_edited
  rw [bSeq_app, st1]
  have ef := e
  unfold edLoop at ef
  rw [ef, Fl.seq_nx]
  simp [seq_bNil, bSeq, bNil, sAsg, sAsgO, setO, setD, sIf, sRet, sDrop, sFor, sApp, fC, fVar, fBin, fLate, slotD, fTst, boolD, fAnd, fOr, fNot, fUn, negD, fIf, fBlt, fLenN, fTup, fO, oLst, aNil, aCons, fSl, pNone, pSome, intD, fPop, ownAt, iSeq, iRange1, iRange2, iEnum1, cmpI, ltD, leD, gtD, geD, lenL, gUn, tsCons, tsNil, List.getElem?_cons_zero, List.getElem?_cons_succ, List.set_cons_zero, List.set_cons_succ, List.length_cons, List.length_nil, hu', Fl.fin]
theorem str_len {x : Str} {n : Nat} (h : (tx x).length ≤ n) : x.length ≤ n := by rw [← tx_len]; exact h
abbrev badS : Str := " !\"#$&'()*+,-./0123456789:;<=>?@ABCDEFGHIJKLMNOPQRSTUVWXYZ[\\]^_{|}~"
abbrev BL : Nat := 67
theorem spoilt_ok {row : List Int} (hr : Row row) {x : Str} (hx : Good x) {at_ : Nat} (hat : at_ ≤ 250) : ∃ w : Str, w.length ≤ 1000 ∧ den__law_spoilt [.str x, .lst (row.map D.int), .int (at_ : Nat)] = .ok (.str w) := by
  unfold den__law_spoilt
  rw [fnD_app (ds := [.str x, .lst (row.map D.int), .int (at_ : Nat)]) (by rfl : _ = 3)]
  show ∃ w : Str, w.length ≤ 1000 ∧ (bod__law_spoilt [.d (.str x), .d (.lst (row.map D.int)), .d (.int (at_ : Nat)), .un, .un]).fin = _
  obtain ⟨r0, _, _, e0⟩ := row_at hr (i := (at_ : Int)) (by omega) (by omega)
  obtain ⟨r1, _, _, e1⟩ := row_at hr (i := (at_ : Int) + 1) (by omega) (by omega)
  obtain ⟨r2, _, _, e2⟩ := row_at hr (i := (at_ : Int) + 2) (by omega) (by omega)
  have d0 := mod_ii (i := r0) (j := 4) (by decide)
  have hxl := hx.1
  have hlx := lenOf_str (p := x) (by omega)
  unfold bod__law_spoilt
  by_cases w : r0 % 4 = 1
  · rw [w] at d0
    have m10 := m_bd r1 (m := 10) (by decide)
    have d1 := mod_ii (i := r1) (j := 10) (by decide)
    have hm : mulD (.str "abcdefghijkl") (.int 6) = some (.str (Txt.mul "abcdefghijkl" 6)) := by
      show (if (decide ((0 : Int) ≤ 6) && decide ((6 : Int) ≤ 100000) && decide ((("abcdefghijkl" : Str)).length * (6 : Int).toNat ≤ lim)) = true then some (D.str (Txt.mul "abcdefghijkl" 6)) else none) = _
      exact if_pos (by decide +kernel)
    have lm : (Txt.mul "abcdefghijkl" 6).length = 72 := by decide +kernel
    obtain ⟨v, hv, tv⟩ := cat_is (a := x) (b := Txt.mul "abcdefghijkl" 6) (by rw [lm]; omega)
    obtain ⟨q, hq⟩ : ∃ q : Nat, 61 + r1 % 10 = (q : Int) := ⟨(61 + r1 % 10).toNat, by omega⟩
    have vl : v.length ≤ 1000 := str_len (by rw [tv, List.length_append, tx_len, tx_len, lm]; omega)
    obtain ⟨u, hu, tu⟩ := sl_take (t := v) vl q
    rw [← hq] at hu
    refine ⟨u, str_len (by rw [tu, List.length_take, tx_len]; omega), ?_⟩
    generalize (at_ : Int) = A at *
    simp [seq_bNil, bSeq, bNil, sAsg, sAsgO, setO, setD, sIf, sRet, sDrop, sFor, sApp, fC, fVar, fBin, fLate, slotD, fTst, boolD, fAnd, fOr, fNot, fUn, negD, fIf, fBlt, fLenN, fTup, fO, oLst, aNil, aCons, fSl, pNone, pSome, intD, fPop, ownAt, iSeq, iRange1, iRange2, iEnum1, cmpI, ltD, leD, gtD, geD, lenL, gUn, tsCons, tsNil, List.getElem?_cons_zero, List.getElem?_cons_succ, List.set_cons_zero, List.set_cons_succ, List.length_cons, List.length_nil, e0, e1, int_i, d0, d1, add_ii, eq_int, hm, hv, hu, Fl.fin]
  · have hw : decide (r0 % 4 = 1) = false := by simp [w]
    have ml := m_bd r1 (m := (x.length : Int) + 1) (by omega)
    obtain ⟨pl, hpl⟩ : ∃ pl : Nat, r1 % ((x.length : Int) + 1) = (pl : Int) := ⟨(r1 % ((x.length : Int) + 1)).toNat, by omega⟩
    have d1 := mod_ii (i := r1) (j := (x.length : Int) + 1) (by omega)
    rw [hpl] at d1
    obtain ⟨u1, s1, tu1⟩ := sl_take (t := x) (by omega) pl
    obtain ⟨u2, s2, tu2⟩ := sl_drop (t := x) (by omega) pl
    have hB : (badS.length) = BL := by decide +kernel
    have hlB : lenOf (.str badS) = some (.int (badS.length : Nat)) := lenOf_str (by rw [hB]; decide)
    have mB := m_bd r2 (m := (badS.length : Nat)) (by rw [hB]; decide)
    have d2 := mod_ii (i := r2) (j := (badS.length : Int)) (by rw [hB]; decide)
    obtain ⟨k, hk⟩ : ∃ k : Nat, r2 % (badS.length : Int) = (k : Int) := ⟨(r2 % (badS.length : Int)).toNat, by omega⟩
    have hkl : k < (tx badS).length := by rw [tx_len]; omega
    have ek := subS (x := badS) (i := k) (by rw [hB]; decide) hkl
    rw [hk] at d2
    have lu1 : u1.length ≤ 60 := str_len (by rw [tu1, List.length_take, tx_len]; omega)
    have lu2 : u2.length ≤ 60 := str_len (by rw [tu2, List.length_drop, tx_len]; omega)
    generalize (tx badS)[k] = c at *
    have c1 : (one c).length = 1 := rfl
    obtain ⟨v1, q1, tv1⟩ := cat_is (a := u1) (b := one c) (by omega)
    have lv1 : v1.length ≤ 61 := str_len (by rw [tv1, List.length_append, tx_len, tx_len]; omega)
    obtain ⟨v2, q2, tv2⟩ := cat_is (a := v1) (b := u2) (by omega)
    refine ⟨v2, str_len (by rw [tv2, List.length_append, tx_len, tx_len]; omega), ?_⟩
    have go : (bSeq (sAsg (fC (.str badS)) (setD 3)) (bSeq (sAsg (fBin modI (fBlt intL (aCons (fLate 1 subD (fBin addD (fVar 2) (fC (.int 1)))) aNil)) (fBin addD (fLenN 0) (fC (.int 1)))) (setD 4)) (bSeq (sRet (fBin addD (fBin addD (fSl (fVar 0) pNone (pSome (fVar 4))) (fLate 3 subD (fBin modI (fBlt intL (aCons (fLate 1 subD (fBin addD (fVar 2) (fC (.int 2)))) aNil)) (fLenN 3)))) (fSl (fVar 0) (pSome (fVar 4)) pNone))) bNil)) [.d (.str x), .d (.lst (row.map D.int)), .d (.int (at_ : Nat)), .un, .un]).fin = .ok (.str v2) := by
      generalize (at_ : Int) = A at *
      generalize badS = bs at *
      simp [seq_bNil, bSeq, bNil, sAsg, sAsgO, setO, setD, sIf, sRet, sDrop, sFor, sApp, fC, fVar, fBin, fLate, slotD, fTst, boolD, fAnd, fOr, fNot, fUn, negD, fIf, fBlt, fLenN, fTup, fO, oLst, aNil, aCons, fSl, pNone, pSome, intD, fPop, ownAt, iSeq, iRange1, iRange2, iEnum1, cmpI, ltD, leD, gtD, geD, lenL, gUn, tsCons, tsNil, List.getElem?_cons_zero, List.getElem?_cons_succ, List.set_cons_zero, List.set_cons_succ, List.length_cons, List.length_nil, e0, e1, e2, int_i, d1, d2, add_ii, hlx, hlB, s1, ek, q1, s2, q2, Fl.fin]
    have hw' : ¬ r0 % 4 = 1 := w
    rw [← go]
    generalize (bSeq (sAsg (fC (.str badS)) (setD 3)) (bSeq (sAsg (fBin modI (fBlt intL (aCons (fLate 1 subD (fBin addD (fVar 2) (fC (.int 1)))) aNil)) (fBin addD (fLenN 0) (fC (.int 1)))) (setD 4)) (bSeq (sRet (fBin addD (fBin addD (fSl (fVar 0) pNone (pSome (fVar 4))) (fLate 3 subD (fBin modI (fBlt intL (aCons (fLate 1 subD (fBin addD (fVar 2) (fC (.int 2)))) aNil)) (fLenN 3)))) (fSl (fVar 0) (pSome (fVar 4)) pNone))) bNil))) = rest
    generalize (at_ : Int) = A at *
    simp [seq_bNil, bSeq, bNil, sAsg, sAsgO, setO, setD, sIf, sRet, sDrop, sFor, sApp, fC, fVar, fBin, fLate, slotD, fTst, boolD, fAnd, fOr, fNot, fUn, negD, fIf, fBlt, fLenN, fTup, fO, oLst, aNil, aCons, fSl, pNone, pSome, intD, fPop, ownAt, iSeq, iRange1, iRange2, iEnum1, cmpI, ltD, leD, gtD, geD, lenL, gUn, tsCons, tsNil, List.getElem?_cons_zero, List.getElem?_cons_succ, List.set_cons_zero, List.set_cons_succ, List.length_cons, List.length_nil, e0, int_i, d0, eq_int, hw]
end G
set_option Elab.async false
set_option linter.all false
set_option maxRecDepth 100000
set_option maxHeartbeats 4000000
/-! U44: the law of k44, in plain Lean. -/
namespace G
open PySem PySem.Spec L2 PD LV
def lw1 : En → Fl := (sAsg (fCall den__law_row (aCons (fVar 0) (aCons (fC (.int 260)) aNil)) []) (setD 1))
def lw2 : En → Fl := (sAsg (fC (.str "abcdefghijklmnopqrstuvwxyz")) (setD 2))
def lw3 : En → Fl := (sAsg (fBin addD (fBin addD (fLate 2 subD (fBin modI (fBlt intL (aCons (fLate 1 subD (fC (.int 0))) aNil)) (fC (.int 26)))) (fLate 2 subD (fBin modI (fBlt intL (aCons (fLate 1 subD (fC (.int 1))) aNil)) (fC (.int 26))))) (fLate 2 subD (fBin modI (fBlt intL (aCons (fLate 1 subD (fC (.int 2))) aNil)) (fC (.int 26))))) (setD 3))
def lw4 : En → Fl := (sAsg (fSl (fVar 3) pNone (pSome (fBin addD (fC (.int 1)) (fBin modI (fBlt intL (aCons (fLate 1 subD (fC (.int 3))) aNil)) (fC (.int 3)))))) (setD 3))
def lw5 : En → Fl := (sAsg (fCall den__law_word (aCons (fVar 1) (aCons (fC (.int 10)) (aCons (fVar 3) aNil))) []) (setD 4))
def lw6 : En → Fl := (sAsg (fCall den__law_edited (aCons (fVar 4) (aCons (fVar 1) (aCons (fC (.int 74)) (aCons (fVar 3) aNil)))) []) (setD 5))
def lw7 : En → Fl := (sIf (fTst boolD (fBin eqD (fBin modI (fBlt intL (aCons (fLate 1 subD (fC (.int 4))) aNil)) (fC (.int 4))) (fC (.int 1)))) (bSeq (sAsg (fCall den__law_word (aCons (fVar 1) (aCons (fC (.int 100)) (aCons (fVar 3) aNil))) []) (setD 5)) bNil) bNil)
def lw8 : En → Fl := (sAsg (fCall den__law_word (aCons (fVar 1) (aCons (fC (.int 164)) (aCons (fVar 3) aNil))) []) (setD 6))
def lw9 : En → Fl := (sAsg (fCall den__law_table (aCons (fVar 4) (aCons (fVar 5) aNil)) []) (setD 7))
def lw10 : En → Fl := (sIf (fOr (fNot (fTst boolD (fCall den__law_same (aCons (fCall den__law_asked (aCons (fVar 4) (aCons (fVar 5) aNil)) []) (aCons (fO (oLst (aCons (fC (.str "told")) (aCons (fVar 7) aNil)))) aNil)) []))) (fNot (fTst boolD (fCall den__law_same (aCons (fCall den__law_asked (aCons (fVar 5) (aCons (fVar 4) aNil)) []) (aCons (fO (oLst (aCons (fC (.str "told")) (aCons (fVar 7) aNil)))) aNil)) [])))) (bSeq (sRet (fC (.bl false))) bNil) bNil)
def lw11 : En → Fl := (sIf (fOr (fTst boolD (fBin neD (fLate 7 eqD (fC (.int 0))) (fLate 4 eqD (fVar 5)))) (fNot (fTst boolD (fCall den__law_same (aCons (fCall den__law_asked (aCons (fVar 4) (aCons (fVar 4) aNil)) []) (aCons (fO (oLst (aCons (fC (.str "told")) (aCons (fC (.int 0)) aNil)))) aNil)) [])))) (bSeq (sRet (fC (.bl false))) bNil) bNil)
def lw12 : En → Fl := (sFor (iSeq (fO (oLst (aCons (fVar 4) (aCons (fVar 5) aNil))))) (setD 8) (bSeq (sIf (fNot (fTst boolD (fCall den__law_same (aCons (fCall den__law_asked (aCons (fVar 8) (aCons (fVar 6) aNil)) []) (aCons (fCall den__law_due (aCons (fVar 8) (aCons (fVar 6) aNil)) []) aNil)) []))) (bSeq (sRet (fC (.bl false))) bNil) bNil) bNil))
def lw13 : En → Fl := (sIf (fTst boolD (fBin gtD (fCall den_text_distance (aCons (fVar 4) (aCons (fVar 6) aNil)) []) (fBin addD (fVar 7) (fCall den_text_distance (aCons (fVar 6) (aCons (fVar 5) aNil)) [])))) (bSeq (sRet (fC (.bl false))) bNil) bNil)
def lw14 : En → Fl := (sAsg (fCall den__law_spoilt (aCons (fVar 4) (aCons (fVar 1) (aCons (fC (.int 240)) aNil))) []) (setD 9))
def lw15 : En → Fl := (sAsg (fCall den__law_spoilt (aCons (fVar 6) (aCons (fVar 1) (aCons (fC (.int 244)) aNil))) []) (setD 10))
def lw16 : En → Fl := (sFor (iSeq (fO (oLst (aCons (fTup (aCons (fVar 9) (aCons (fVar 5) aNil))) (aCons (fTup (aCons (fVar 5) (aCons (fVar 9) aNil))) (aCons (fTup (aCons (fVar 9) (aCons (fVar 10) aNil))) (aCons (fTup (aCons (fVar 10) (aCons (fVar 9) aNil))) aNil))))))) (setD 11) (bSeq (sIf (fNot (fTst boolD (fCall den__law_same (aCons (fCall den__law_asked (aCons (fLate 11 subD (fC (.int 0))) (aCons (fLate 11 subD (fC (.int 1))) aNil)) []) (aCons (fCall den__law_due (aCons (fLate 11 subD (fC (.int 0))) (aCons (fLate 11 subD (fC (.int 1))) aNil)) []) aNil)) []))) (bSeq (sRet (fC (.bl false))) bNil) bNil) bNil))
def lw17 : En → Fl := (sRet (fC (.bl true)))
theorem lw_is : bod_law = (bSeq lw1 (bSeq lw2 (bSeq lw3 (bSeq lw4 (bSeq lw5 (bSeq lw6 (bSeq lw7 (bSeq lw8 (bSeq lw9 (bSeq lw10 (bSeq lw11 (bSeq lw12 (bSeq lw13 (bSeq lw14 (bSeq lw15 (bSeq lw16 (bSeq lw17 bNil))))))))))))))))) := rfl
theorem str_ext {a b : Str} (h : tx a = tx b) : a = b := by
  cases a with
  | mk x =>
    cases b with
    | mk y =>
      have h' : x.toList = y.toList := h
      rw [Array.toList_inj] at h'
      rw [h']
theorem dist_zero (a b : Str) : dist a b = 0 ↔ a = b := by
  show lev _ _ = 0 ↔ _
  rw [lev_zero]
  constructor
  · intro h
    exact str_ext (List.reverse_inj.mp h)
  · intro h
    rw [h]
theorem dist_sym (a b : Str) : dist a b = dist b a := lev_sym _ _
theorem good_len {x : Str} (h : Good x) : x.length ≤ 1000 := by have := h.1; omega
/-- the second half: two texts, a third, all of letters -/
theorem rest_ok {row : List Int} (hr : Row row) {s l2 : Sl} {pool f g : Str} (hp : Pool pool) (hf : Good f) (hg : Good g) :
    (bSeq lw8 (bSeq lw9 (bSeq lw10 (bSeq lw11 (bSeq lw12 (bSeq lw13 (bSeq lw14 (bSeq lw15 (bSeq lw16 (bSeq lw17 bNil))))))))) [s, .d (.lst (row.map D.int)), l2, .d (.str pool), .d (.str f), .d (.str g), .un, .un, .un, .un, .un, .un]).fin = .ok (.bl true) := by
  obtain ⟨t, ht, e8⟩ := word_ok hr hp (at_ := 164) (by decide)
  obtain ⟨b, hb, e14⟩ := spoilt_ok hr hf (at_ := 240) (by decide)
  obtain ⟨w, hw, e15⟩ := spoilt_ok hr ht (at_ := 244) (by decide)
  have e8' : den__law_word [.lst (row.map D.int), .int 164, .str pool] = .ok (.str t) := e8
  have e14' : den__law_spoilt [.str f, .lst (row.map D.int), .int 240] = .ok (.str b) := e14
  have e15' : den__law_spoilt [.str t, .lst (row.map D.int), .int 244] = .ok (.str w) := e15
  have e9 := law_table_is (good_len hf) (good_len hg)
  have afg := asked_is (good_len hf) (good_len hg)
  have agf := asked_is (good_len hg) (good_len hf)
  have aff := asked_is (good_len hf) (good_len hf)
  have aft := asked_is (good_len hf) (good_len ht)
  have agt := asked_is (good_len hg) (good_len ht)
  have dft := due_is (good_len hf) (good_len ht)
  have dgt := due_is (good_len hg) (good_len ht)
  have abg := asked_is hb (good_len hg)
  have agb := asked_is (good_len hg) hb
  have abw := asked_is hb hw
  have awb := asked_is hw hb
  have dbg := due_is hb (good_len hg)
  have dgb := due_is (good_len hg) hb
  have dbw := due_is hb hw
  have dwb := due_is hw hb
  have sfg := same_due f g
  have sgf := same_due g f
  have sff := same_due f f
  have sft := same_due f t
  have sgt := same_due g t
  have sbg := same_due b g
  have sgb := same_due g b
  have sbw := same_due b w
  have swb := same_due w b
  rw [due_good hf hg] at afg sfg
  rw [due_good hg hf, dist_sym g f] at agf sgf
  have z0 : dist f f = 0 := (dist_zero f f).mpr rfl
  rw [due_good hf hf, z0] at aff sff
  have aff' : den__law_asked [.str f, .str f] = .ok (.lst [.str "told", .int 0]) := aff
  have sff' : den__law_same [.lst [.str "told", .int 0], .lst [.str "told", .int 0]] = .ok (.bl true) := sff
  clear aff sff
  have tft := text_distance_ok (good_len hf) (good_len ht) (good_neg hf) (good_neg ht)
  have ttg := text_distance_ok (good_len ht) (good_len hg) (good_neg ht) (good_neg hg)
  have tri : ¬ ((dist f g : Nat) : Int) + ((dist t g : Nat) : Int) < ((dist f t : Nat) : Int) := by
    have h := lev_tri (tx f).reverse (tx g).reverse (tx t).reverse
    have h2 := dist_sym t g
    show ¬ ((lev (tx f).reverse (tx g).reverse : Nat) : Int) + ((lev (tx t).reverse (tx g).reverse : Nat) : Int) < ((lev (tx f).reverse (tx t).reverse : Nat) : Int)
    have h3 : lev (tx t).reverse (tx g).reverse = lev (tx g).reverse (tx t).reverse := lev_sym _ _
    omega
  have zz : decide (((dist f g : Nat) : Int) = 0) = decide (f = g) := by
    have h := dist_zero f g
    by_cases q : f = g
    · rw [decide_eq_true q, decide_eq_true (by rw [h.mpr q]; rfl)]
    · rw [decide_eq_false q, decide_eq_false (fun z => q (h.mp (by omega)))]
  have l2' : 2 ≤ lim := by decide
  have l4 : 4 ≤ lim := by decide
  have c1 : bSeq lw8 lw9 [s, .d (.lst (row.map D.int)), l2, .d (.str pool), .d (.str f), .d (.str g), .un, .un, .un, .un, .un, .un] = .nx [s, .d (.lst (row.map D.int)), l2, .d (.str pool), .d (.str f), .d (.str g), .d (.str t), .d (.int (dist f g : Nat)), .un, .un, .un, .un] := by
    unfold lw8 lw9
    simp [seq_bNil, bSeq, bNil, sAsg, sAsgO, setO, setD, sIf, sRet, sDrop, sFor, sApp, fC, fVar, fBin, fLate, slotD, fTst, boolD, fAnd, fOr, fNot, fUn, negD, fIf, fBlt, fLenN, fTup, fO, oLst, aNil, aCons, fSl, pNone, pSome, intD, fPop, ownAt, iSeq, iRange1, iRange2, iEnum1, cmpI, ltD, leD, gtD, geD, lenL, gUn, tsCons, tsNil, List.getElem?_cons_zero, List.getElem?_cons_succ, List.set_cons_zero, List.set_cons_succ, List.length_cons, List.length_nil, fCall, e8', e9]
  generalize hD : ((dist f g : Nat) : Int) = D0 at *
  have c2 : bSeq lw10 lw11 [s, .d (.lst (row.map D.int)), l2, .d (.str pool), .d (.str f), .d (.str g), .d (.str t), .d (.int D0), .un, .un, .un, .un] = .nx [s, .d (.lst (row.map D.int)), l2, .d (.str pool), .d (.str f), .d (.str g), .d (.str t), .d (.int D0), .un, .un, .un, .un] := by
    unfold lw10 lw11
    simp [seq_bNil, bSeq, bNil, sAsg, sAsgO, setO, setD, sIf, sRet, sDrop, sFor, sApp, fC, fVar, fBin, fLate, slotD, fTst, boolD, fAnd, fOr, fNot, fUn, negD, fIf, fBlt, fLenN, fTup, fO, oLst, aNil, aCons, fSl, pNone, pSome, intD, fPop, ownAt, iSeq, iRange1, iRange2, iEnum1, cmpI, ltD, leD, gtD, geD, lenL, gUn, tsCons, tsNil, List.getElem?_cons_zero, List.getElem?_cons_succ, List.set_cons_zero, List.set_cons_succ, List.length_cons, List.length_nil, fCall, afg, agf, aff', sfg, sgf, sff', l2', eq_int, eq_str, ne_bl, zz]
  have c3 : bSeq lw12 lw13 [s, .d (.lst (row.map D.int)), l2, .d (.str pool), .d (.str f), .d (.str g), .d (.str t), .d (.int D0), .un, .un, .un, .un] = .nx [s, .d (.lst (row.map D.int)), l2, .d (.str pool), .d (.str f), .d (.str g), .d (.str t), .d (.int D0), .d (.str g), .un, .un, .un] := by
    unfold lw12 lw13
    simp [seq_bNil, bSeq, bNil, sAsg, sAsgO, setO, setD, sIf, sRet, sDrop, sFor, sApp, fC, fVar, fBin, fLate, slotD, fTst, boolD, fAnd, fOr, fNot, fUn, negD, fIf, fBlt, fLenN, fTup, fO, oLst, aNil, aCons, fSl, pNone, pSome, intD, fPop, ownAt, iSeq, iRange1, iRange2, iEnum1, cmpI, ltD, leD, gtD, geD, lenL, gUn, tsCons, tsNil, List.getElem?_cons_zero, List.getElem?_cons_succ, List.set_cons_zero, List.set_cons_succ, List.length_cons, List.length_nil, forD, fCall, aft, agt, dft, dgt, sft, sgt, l2', tft, ttg, add_ii]
    omega
  have c4 : bSeq lw14 lw15 [s, .d (.lst (row.map D.int)), l2, .d (.str pool), .d (.str f), .d (.str g), .d (.str t), .d (.int D0), .d (.str g), .un, .un, .un] = .nx [s, .d (.lst (row.map D.int)), l2, .d (.str pool), .d (.str f), .d (.str g), .d (.str t), .d (.int D0), .d (.str g), .d (.str b), .d (.str w), .un] := by
    unfold lw14 lw15
    simp [seq_bNil, bSeq, bNil, sAsg, sAsgO, setO, setD, sIf, sRet, sDrop, sFor, sApp, fC, fVar, fBin, fLate, slotD, fTst, boolD, fAnd, fOr, fNot, fUn, negD, fIf, fBlt, fLenN, fTup, fO, oLst, aNil, aCons, fSl, pNone, pSome, intD, fPop, ownAt, iSeq, iRange1, iRange2, iEnum1, cmpI, ltD, leD, gtD, geD, lenL, gUn, tsCons, tsNil, List.getElem?_cons_zero, List.getElem?_cons_succ, List.set_cons_zero, List.set_cons_succ, List.length_cons, List.length_nil, fCall, e14', e15']
  have s0 : ∀ x y : D, subD (.tup [x, y]) (.int 0) = some x := fun _ _ => rfl
  have s1 : ∀ x y : D, subD (.tup [x, y]) (.int 1) = some y := fun _ _ => rfl
  have c5 : (bSeq lw16 (bSeq lw17 bNil) [s, .d (.lst (row.map D.int)), l2, .d (.str pool), .d (.str f), .d (.str g), .d (.str t), .d (.int D0), .d (.str g), .d (.str b), .d (.str w), .un]).fin = .ok (.bl true) := by
    unfold lw16 lw17
    simp [seq_bNil, bSeq, bNil, sAsg, sAsgO, setO, setD, sIf, sRet, sDrop, sFor, sApp, fC, fVar, fBin, fLate, slotD, fTst, boolD, fAnd, fOr, fNot, fUn, negD, fIf, fBlt, fLenN, fTup, fO, oLst, aNil, aCons, fSl, pNone, pSome, intD, fPop, ownAt, iSeq, iRange1, iRange2, iEnum1, cmpI, ltD, leD, gtD, geD, lenL, gUn, tsCons, tsNil, List.getElem?_cons_zero, List.getElem?_cons_succ, List.set_cons_zero, List.set_cons_succ, List.length_cons, List.length_nil, forD, fCall, s0, s1, abg, agb, abw, awb, dbg, dgb, dbw, dwb, sbg, sgb, sbw, swb, l2', l4, Fl.fin]
  rw [bSeq_assoc lw8, bSeq_assoc lw10, bSeq_assoc lw12, bSeq_assoc lw14, bSeq_app (bSeq lw8 lw9), c1, Fl.seq_nx, bSeq_app (bSeq lw10 lw11), c2, Fl.seq_nx, bSeq_app (bSeq lw12 lw13), c3, Fl.seq_nx, bSeq_app (bSeq lw14 lw15), c4, Fl.seq_nx]
  exact c5
theorem letter_at {r : Int} : ∃ c, isL c = true ∧ subD (.str "abcdefghijklmnopqrstuvwxyz") (.int (r % 26)) = some (ch c) := by
  have hl : (("abcdefghijklmnopqrstuvwxyz" : Str)).length = 26 := by decide +kernel
  have m := m_bd r (m := 26) (by decide)
  obtain ⟨k, hk⟩ : ∃ k : Nat, r % 26 = (k : Int) := ⟨(r % 26).toNat, by omega⟩
  have hkl : k < (tx ("abcdefghijklmnopqrstuvwxyz" : Str)).length := by rw [tx_len, hl]; omega
  have ek := subS (x := "abcdefghijklmnopqrstuvwxyz") (i := k) (by rw [hl]; decide) hkl
  refine ⟨_, ?_, by rw [hk]; exact ek⟩
  exact decide_eq_true (List.getElem_mem hkl)
theorem plain (ns : List Int) (h : ns.length ≤ 63) : den_law [.lst (ns.map D.int)] = .ok (.bl true) := by
  obtain ⟨row, hl, hb, e1⟩ := row_ok (ns := ns) (many := 260) (by decide)
  have hr : Row row := ⟨hl, hb⟩
  have e1' : den__law_row [.lst (ns.map D.int), .int 260] = .ok (.lst (row.map D.int)) := e1
  unfold den_law
  rw [fnD_app (ds := [.lst (ns.map D.int)]) (by rfl : _ = 1)]
  show (bod_law [.d (.lst (ns.map D.int)), .un, .un, .un, .un, .un, .un, .un, .un, .un, .un, .un]).fin = _
  obtain ⟨r0, _, _, q0⟩ := row_at hr (i := 0) (by decide) (by decide)
  obtain ⟨r1, _, _, q1⟩ := row_at hr (i := 1) (by decide) (by decide)
  obtain ⟨r2, _, _, q2⟩ := row_at hr (i := 2) (by decide) (by decide)
  obtain ⟨r3, _, _, q3⟩ := row_at hr (i := 3) (by decide) (by decide)
  obtain ⟨r4, _, _, q4⟩ := row_at hr (i := 4) (by decide) (by decide)
  obtain ⟨k0, i0, l0⟩ := letter_at (r := r0)
  obtain ⟨k1, i1, l1⟩ := letter_at (r := r1)
  obtain ⟨k2, i2, l2⟩ := letter_at (r := r2)
  have d0 := mod_ii (i := r0) (j := 26) (by decide)
  have d1 := mod_ii (i := r1) (j := 26) (by decide)
  have d2 := mod_ii (i := r2) (j := 26) (by decide)
  have d3 := mod_ii (i := r3) (j := 3) (by decide)
  have d4 := mod_ii (i := r4) (j := 4) (by decide)
  have one1 : ∀ c, (one c).length = 1 := fun _ => rfl
  have tone : ∀ c, tx (one c) = [c] := fun _ => rfl
  obtain ⟨p1, a1, t1⟩ := cat_is (a := one k0) (b := one k1) (by rw [one1, one1]; decide)
  have lp1 : p1.length = 2 := by rw [← tx_len, t1, tone, tone]; rfl
  obtain ⟨p2, a2, t2⟩ := cat_is (a := p1) (b := one k2) (by rw [one1, lp1]; decide)
  have lp2 : p2.length = 3 := by rw [← tx_len, t2, t1, tone, tone, tone]; rfl
  have m3 := m_bd r3 (m := 3) (by decide)
  obtain ⟨n, hn⟩ : ∃ n : Nat, 1 + r3 % 3 = (n : Int) := ⟨(1 + r3 % 3).toNat, by omega⟩
  obtain ⟨pool, a3, t3⟩ := sl_take (t := p2) (by rw [lp2]; decide) n
  rw [← hn] at a3
  have hp : Pool pool := by
    have h1 : pool.length = min n 3 := by rw [← tx_len, t3, List.length_take, tx_len, lp2]
    refine ⟨by omega, by omega, fun c hc => ?_⟩
    rw [t3] at hc
    have hc2 := List.mem_of_mem_take hc
    rw [t2, t1, tone, tone, tone] at hc2
    simp at hc2
    rcases hc2 with rfl | rfl | rfl <;> assumption
  obtain ⟨f, hf, e5⟩ := word_ok hr hp (at_ := 10) (by decide)
  have e5' : den__law_word [.lst (row.map D.int), .int 10, .str pool] = .ok (.str f) := e5
  obtain ⟨g0, hg0, e6⟩ := edited_ok hr hp hf
  obtain ⟨g1, hg1, e7⟩ := word_ok hr hp (at_ := 100) (by decide)
  have e7' : den__law_word [.lst (row.map D.int), .int 100, .str pool] = .ok (.str g1) := e7
  have c1 : bSeq lw1 (bSeq lw2 (bSeq lw3 lw4)) [.d (.lst (ns.map D.int)), .un, .un, .un, .un, .un, .un, .un, .un, .un, .un, .un] = .nx [.d (.lst (ns.map D.int)), .d (.lst (row.map D.int)), .d (.str "abcdefghijklmnopqrstuvwxyz"), .d (.str pool), .un, .un, .un, .un, .un, .un, .un, .un] := by
    unfold lw1 lw2 lw3 lw4
    generalize ("abcdefghijklmnopqrstuvwxyz" : Str) = LET at *
    simp [seq_bNil, bSeq, bNil, sAsg, sAsgO, setO, setD, sIf, sRet, sDrop, sFor, sApp, fC, fVar, fBin, fLate, slotD, fTst, boolD, fAnd, fOr, fNot, fUn, negD, fIf, fBlt, fLenN, fTup, fO, oLst, aNil, aCons, fSl, pNone, pSome, intD, fPop, ownAt, iSeq, iRange1, iRange2, iEnum1, cmpI, ltD, leD, gtD, geD, lenL, gUn, tsCons, tsNil, List.getElem?_cons_zero, List.getElem?_cons_succ, List.set_cons_zero, List.set_cons_succ, List.length_cons, List.length_nil, fCall, e1', q0, q1, q2, q3, int_i, d0, d1, d2, d3, l0, l1, l2, a1, a2, add_ii, a3]
  have c2 : ∃ g, Good g ∧ bSeq lw5 (bSeq lw6 lw7) [.d (.lst (ns.map D.int)), .d (.lst (row.map D.int)), .d (.str "abcdefghijklmnopqrstuvwxyz"), .d (.str pool), .un, .un, .un, .un, .un, .un, .un, .un] = .nx [.d (.lst (ns.map D.int)), .d (.lst (row.map D.int)), .d (.str "abcdefghijklmnopqrstuvwxyz"), .d (.str pool), .d (.str f), .d (.str g), .un, .un, .un, .un, .un, .un] := by
    unfold lw5 lw6 lw7
    by_cases w : r4 % 4 = 1
    · exact ⟨g1, hg1, by simp [seq_bNil, bSeq, bNil, sAsg, sAsgO, setO, setD, sIf, sRet, sDrop, sFor, sApp, fC, fVar, fBin, fLate, slotD, fTst, boolD, fAnd, fOr, fNot, fUn, negD, fIf, fBlt, fLenN, fTup, fO, oLst, aNil, aCons, fSl, pNone, pSome, intD, fPop, ownAt, iSeq, iRange1, iRange2, iEnum1, cmpI, ltD, leD, gtD, geD, lenL, gUn, tsCons, tsNil, List.getElem?_cons_zero, List.getElem?_cons_succ, List.set_cons_zero, List.set_cons_succ, List.length_cons, List.length_nil, fCall, e5', e6, e7', q4, int_i, d4, eq_int, w]⟩
    · exact ⟨g0, hg0, by simp [seq_bNil, bSeq, bNil, sAsg, sAsgO, setO, setD, sIf, sRet, sDrop, sFor, sApp, fC, fVar, fBin, fLate, slotD, fTst, boolD, fAnd, fOr, fNot, fUn, negD, fIf, fBlt, fLenN, fTup, fO, oLst, aNil, aCons, fSl, pNone, pSome, intD, fPop, ownAt, iSeq, iRange1, iRange2, iEnum1, cmpI, ltD, leD, gtD, geD, lenL, gUn, tsCons, tsNil, List.getElem?_cons_zero, List.getElem?_cons_succ, List.set_cons_zero, List.set_cons_succ, List.length_cons, List.length_nil, fCall, e5', e6, e7', q4, int_i, d4, eq_int, w]⟩
  obtain ⟨g, hg, c2⟩ := c2
  have fin := rest_ok hr (s := .d (.lst (ns.map D.int))) (l2 := .d (.str "abcdefghijklmnopqrstuvwxyz")) hp hf hg
  rw [lw_is, ← fin]
  have r1 : bSeq lw1 (bSeq lw2 (bSeq lw3 (bSeq lw4 (bSeq lw5 (bSeq lw6 (bSeq lw7 (bSeq lw8 (bSeq lw9 (bSeq lw10 (bSeq lw11 (bSeq lw12 (bSeq lw13 (bSeq lw14 (bSeq lw15 (bSeq lw16 (bSeq lw17 bNil)))))))))))))))) =
      bSeq (bSeq lw1 (bSeq lw2 (bSeq lw3 lw4))) (bSeq (bSeq lw5 (bSeq lw6 lw7)) (bSeq lw8 (bSeq lw9 (bSeq lw10 (bSeq lw11 (bSeq lw12 (bSeq lw13 (bSeq lw14 (bSeq lw15 (bSeq lw16 (bSeq lw17 bNil))))))))))) := by
    simp only [← bSeq_assoc]
  rw [r1, bSeq_app, c1, Fl.seq_nx, bSeq_app, c2, Fl.seq_nx]
end G
open PySem PySem.W PyProof.Rows
set_option maxRecDepth 100000 in
set_option maxHeartbeats 0 in
theorem PySem.Challenge.cw_adjoinedtongues_k44_distances_of_texts_holds : PySem.Challenge.rw_adjoinedtongues_k44_distances_of_texts.Holds := by
  w_on; o_law; k_head; (case hw => w_witness2)
  k_fill
  refine PD.walk_pd (l := PySem.Challenge.rw_adjoinedtongues_k44_distances_of_texts) (k := 5) G.den_law G.plain rfl rfl ⟨rfl, by decide, by decide⟩ (fun w h Y => PySem.W.kIn_of Y) ?F
  case F =>
    intro w mg fa h KX GG hmg
    refine' G.all_mk KX GG hmg ?hz_ValueError ?hz_bool ?hz_enumerate ?hz_int ?hz_isinstance ?hz_len ?hz_list ?hz_min ?hz_range ?hz_str ?hz_tuple ?hg_LETTERS ?hm_bad_letter ?hl_bad_letter ?hc_bad_letter ?hk_bad_letter ?hm_check_text ?hl_check_text ?hc_check_text ?hk_check_text ?hd_check_text ?hm_letter_changes ?hl_letter_changes ?hc_letter_changes ?hk_letter_changes ?hm_text_distance ?hl_text_distance ?hc_text_distance ?hk_text_distance ?hm__law_row ?hl__law_row ?hc__law_row ?hk__law_row ?hm__law_same ?hl__law_same ?hc__law_same ?hk__law_same ?hm__law_word ?hl__law_word ?hc__law_word ?hk__law_word ?hm__law_edited ?hl__law_edited ?hc__law_edited ?hk__law_edited ?hm__law_table ?hl__law_table ?hc__law_table ?hk__law_table ?hm__law_asked ?hl__law_asked ?hc__law_asked ?hk__law_asked ?hm__law_bad_place ?hl__law_bad_place ?hc__law_bad_place ?hk__law_bad_place ?hm__law_due ?hl__law_due ?hc__law_due ?hk__law_due ?hm__law_spoilt ?hl__law_spoilt ?hc__law_spoilt ?hk__law_spoilt ?hm_law ?hl_law ?hc_law ?hk_law ?hm_Fault ?hm_BadText ?hm_TooMany ?h_any ?h_sup ?h_top ?xl_BadText ?sa_BadText ?nf_BadText ?ic_BadText ?ti_BadText ?kc_BadText ?xc_BadText ?ve_BadText ?ty_BadText ?up_BadText ?mr_BadText ?hf_BadText ?hq_BadText ?hcell_BadText ?hcode_BadText ?hvs_BadText ?hfile_BadText ?hev_BadText ?te_Fault ?td_Fault ?tt_Fault ?ts_Fault_BadText ?ki_BadText_BadText ?ki_TooMany_BadText ?ki_ValueError_BadText ?xg_BadText ?xk_BadText ?xd_BadText ?xa_BadText ?xo_BadText ?h_get ?h_tak
    (case hz_ValueError => k_is)
    (case hz_bool => k_is)
    (case hz_enumerate => k_is)
    (case hz_int => k_is)
    (case hz_isinstance => k_is)
    (case hz_len => k_is)
    (case hz_list => k_is)
    (case hz_min => k_is)
    (case hz_range => k_is)
    (case hz_str => k_is)
    (case hz_tuple => k_is)
    (case hg_LETTERS => k_is)
    (case hm_bad_letter => k_is)
    (case hl_bad_letter => k_is)
    (case hc_bad_letter => k_is)
    (case hk_bad_letter => k_is)
    (case hm_check_text => k_is)
    (case hl_check_text => k_is)
    (case hc_check_text => k_is)
    (case hk_check_text => k_is)
    (case hd_check_text => k_is)
    (case hm_letter_changes => k_is)
    (case hl_letter_changes => k_is)
    (case hc_letter_changes => k_is)
    (case hk_letter_changes => k_is)
    (case hm_text_distance => k_is)
    (case hl_text_distance => k_is)
    (case hc_text_distance => k_is)
    (case hk_text_distance => k_is)
    (case hm__law_row => k_is)
    (case hl__law_row => k_is)
    (case hc__law_row => k_is)
    (case hk__law_row => k_is)
    (case hm__law_same => k_is)
    (case hl__law_same => k_is)
    (case hc__law_same => k_is)
    (case hk__law_same => k_is)
    (case hm__law_word => k_is)
    (case hl__law_word => k_is)
    (case hc__law_word => k_is)
    (case hk__law_word => k_is)
    (case hm__law_edited => k_is)
    (case hl__law_edited => k_is)
    (case hc__law_edited => k_is)
    (case hk__law_edited => k_is)
    (case hm__law_table => k_is)
    (case hl__law_table => k_is)
    (case hc__law_table => k_is)
    (case hk__law_table => k_is)
    (case hm__law_asked => k_is)
    (case hl__law_asked => k_is)
    (case hc__law_asked => k_is)
    (case hk__law_asked => k_is)
    (case hm__law_bad_place => k_is)
    (case hl__law_bad_place => k_is)
    (case hc__law_bad_place => k_is)
    (case hk__law_bad_place => k_is)
    (case hm__law_due => k_is)
    (case hl__law_due => k_is)
    (case hc__law_due => k_is)
    (case hk__law_due => k_is)
    (case hm__law_spoilt => k_is)
    (case hl__law_spoilt => k_is)
    (case hc__law_spoilt => k_is)
    (case hk__law_spoilt => k_is)
    (case hm_law => k_is)
    (case hl_law => k_is)
    (case hc_law => k_is)
    (case hk_law => k_is)
    (case hm_Fault => k_is)
    (case hm_BadText => k_is)
    (case hm_TooMany => k_is)
    (case h_any => k_is)
    (case h_sup => k_is)
    (case h_top => first | rfl | decide +kernel)
    (case xl_BadText => k_is)
    (case sa_BadText => k_is)
    (case nf_BadText => k_is)
    (case ic_BadText => k_is)
    (case ti_BadText => k_is)
    (case kc_BadText => k_is)
    (case xc_BadText => k_is)
    (case ve_BadText => k_is)
    (case ty_BadText => k_is)
    (case up_BadText => ks_is)
    (case mr_BadText => k_is)
    (case hf_BadText => k_is)
    (case hq_BadText => k_is)
    (case hcell_BadText => k_is)
    (case hcode_BadText => k_is)
    (case hvs_BadText => rfl)
    (case hfile_BadText => first | rfl | decide +kernel)
    (case hev_BadText => exact fun env => ⟨_, rfl⟩)
    (case te_Fault => k_is)
    (case td_Fault => k_is)
    (case tt_Fault => k_is)
    (case ts_Fault_BadText => k_is)
    (case ki_BadText_BadText => kit_is)
    (case ki_TooMany_BadText => kit_is)
    (case ki_ValueError_BadText => kit_is)
    (case xg_BadText => k_is)
    (case xk_BadText => k_is)
    (case xd_BadText => k_is)
    (case xa_BadText => k_is)
    (case xo_BadText => k_is)
    (case h_get => k_is)
    (case h_tak => k_is)
#print axioms PySem.Challenge.cw_adjoinedtongues_k44_distances_of_texts_holds
