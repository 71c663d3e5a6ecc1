import PyProof.Rows.All
import Wide.All
import OpenK.AllK
import Wide.FinOn
import HandS.ForMost
import HandS.ForExc
import HandS.Walk
import HandS.Wide
import HandS.IsInst
import HandS.CallSlots
import HandS.TryOnly
import HandS.ExcField
import HandS.ExcIs
import HandS.Conv
import HandS.ExcInit
import HandS.Flt
import HandS.Style
import HandS.TupAny
import KE.DataEq
import KE.GoesEnum
import KE.KExcSuper
import KE.RegKSuper
import HandS.ExcOwn
import KE.KExcIs
import HandS.Defaults
import HandS.WordsExc
import KE.RegKIsAll
import HandS.Star
import HandS.SetFor
import HandS.Strs
import HandS.Iter
import HandS.ClsMeth
import KE.KSuper
import HandS.Zip
import HandS.More
import HandS.Replace
import PySem.Challenge.RW_adjoinedtongues_k19_stack_rules_refused
set_option Elab.async false
set_option linter.all false
set_option maxRecDepth 100000
set_option maxHeartbeats 4000000
/-! PD1: values as pure data; what a heap says of them; the states of a def's slots; the judgements. -/
namespace PD
open PySem PySem.Spec L2

/-- pure data -/
inductive D where
  | non | bl (b : Bool) | int (i : Int) | str (x : Str) | ty (n : String)
  | lst (xs : List D) | tup (xs : List D) | ins (n : Str) (fs : List (Str × D))
  | dic (kvs : List (Key × D)) | dit (kvs : List (List Key × D))

mutual
inductive Rep (K : PySem.W.Frag) (F : Hp) : V → D → Prop
  | non : Rep K F .non .non
  | bl (b : Bool) : Rep K F (.bl b) (.bl b)
  | int (i : Int) : Rep K F (.int i) (.int i)
  | str (x : Str) : Rep K F (.str x) (.str x)
  | ty (n : String) : Rep K F (.ty n) (.ty n)
  | lst {a : Addr} {vs : List V} {ds : List D} : SqL K F a vs → RepL K F vs ds → Rep K F (.ref a) (.lst ds)
  | tup {a : Addr} {vs : List V} {ds : List D} : SqT K F a vs → RepL K F vs ds → Rep K F (.ref a) (.tup ds)
  | ins {a C dx : Addr} {n : Str} {fs : List (Str × V)} {ds : List (Str × D)} : F a = some (.ins C dx fs) → F dx = some (.own a) → PySem.W.nsIn K mainGlobals n = some (some (.ref C)) → RepF K F fs ds → Rep K F (.ref a) (.ins n ds)
  | dic {a : Addr} {kvs : List (Key × V)} {ds : List (Key × D)} : F a = some (.dK kvs) → RepK K F kvs ds → Rep K F (.ref a) (.dic ds)
  | dit {a : Addr} {kvs : List (List Key × V)} {ds : List (List Key × D)} : F a = some (.dT kvs) → RepT K F kvs ds → Rep K F (.ref a) (.dit ds)
inductive RepL (K : PySem.W.Frag) (F : Hp) : List V → List D → Prop
  | nil : RepL K F [] []
  | cons {v : V} {d : D} {vs : List V} {ds : List D} : Rep K F v d → RepL K F vs ds → RepL K F (v :: vs) (d :: ds)
inductive RepF (K : PySem.W.Frag) (F : Hp) : List (Str × V) → List (Str × D) → Prop
  | nil : RepF K F [] []
  | cons {f : Str} {v : V} {d : D} {vs : List (Str × V)} {ds : List (Str × D)} : Rep K F v d → RepF K F vs ds → RepF K F ((f, v) :: vs) ((f, d) :: ds)
inductive RepK (K : PySem.W.Frag) (F : Hp) : List (Key × V) → List (Key × D) → Prop
  | nil : RepK K F [] []
  | cons {f : Key} {v : V} {d : D} {vs : List (Key × V)} {ds : List (Key × D)} : Rep K F v d → RepK K F vs ds → RepK K F ((f, v) :: vs) ((f, d) :: ds)
inductive RepT (K : PySem.W.Frag) (F : Hp) : List (List Key × V) → List (List Key × D) → Prop
  | nil : RepT K F [] []
  | cons {f : List Key} {v : V} {d : D} {vs : List (List Key × V)} {ds : List (List Key × D)} : Rep K F v d → RepT K F vs ds → RepT K F ((f, v) :: vs) ((f, d) :: ds)
end

theorem Rd.mono {H H' : Hp} {a : Addr} {u : HO} (e : Same H H') (h : Rd H a u) : Rd H' a u := by
  rcases h with h | ⟨o, h⟩
  · exact .inl (e _ _ h)
  · exact .inr ⟨o, e _ _ h⟩
theorem Same.seqL {K : PySem.W.Frag} {H H' : Hp} {a : Addr} {xs : List V} (e : Same H H') (h : SqL K H a xs) : SqL K H' a xs := by
  rcases h with (h | ⟨o, h⟩) | h
  · exact .inl (.inl (e _ _ h))
  · exact .inl (.inr ⟨o, e _ _ h⟩)
  · exact .inr h
theorem Same.seqT {K : PySem.W.Frag} {H H' : Hp} {a : Addr} {xs : List V} (e : Same H H') (h : SqT K H a xs) : SqT K H' a xs := by
  rcases h with (h | ⟨o, h⟩) | h
  · exact .inl (.inl (e _ _ h))
  · exact .inl (.inr ⟨o, e _ _ h⟩)
  · exact .inr h

section
variable {K : PySem.W.Frag} {F F' : Hp}
mutual
theorem Rep.mono (s : Same F F') : ∀ {v : V} {d : D}, Rep K F v d → Rep K F' v d
  | _, _, .non => .non
  | _, _, .bl b => .bl b
  | _, _, .int b => .int b
  | _, _, .str b => .str b
  | _, _, .ty b => .ty b
  | _, _, .lst h r => .lst (Same.seqL s h) (RepL.mono s r)
  | _, _, .tup h r => .tup (Same.seqT s h) (RepL.mono s r)
  | _, _, .ins h1 h2 h3 r => .ins (s _ _ h1) (s _ _ h2) h3 (RepF.mono s r)
  | _, _, .dic h r => .dic (s _ _ h) (RepK.mono s r)
  | _, _, .dit h r => .dit (s _ _ h) (RepT.mono s r)
theorem RepL.mono (s : Same F F') : ∀ {v : List V} {d : List D}, RepL K F v d → RepL K F' v d
  | _, _, .nil => .nil
  | _, _, .cons h r => .cons (Rep.mono s h) (RepL.mono s r)
theorem RepF.mono (s : Same F F') : ∀ {v : List (Str × V)} {d : List (Str × D)}, RepF K F v d → RepF K F' v d
  | _, _, .nil => .nil
  | _, _, .cons h r => .cons (Rep.mono s h) (RepF.mono s r)
theorem RepK.mono (s : Same F F') : ∀ {v : List (Key × V)} {d : List (Key × D)}, RepK K F v d → RepK K F' v d
  | _, _, .nil => .nil
  | _, _, .cons h r => .cons (Rep.mono s h) (RepK.mono s r)
theorem RepT.mono (s : Same F F') : ∀ {v : List (List Key × V)} {d : List (List Key × D)}, RepT K F v d → RepT K F' v d
  | _, _, .nil => .nil
  | _, _, .cons h r => .cons (Rep.mono s h) (RepT.mono s r)
end
theorem RepL.length : ∀ {v : List V} {d : List D}, RepL K F v d → v.length = d.length
  | _, _, .nil => rfl
  | _, _, .cons _ r => by rw [List.length_cons, List.length_cons, RepL.length r]
theorem RepL.get : ∀ {vs : List V} {ds : List D}, RepL K F vs ds → ∀ {i : Nat} {d : D}, ds[i]? = some d → ∃ v, vs[i]? = some v ∧ Rep K F v d
  | _, _, .nil, i, d, h => by simp at h
  | _, _, .cons h r, 0, d, e => by
    simp at e
    subst e
    exact ⟨_, rfl, h⟩
  | _, _, .cons h r, i + 1, d, e => by
    have := RepL.get r (i := i) (d := d) (by simpa using e)
    simpa using this
theorem RepL.get' : ∀ {vs : List V} {ds : List D}, RepL K F vs ds → ∀ {i : Nat} {v : V}, vs[i]? = some v → ∃ d, ds[i]? = some d ∧ Rep K F v d
  | _, _, .nil, i, d, h => by simp at h
  | _, _, .cons h r, 0, d, e => by
    simp at e
    subst e
    exact ⟨_, rfl, h⟩
  | _, _, .cons h r, i + 1, d, e => by
    have := RepL.get' r (i := i) (v := d) (by simpa using e)
    simpa using this
theorem RepL.append : ∀ {v1 v2 : List V} {d1 d2 : List D}, RepL K F v1 d1 → RepL K F v2 d2 → RepL K F (v1 ++ v2) (d1 ++ d2)
  | _, _, _, _, .nil, h => h
  | _, _, _, _, .cons h r, h2 => .cons h (RepL.append r h2)
theorem RepL.take : ∀ (n : Nat) {v : List V} {d : List D}, RepL K F v d → RepL K F (v.take n) (d.take n)
  | 0, _, _, _ => by simpa using RepL.nil
  | _ + 1, _, _, .nil => by simpa using RepL.nil
  | n + 1, _, _, .cons h r => by simpa using RepL.cons h (RepL.take n r)
theorem RepL.drop : ∀ (n : Nat) {v : List V} {d : List D}, RepL K F v d → RepL K F (v.drop n) (d.drop n)
  | 0, _, _, h => h
  | _ + 1, _, _, .nil => by simpa using RepL.nil
  | n + 1, _, _, .cons _ r => by simpa using RepL.drop n r
theorem RepL.snoc {vs : List V} {ds : List D} {v : V} {d : D} (h : RepL K F vs ds) (r : Rep K F v d) : RepL K F (vs ++ [v]) (ds ++ [d]) := h.append (.cons r .nil)
theorem RepL.dropLast {vs : List V} {ds : List D} (h : RepL K F vs ds) : RepL K F vs.dropLast ds.dropLast := by
  rw [List.dropLast_eq_take, List.dropLast_eq_take, h.length]
  exact h.take _
theorem RepL.reverse : ∀ {vs : List V} {ds : List D}, RepL K F vs ds → RepL K F vs.reverse ds.reverse
  | _, _, .nil => .nil
  | _, _, .cons h r => by
    rw [List.reverse_cons, List.reverse_cons]
    exact (RepL.reverse r).snoc h
theorem RepL.set : ∀ {vs : List V} {ds : List D} (i : Nat) {v : V} {d : D}, RepL K F vs ds → Rep K F v d → RepL K F (vs.set i v) (ds.set i d)
  | _, _, _, _, _, .nil, _ => by simpa using RepL.nil
  | _, _, 0, _, _, .cons h r, g => .cons g r
  | _, _, i + 1, _, _, .cons h r, g => .cons h (RepL.set i r g)
theorem RepL.insertIdx : ∀ (i : Nat) {vs : List V} {ds : List D} {v : V} {d : D}, RepL K F vs ds → Rep K F v d → RepL K F (vs.insertIdx i v) (ds.insertIdx i d)
  | 0, _, _, _, _, h, g => by simpa using RepL.cons g h
  | i + 1, _, _, _, _, .nil, _ => by simpa using RepL.nil
  | i + 1, _, _, _, _, .cons h r, g => by simpa using RepL.cons h (RepL.insertIdx i r g)
/-- ints in a list -/
theorem RepL.ints : ∀ (ns : List Int), RepL K F (ns.map V.int) (ns.map D.int)
  | [] => .nil
  | n :: r => .cons (.int n) (RepL.ints r)
theorem RepL.ints_inv : ∀ {vs : List V} {ns : List Int}, RepL K F vs (ns.map D.int) → vs = ns.map V.int
  | _, [], h => by cases h; rfl
  | _, n :: r, h => by
    cases h with
    | cons h1 h2 =>
      cases h1
      rw [RepL.ints_inv h2]
      rfl
theorem RepL.strs_inv : ∀ {vs : List V} {ns : List Str}, RepL K F vs (ns.map D.str) → vs = ns.map V.str
  | _, [], h => by cases h; rfl
  | _, n :: r, h => by
    cases h with
    | cons h1 h2 =>
      cases h1
      rw [RepL.strs_inv h2]
      rfl
theorem RepL.strs : ∀ (ns : List Str), RepL K F (ns.map V.str) (ns.map D.str)
  | [] => .nil
  | n :: r => .cons (.str n) (RepL.strs r)
end

/-! ### what is still to be changed: an object of one's own and what it holds -/
inductive M where
  | fz (d : D) | lst (xs : List M) | dK (kvs : List (Key × M)) | dT (kvs : List (List Key × M)) | ins (n : Str) (fs : List (Str × M))
mutual
/-- a value, what it is, the addresses that are its own -/
inductive RepM (K : PySem.W.Frag) (F H : Hp) : V → M → List Addr → Prop
  | fz {v : V} {d : D} : Rep K F v d → RepM K F H v (.fz d) []
  | lst {a : Addr} {vs : List V} {ms : List M} {ps : List Addr} : H a = some (.lst vs) → RepML K F H vs ms ps → RepM K F H (.ref a) (.lst ms) (a :: ps)
  | dK {a : Addr} {vs : List (Key × V)} {ms : List (Key × M)} {ps : List Addr} : H a = some (.dK vs) → RepMK K F H vs ms ps → RepM K F H (.ref a) (.dK ms) (a :: ps)
  | dT {a : Addr} {vs : List (List Key × V)} {ms : List (List Key × M)} {ps : List Addr} : H a = some (.dT vs) → RepMT K F H vs ms ps → RepM K F H (.ref a) (.dT ms) (a :: ps)
  | ins {a C dx : Addr} {n : Str} {vs : List (Str × V)} {ms : List (Str × M)} {ps : List Addr} : H a = some (.ins C dx vs) → H dx = some (.own a) → PySem.W.nsIn K mainGlobals n = some (some (.ref C)) → RepMF K F H vs ms ps → RepM K F H (.ref a) (.ins n ms) (a :: dx :: ps)
inductive RepML (K : PySem.W.Frag) (F H : Hp) : List V → List M → List Addr → Prop
  | nil : RepML K F H [] [] []
  | cons {v : V} {m : M} {vs : List V} {ms : List M} {ps qs : List Addr} : RepM K F H v m ps → RepML K F H vs ms qs → RepML K F H (v :: vs) (m :: ms) (ps ++ qs)
inductive RepMK (K : PySem.W.Frag) (F H : Hp) : List (Key × V) → List (Key × M) → List Addr → Prop
  | nil : RepMK K F H [] [] []
  | cons {k : Key} {v : V} {m : M} {vs : List (Key × V)} {ms : List (Key × M)} {ps qs : List Addr} : RepM K F H v m ps → RepMK K F H vs ms qs → RepMK K F H ((k, v) :: vs) ((k, m) :: ms) (ps ++ qs)
inductive RepMT (K : PySem.W.Frag) (F H : Hp) : List (List Key × V) → List (List Key × M) → List Addr → Prop
  | nil : RepMT K F H [] [] []
  | cons {k : List Key} {v : V} {m : M} {vs : List (List Key × V)} {ms : List (List Key × M)} {ps qs : List Addr} : RepM K F H v m ps → RepMT K F H vs ms qs → RepMT K F H ((k, v) :: vs) ((k, m) :: ms) (ps ++ qs)
inductive RepMF (K : PySem.W.Frag) (F H : Hp) : List (Str × V) → List (Str × M) → List Addr → Prop
  | nil : RepMF K F H [] [] []
  | cons {k : Str} {v : V} {m : M} {vs : List (Str × V)} {ms : List (Str × M)} {ps qs : List Addr} : RepM K F H v m ps → RepMF K F H vs ms qs → RepMF K F H ((k, v) :: vs) ((k, m) :: ms) (ps ++ qs)
end
section
variable {K : PySem.W.Frag} {F F' H H' : Hp}
mutual
/-- only its own addresses matter -/
theorem RepM.move (s : Same F F') : ∀ {v : V} {m : M} {ps : List Addr}, RepM K F H v m ps → (∀ p ∈ ps, H' p = H p) → RepM K F' H' v m ps
  | _, _, _, .fz r, _ => .fz (r.mono s)
  | _, _, _, .lst h r, e => .lst ((e _ (List.mem_cons_self ..)).trans h) (RepML.move s r fun p hp => e p (List.mem_cons_of_mem _ hp))
  | _, _, _, .dK h r, e => .dK ((e _ (List.mem_cons_self ..)).trans h) (RepMK.move s r fun p hp => e p (List.mem_cons_of_mem _ hp))
  | _, _, _, .dT h r, e => .dT ((e _ (List.mem_cons_self ..)).trans h) (RepMT.move s r fun p hp => e p (List.mem_cons_of_mem _ hp))
  | _, _, _, .ins h h2 h3 r, e => .ins ((e _ (List.mem_cons_self ..)).trans h) ((e _ (List.mem_cons_of_mem _ (List.mem_cons_self ..))).trans h2) h3 (RepMF.move s r fun p hp => e p (List.mem_cons_of_mem _ (List.mem_cons_of_mem _ hp)))
theorem RepML.move (s : Same F F') : ∀ {v : List V} {m : List M} {ps : List Addr}, RepML K F H v m ps → (∀ p ∈ ps, H' p = H p) → RepML K F' H' v m ps
  | _, _, _, .nil, _ => .nil
  | _, _, _, .cons r1 r2, e => .cons (RepM.move s r1 fun p hp => e p (List.mem_append_left _ hp)) (RepML.move s r2 fun p hp => e p (List.mem_append_right _ hp))
theorem RepMK.move (s : Same F F') : ∀ {v : List (Key × V)} {m : List (Key × M)} {ps : List Addr}, RepMK K F H v m ps → (∀ p ∈ ps, H' p = H p) → RepMK K F' H' v m ps
  | _, _, _, .nil, _ => .nil
  | _, _, _, .cons r1 r2, e => .cons (RepM.move s r1 fun p hp => e p (List.mem_append_left _ hp)) (RepMK.move s r2 fun p hp => e p (List.mem_append_right _ hp))
theorem RepMT.move (s : Same F F') : ∀ {v : List (List Key × V)} {m : List (List Key × M)} {ps : List Addr}, RepMT K F H v m ps → (∀ p ∈ ps, H' p = H p) → RepMT K F' H' v m ps
  | _, _, _, .nil, _ => .nil
  | _, _, _, .cons r1 r2, e => .cons (RepM.move s r1 fun p hp => e p (List.mem_append_left _ hp)) (RepMT.move s r2 fun p hp => e p (List.mem_append_right _ hp))
theorem RepMF.move (s : Same F F') : ∀ {v : List (Str × V)} {m : List (Str × M)} {ps : List Addr}, RepMF K F H v m ps → (∀ p ∈ ps, H' p = H p) → RepMF K F' H' v m ps
  | _, _, _, .nil, _ => .nil
  | _, _, _, .cons r1 r2, e => .cons (RepM.move s r1 fun p hp => e p (List.mem_append_left _ hp)) (RepMF.move s r2 fun p hp => e p (List.mem_append_right _ hp))
end
mutual
/-- what is its own stands in the heap -/
theorem RepM.there : ∀ {v : V} {m : M} {ps : List Addr}, RepM K F H v m ps → ∀ p ∈ ps, ∃ o, H p = some o
  | _, _, _, .fz r, p, hp => by cases hp
  | _, _, _, .lst h r, p, hp => by
    rcases List.mem_cons.mp hp with rfl | hp
    · exact ⟨_, h⟩
    · exact RepML.there r p hp
  | _, _, _, .dK h r, p, hp => by
    rcases List.mem_cons.mp hp with rfl | hp
    · exact ⟨_, h⟩
    · exact RepMK.there r p hp
  | _, _, _, .dT h r, p, hp => by
    rcases List.mem_cons.mp hp with rfl | hp
    · exact ⟨_, h⟩
    · exact RepMT.there r p hp
  | _, _, _, .ins h h2 h3 r, p, hp => by
    rcases List.mem_cons.mp hp with rfl | hp
    · exact ⟨_, h⟩
    · rcases List.mem_cons.mp hp with rfl | hp
      · exact ⟨_, h2⟩
      · exact RepMF.there r p hp
theorem RepML.there : ∀ {v : List V} {m : List M} {ps : List Addr}, RepML K F H v m ps → ∀ p ∈ ps, ∃ o, H p = some o
  | _, _, _, .nil, p, hp => by cases hp
  | _, _, _, .cons r1 r2, p, hp => by
    rcases List.mem_append.mp hp with h | h
    · exact RepM.there r1 p h
    · exact RepML.there r2 p h
theorem RepMK.there : ∀ {v : List (Key × V)} {m : List (Key × M)} {ps : List Addr}, RepMK K F H v m ps → ∀ p ∈ ps, ∃ o, H p = some o
  | _, _, _, .nil, p, hp => by cases hp
  | _, _, _, .cons r1 r2, p, hp => by
    rcases List.mem_append.mp hp with h | h
    · exact RepM.there r1 p h
    · exact RepMK.there r2 p h
theorem RepMT.there : ∀ {v : List (List Key × V)} {m : List (List Key × M)} {ps : List Addr}, RepMT K F H v m ps → ∀ p ∈ ps, ∃ o, H p = some o
  | _, _, _, .nil, p, hp => by cases hp
  | _, _, _, .cons r1 r2, p, hp => by
    rcases List.mem_append.mp hp with h | h
    · exact RepM.there r1 p h
    · exact RepMT.there r2 p h
theorem RepMF.there : ∀ {v : List (Str × V)} {m : List (Str × M)} {ps : List Addr}, RepMF K F H v m ps → ∀ p ∈ ps, ∃ o, H p = some o
  | _, _, _, .nil, p, hp => by cases hp
  | _, _, _, .cons r1 r2, p, hp => by
    rcases List.mem_append.mp hp with h | h
    · exact RepM.there r1 p h
    · exact RepMF.there r2 p h
end
end
section
variable {K : PySem.W.Frag} {F H : Hp}
mutual
theorem RepM.uni : ∀ {v : V} {m : M} {ps qs : List Addr}, RepM K F H v m ps → RepM K F H v m qs → ps = qs
  | _, _, _, _, .fz _, .fz _ => rfl
  | _, _, _, _, .lst h r, .lst h' r' => by
    rw [h] at h'
    cases h'
    rw [RepML.uni r r']
  | _, _, _, _, .dK h r, .dK h' r' => by
    rw [h] at h'
    cases h'
    rw [RepMK.uni r r']
  | _, _, _, _, .dT h r, .dT h' r' => by
    rw [h] at h'
    cases h'
    rw [RepMT.uni r r']
  | _, _, _, _, .ins h h2 h3 r, .ins h' h2' h3' r' => by
    rw [h] at h'
    cases h'
    rw [RepMF.uni r r']
theorem RepML.uni : ∀ {v : List V} {m : List M} {ps qs : List Addr}, RepML K F H v m ps → RepML K F H v m qs → ps = qs
  | _, _, _, _, .nil, .nil => rfl
  | _, _, _, _, .cons r1 r2, .cons q1 q2 => by rw [RepM.uni r1 q1, RepML.uni r2 q2]
theorem RepMK.uni : ∀ {v : List (Key × V)} {m : List (Key × M)} {ps qs : List Addr}, RepMK K F H v m ps → RepMK K F H v m qs → ps = qs
  | _, _, _, _, .nil, .nil => rfl
  | _, _, _, _, .cons r1 r2, .cons q1 q2 => by rw [RepM.uni r1 q1, RepMK.uni r2 q2]
theorem RepMT.uni : ∀ {v : List (List Key × V)} {m : List (List Key × M)} {ps qs : List Addr}, RepMT K F H v m ps → RepMT K F H v m qs → ps = qs
  | _, _, _, _, .nil, .nil => rfl
  | _, _, _, _, .cons r1 r2, .cons q1 q2 => by rw [RepM.uni r1 q1, RepMT.uni r2 q2]
theorem RepMF.uni : ∀ {v : List (Str × V)} {m : List (Str × M)} {ps qs : List Addr}, RepMF K F H v m ps → RepMF K F H v m qs → ps = qs
  | _, _, _, _, .nil, .nil => rfl
  | _, _, _, _, .cons r1 r2, .cons q1 q2 => by rw [RepM.uni r1 q1, RepMF.uni r2 q2]
end
end
mutual
/-- frozen -/
def M.toD : M → D
  | .fz d => d
  | .lst xs => .lst (M.toDL xs)
  | .dK kvs => .dic (M.toDK kvs)
  | .dT kvs => .dit (M.toDT kvs)
  | .ins n fs => .ins n (M.toDF fs)
def M.toDL : List M → List D
  | [] => []
  | m :: r => M.toD m :: M.toDL r
def M.toDK : List (Key × M) → List (Key × D)
  | [] => []
  | (k, m) :: r => (k, M.toD m) :: M.toDK r
def M.toDT : List (List Key × M) → List (List Key × D)
  | [] => []
  | (k, m) :: r => (k, M.toD m) :: M.toDT r
def M.toDF : List (Str × M) → List (Str × D)
  | [] => []
  | (k, m) :: r => (k, M.toD m) :: M.toDF r
end
section
variable {K : PySem.W.Frag} {F F' H : Hp}
mutual
/-- F' holds what is its own, as H does -/
theorem RepM.frz (s : Same F F') : ∀ {v : V} {m : M} {ps : List Addr}, RepM K F H v m ps → (∀ p ∈ ps, F' p = H p) → Rep K F' v m.toD
  | _, _, _, .fz r, _ => by rw [M.toD]; exact r.mono s
  | _, _, _, .lst h r, e => by rw [M.toD]; exact .lst (.inl (.inl ((e _ (List.mem_cons_self ..)).trans h))) (RepML.frz s r fun p hp => e p (List.mem_cons_of_mem _ hp))
  | _, _, _, .dK h r, e => by rw [M.toD]; exact .dic ((e _ (List.mem_cons_self ..)).trans h) (RepMK.frz s r fun p hp => e p (List.mem_cons_of_mem _ hp))
  | _, _, _, .dT h r, e => by rw [M.toD]; exact .dit ((e _ (List.mem_cons_self ..)).trans h) (RepMT.frz s r fun p hp => e p (List.mem_cons_of_mem _ hp))
  | _, _, _, .ins h h2 h3 r, e => by rw [M.toD]; exact .ins ((e _ (List.mem_cons_self ..)).trans h) ((e _ (List.mem_cons_of_mem _ (List.mem_cons_self ..))).trans h2) h3 (RepMF.frz s r fun p hp => e p (List.mem_cons_of_mem _ (List.mem_cons_of_mem _ hp)))
theorem RepML.frz (s : Same F F') : ∀ {v : List V} {m : List M} {ps : List Addr}, RepML K F H v m ps → (∀ p ∈ ps, F' p = H p) → RepL K F' v (M.toDL m)
  | _, _, _, .nil, _ => by rw [M.toDL]; exact .nil
  | _, _, _, .cons r1 r2, e => by rw [M.toDL]; exact .cons (RepM.frz s r1 fun p hp => e p (List.mem_append_left _ hp)) (RepML.frz s r2 fun p hp => e p (List.mem_append_right _ hp))
theorem RepMK.frz (s : Same F F') : ∀ {v : List (Key × V)} {m : List (Key × M)} {ps : List Addr}, RepMK K F H v m ps → (∀ p ∈ ps, F' p = H p) → RepK K F' v (M.toDK m)
  | _, _, _, .nil, _ => by rw [M.toDK]; exact .nil
  | _, _, _, .cons r1 r2, e => by rw [M.toDK]; exact .cons (RepM.frz s r1 fun p hp => e p (List.mem_append_left _ hp)) (RepMK.frz s r2 fun p hp => e p (List.mem_append_right _ hp))
theorem RepMT.frz (s : Same F F') : ∀ {v : List (List Key × V)} {m : List (List Key × M)} {ps : List Addr}, RepMT K F H v m ps → (∀ p ∈ ps, F' p = H p) → RepT K F' v (M.toDT m)
  | _, _, _, .nil, _ => by rw [M.toDT]; exact .nil
  | _, _, _, .cons r1 r2, e => by rw [M.toDT]; exact .cons (RepM.frz s r1 fun p hp => e p (List.mem_append_left _ hp)) (RepMT.frz s r2 fun p hp => e p (List.mem_append_right _ hp))
theorem RepMF.frz (s : Same F F') : ∀ {v : List (Str × V)} {m : List (Str × M)} {ps : List Addr}, RepMF K F H v m ps → (∀ p ∈ ps, F' p = H p) → RepF K F' v (M.toDF m)
  | _, _, _, .nil, _ => by rw [M.toDF]; exact .nil
  | _, _, _, .cons r1 r2, e => by rw [M.toDF]; exact .cons (RepM.frz s r1 fun p hp => e p (List.mem_append_left _ hp)) (RepMF.frz s r2 fun p hp => e p (List.mem_append_right _ hp))
end
end

/-- an exception: its class, its fields -/
structure Exc where
  n : Str
  fs : List (Str × D)
/-- a slot: nothing known; frozen data; a list of its own, to be changed; the exception of the suite -/
inductive Sl where
  | un | d (x : D) | own (xs : List D) | ex (x : Exc) | mt (m : M) | ln (xs : List D)
abbrev En := List Sl
inductive Res (α : Type) where
  | ok (a : α) (ρ : En) | exc (x : Exc) (ρ : En) | bad
def Res.bind {α β : Type} (r : Res α) (k : α → En → Res β) : Res β := match r with
  | .ok a ρ => k a ρ
  | .exc x ρ => .exc x ρ
  | .bad => .bad
def ofO {α : Type} (o : Option α) (ρ : En) : Res α := match o with
  | some a => .ok a ρ
  | none => .bad
@[simp] theorem Res.bind_ok {α β : Type} (a : α) (ρ : En) (k : α → En → Res β) : (Res.ok a ρ).bind k = k a ρ := rfl
@[simp] theorem Res.bind_exc {α β : Type} (x : Exc) (ρ : En) (k : α → En → Res β) : (Res.exc x ρ).bind k = .exc x ρ := rfl
@[simp] theorem Res.bind_bad {α β : Type} (k : α → En → Res β) : (Res.bad : Res α).bind k = .bad := rfl
@[simp] theorem ofO_some {α : Type} (a : α) (ρ : En) : ofO (some a) ρ = .ok a ρ := rfl
@[simp] theorem ofO_none {α : Type} (ρ : En) : ofO (none : Option α) ρ = .bad := rfl
/-- a statement's end -/
inductive Fl where
  | nx (ρ : En) | rt (d : D) | bk (ρ : En) | ct (ρ : En) | exc (x : Exc) (ρ : En) | bad
def Fl.seq (r : Fl) (k : En → Fl) : Fl := match r with
  | .nx ρ => k ρ
  | r => r
@[simp] theorem Fl.seq_nx (ρ : En) (k : En → Fl) : (Fl.nx ρ).seq k = k ρ := rfl
@[simp] theorem Fl.seq_rt (ρ : D) (k : En → Fl) : (Fl.rt ρ).seq k = .rt ρ := rfl
@[simp] theorem Fl.seq_bk (ρ : En) (k : En → Fl) : (Fl.bk ρ).seq k = .bk ρ := rfl
@[simp] theorem Fl.seq_ct (ρ : En) (k : En → Fl) : (Fl.ct ρ).seq k = .ct ρ := rfl
@[simp] theorem Fl.seq_exc (x : Exc) (ρ : En) (k : En → Fl) : (Fl.exc x ρ).seq k = .exc x ρ := rfl
@[simp] theorem Fl.seq_bad (k : En → Fl) : Fl.bad.seq k = .bad := rfl
def Res.fl {α : Type} (r : Res α) (k : α → En → Fl) : Fl := match r with
  | .ok a ρ => k a ρ
  | .exc x ρ => .exc x ρ
  | .bad => .bad
@[simp] theorem Res.fl_ok {α : Type} (a : α) (ρ : En) (k : α → En → Fl) : (Res.ok a ρ).fl k = k a ρ := rfl
@[simp] theorem Res.fl_exc {α : Type} (x : Exc) (ρ : En) (k : α → En → Fl) : (Res.exc x ρ : Res α).fl k = .exc x ρ := rfl
@[simp] theorem Res.fl_bad {α : Type} (k : α → En → Fl) : (Res.bad : Res α).fl k = .bad := rfl
/-- a call's end -/
inductive FR where
  | ok (d : D) | exc (x : Exc) | bad
def Fl.fin (r : Fl) : FR := match r with
  | .nx _ => .ok .non
  | .rt d => .ok d
  | .exc x _ => .exc x
  | _ => .bad

/-- the suite's exception: where it stands, its class, its dict; me: what slot 0 holds as long as it is to be changed; L: what is lent -/
structure Sx where
  a : Addr
  cls : Value
  d : Option Addr
  me : Option V
  L : Hp
def Sx.suite (S : Sx) (a : Addr) (cls : Value) (d : Option Addr) : Sx := ⟨a, cls, d, S.me, S.L⟩
structure Fx where
  K : PySem.W.Frag
  S : Sx
  B : Hp
  F0 : Hp
def RepX (K : PySem.W.Frag) (F : Hp) (cls : Value) (dd : Option Addr) (x : Exc) : Prop :=
  (∃ C, PySem.W.nsIn K mainGlobals x.n = some (some (.ref C)) ∧ cls = .ref C) ∧ ((dd = none ∧ x.fs = []) ∨ ∃ d fs, dd = some d ∧ F d = some (.xd fs) ∧ RepF K F fs x.fs)
theorem RepX.mono {K : PySem.W.Frag} {F F' : Hp} {cls : Value} {dd : Option Addr} {x : Exc} (s : Same F F') (h : RepX K F cls dd x) : RepX K F' cls dd x := by
  obtain ⟨h1, h2 | ⟨d, fs, e1, e2, r⟩⟩ := h
  · exact ⟨h1, .inl h2⟩
  · exact ⟨h1, .inr ⟨d, fs, e1, s _ _ e2, r.mono s⟩⟩

/-- B: the heap at the entry, F0 what of it is frozen; F: what is frozen now, H: the heap now -/
structure Fz (Z : Fx) (F H : Hp) : Prop where
  f01 : Same Z.F0 F
  fH : Same F H
  bH : Same Z.B H
  new : ∀ a o, Z.B a = some o → F a = Z.F0 a
  lB : Same Z.S.L Z.B
structure St2 (Z : Fx) (F H : Hp) (σ : St) (ρ : En) : Prop where
  fz : Fz Z F H
  len : σ.length = ρ.length
  atD : ∀ (i : Nat) (d : D), ρ[i]? = some (.d d) → ∃ v, σ[i]? = some (some v) ∧ Rep Z.K F v d
  atO : ∀ (i : Nat) (xs : List D), ρ[i]? = some (.own xs) → ∃ p vs, σ[i]? = some (some (.ref p)) ∧ H p = some (.lst vs) ∧ F p = none ∧ Z.B p = none ∧ RepL Z.K F vs xs
  atX : ∀ (i : Nat) (x : Exc), ρ[i]? = some (.ex x) → σ[i]? = some (some (.ref Z.S.a)) ∧ RepX Z.K F Z.S.cls Z.S.d x
  dis : ∀ (i j : Nat) (p : Addr) (xs ys : List D), i ≠ j → ρ[i]? = some (.own xs) → ρ[j]? = some (.own ys) → σ[i]? = some (some (.ref p)) → σ[j]? ≠ some (some (.ref p))
  atM : ∀ (i : Nat) (m : M), ρ[i]? = some (.mt m) → ∃ v ps, σ[i]? = some (some v) ∧ RepM Z.K F H v m ps ∧ ps.Nodup ∧ (∀ p ∈ ps, F p = none ∧ Z.B p = none) ∧ ∀ (j : Nat) (xs : List D) (q : Addr), ρ[j]? = some (.own xs) → σ[j]? = some (some (.ref q)) → q ∉ ps
  oneM : ∀ (i j : Nat) (m n : M), ρ[i]? = some (.mt m) → ρ[j]? = some (.mt n) → i = j
  atL : ∀ (i : Nat) (xs : List D), ρ[i]? = some (.ln xs) → ∃ p vs, σ[i]? = some (some (.ref p)) ∧ SqL Z.K Z.S.L p vs ∧ RepL Z.K F vs xs
  pin : ∀ (v : V) (m : M), Z.S.me = some v → ρ[0]? = some (.mt m) → σ[0]? = some (some v)
/-- p is no address of what is still to be changed -/
def Apart (Z : Fx) (F H : Hp) (σ : St) (ρ : En) (p : Addr) : Prop := ∀ (i : Nat) (m : M) (v : V) (ps : List Addr), ρ[i]? = some (.mt m) → σ[i]? = some (some v) → RepM Z.K F H v m ps → p ∉ ps

/-- the heap has grown: new objects, some of them frozen -/
structure Ext (F H F' H' : Hp) : Prop where
  ff : Same F F'
  fh : Same F' H'
  hh : Same H H'
  new : ∀ a o, H a = some o → F' a = F a
theorem Ext.refl {F H : Hp} (s : Same F H) : Ext F H F H := ⟨Same.refl _, s, Same.refl _, fun _ _ _ => rfl⟩
theorem Ext.trans {F H F1 H1 F2 H2 : Hp} (a : Ext F H F1 H1) (b : Ext F1 H1 F2 H2) : Ext F H F2 H2 :=
  ⟨a.ff.trans b.ff, b.fh, a.hh.trans b.hh, fun c o h => (b.new c o (a.hh c o h)).trans (a.new c o h)⟩
theorem same_upd {H : Hp} {p : Addr} {o : HO} (h : H p = none) : Same H (upd H p o) := fun b u e => by
  rw [upd_ne (ne_of_none e h)]
  exact e
theorem none_of_same {F H : Hp} (s : Same F H) {p : Addr} (h : H p = none) : F p = none := s.free h
/-- a new object, frozen -/
theorem Ext.laid {F H : Hp} {p : Addr} {o : HO} (s : Same F H) (h : H p = none) : Ext F H (upd F p o) (upd H p o) := by
  have hf := none_of_same s h
  refine ⟨same_upd hf, fun b u e => ?_, same_upd h, fun b u e => by rw [upd_ne (ne_of_none e h)]⟩
  by_cases hb : b = p
  · subst hb
    rw [upd_same] at e ⊢
    exact e
  · rw [upd_ne hb] at e ⊢
    exact s _ _ e
theorem Fz.ext {Z : Fx} {F H F' H' : Hp} (z : Fz Z F H) (e : Ext F H F' H') : Fz Z F' H' :=
  ⟨z.f01.trans e.ff, e.fh, z.bH.trans e.hh, fun a o h => (e.new a o (z.bH a o h)).trans (z.new a o h), z.lB⟩
theorem St2.ext {Z : Fx} {F H F' H' : Hp} {σ : St} {ρ : En} (s : St2 Z F H σ ρ) (e : Ext F H F' H') : St2 Z F' H' σ ρ where
  fz := s.fz.ext e
  len := s.len
  atD := fun i d h => let ⟨v, h1, h2⟩ := s.atD i d h; ⟨v, h1, h2.mono e.ff⟩
  atO := fun i xs h => by
    obtain ⟨p, vs, h1, h2, h3, h4, h5⟩ := s.atO i xs h
    exact ⟨p, vs, h1, e.hh _ _ h2, (e.new _ _ h2).trans h3, h4, h5.mono e.ff⟩
  atX := fun i x h => let ⟨h1, h2⟩ := s.atX i x h; ⟨h1, h2.mono e.ff⟩
  dis := s.dis
  atM := fun i m h => by
    obtain ⟨v, ps, h1, h2, h3, h4, h5⟩ := s.atM i m h
    have th := RepM.there h2
    exact ⟨v, ps, h1, h2.move e.ff fun p hp => by
      obtain ⟨o, ho⟩ := th p hp
      rw [ho, e.hh _ _ ho], h3, fun p hp => by
      obtain ⟨o, ho⟩ := th p hp
      exact ⟨(e.new _ _ ho).trans (h4 p hp).1, (h4 p hp).2⟩, h5⟩
  oneM := s.oneM
  atL := fun i xs h => let ⟨p, vs, h1, h2, h3⟩ := s.atL i xs h; ⟨p, vs, h1, h2, h3.mono e.ff⟩
  pin := s.pin
/-- a new object, not frozen -/
theorem St2.laid {Z : Fx} {F H : Hp} {σ : St} {ρ : En} {p : Addr} {o : HO} (s : St2 Z F H σ ρ) (h : H p = none) : St2 Z F (upd H p o) σ ρ :=
  s.ext ⟨Same.refl _, s.fz.fH.trans (same_upd h), same_upd h, fun _ _ _ => rfl⟩
/-- an object of our own is frozen -/
theorem St2.freeze {Z : Fx} {F H : Hp} {σ : St} {ρ : En} {p : Addr} {o : HO} (s : St2 Z F H σ ρ) (h : H p = some o) (hf : F p = none) (hb : Z.B p = none) (hn : ∀ (i : Nat) (xs : List D), ρ[i]? = some (.own xs) → σ[i]? ≠ some (some (.ref p))) (ha : Apart Z F H σ ρ p) : St2 Z (upd F p o) H σ ρ where
  fz := ⟨s.fz.f01.trans (same_upd hf), fun b u e => by
      by_cases hbp : b = p
      · subst hbp
        rw [upd_same] at e
        rw [h]
        exact e
      · rw [upd_ne hbp] at e
        exact s.fz.fH _ _ e, s.fz.bH, fun a u e => by rw [upd_ne (ne_of_none e hb)]; exact s.fz.new a u e, s.fz.lB⟩
  len := s.len
  atD := fun i d h => let ⟨v, h1, h2⟩ := s.atD i d h; ⟨v, h1, h2.mono (same_upd hf)⟩
  atO := fun i xs h => by
    obtain ⟨q, vs, h1, h2, h3, h4, h5⟩ := s.atO i xs h
    refine ⟨q, vs, h1, h2, ?_, h4, h5.mono (same_upd hf)⟩
    rw [upd_ne (fun e => hn i xs h (by rw [← e]; exact h1))]
    exact h3
  atX := fun i x h => let ⟨h1, h2⟩ := s.atX i x h; ⟨h1, h2.mono (same_upd hf)⟩
  dis := s.dis
  atM := fun i m h => by
    obtain ⟨v, ps, h1, h2, h3, h4, h5⟩ := s.atM i m h
    have hp' := ha i m v ps h h1 h2
    exact ⟨v, ps, h1, h2.move (same_upd hf) fun _ _ => rfl, h3, fun q hq => by
      rw [upd_ne (fun z => hp' (by rw [← z]; exact hq))]
      exact h4 q hq, h5⟩
  oneM := s.oneM
  atL := fun i xs h => let ⟨q, vs, h1, h2, h3⟩ := s.atL i xs h; ⟨q, vs, h1, h2, h3.mono (same_upd hf)⟩
  pin := s.pin

/-- what is to hold behind, by a relation R of what the heap holds and the plain value -/
def Post {α β : Type} (R : Hp → β → α → Prop) (Z : Fx) (Wx : WX) (σ : St) (F : Hp) (r : Res α) (Q : β → Hp → Prop) : Prop := match r with
  | .ok d ρ' => ∀ v F' H', St2 Z F' H' σ ρ' → Same F F' → R F' v d → Q v H'
  | .exc x ρ' => ∀ cls dd F' H', St2 Z F' H' σ ρ' → Same F F' → RepX Z.K F' cls dd x → Wx cls dd σ H'
  | .bad => False
theorem Post.bind {α β α' β' : Type} {R : Hp → β → α → Prop} {R' : Hp → β' → α' → Prop} {Z : Fx} {Wx : WX} {σ : St} {F : Hp} {r : Res α'} {k : α' → En → Res α} {Q : β → Hp → Prop} {Q' : β' → Hp → Prop}
    (post : Post R Z Wx σ F (r.bind k) Q) (h : ∀ d ρ' v F' H', Post R Z Wx σ F' (k d ρ') Q → St2 Z F' H' σ ρ' → Same F F' → R' F' v d → Q' v H') : Post R' Z Wx σ F r Q' := by
  cases r with
  | bad => exact post
  | exc x ρ => exact post
  | ok d ρ =>
    intro v F' H' st s rr
    refine h d ρ v F' H' ?_ st s rr
    rw [Res.bind_ok] at post
    cases e : k d ρ with
    | bad => rw [e] at post; exact post
    | exc x ρ2 =>
      rw [e] at post
      exact fun cls dd F2 H2 st2 s2 r2 => post cls dd F2 H2 st2 (s.trans s2) r2
    | ok d2 ρ2 =>
      rw [e] at post
      exact fun v2 F2 H2 st2 s2 r2 => post v2 F2 H2 st2 (s.trans s2) r2
theorem Post.mono {α β : Type} {R : Hp → β → α → Prop} {Z : Fx} {Wx : WX} {σ : St} {F F' : Hp} {r : Res α} {Q : β → Hp → Prop} (post : Post R Z Wx σ F r Q) (s : Same F F') : Post R Z Wx σ F' r Q := by
  cases r with
  | bad => exact post
  | exc x ρ => exact fun cls dd F2 H2 st2 s2 r2 => post cls dd F2 H2 st2 (s.trans s2) r2
  | ok d ρ => exact fun v2 F2 H2 st2 s2 r2 => post v2 F2 H2 st2 (s.trans s2) r2
theorem Post.ofO {α β : Type} {R : Hp → β → α → Prop} {Z : Fx} {Wx : WX} {σ : St} {F : Hp} {o : Option α} {ρ : En} {Q : β → Hp → Prop} (post : Post R Z Wx σ F (ofO o ρ) Q) :
    ∃ a, o = some a ∧ ∀ v F' H', St2 Z F' H' σ ρ → Same F F' → R F' v a → Q v H' := by
  cases o with
  | none => exact post.elim
  | some a => exact ⟨a, rfl, post⟩

section
variable (X : Cx) (Wx : WX) (S : Sx)
abbrev fx (B F0 : Hp) : Fx := ⟨X.K, S, B, F0⟩
/-- an expression -/
structure EJ (e : Expr) (f : En → Res D) : Prop where
  ex : ∃ t, PE X e t ∧ ∀ B F0 F H σ ρ Q, St2 (fx X S B F0) F H σ ρ → Post (Rep X.K) (fx X S B F0) Wx σ F (f ρ) Q → t σ H Q
/-- an argument list -/
structure AJ (es : List Expr) (f : En → Res (List D)) : Prop where
  ex : ∃ t, PA X es t ∧ ∀ B F0 F H σ ρ Q, St2 (fx X S B F0) F H σ ρ → Post (RepL X.K) (fx X S B F0) Wx σ F (f ρ) Q → t σ H Q
/-- a test -/
structure TJ (e : Expr) (f : En → Res Bool) : Prop where
  ex : ∃ t, PT X e t ∧ ∀ B F0 F H σ ρ Q, St2 (fx X S B F0) F H σ ρ → Post (fun _ b c => b = c) (fx X S B F0) Wx σ F (f ρ) Q → t σ H Q
structure TWJ (e : Expr) (f : En → Res Bool) : Prop where
  ex : ∃ t, PW X e t ∧ ∀ B F0 F H σ ρ Q, St2 (fx X S B F0) F H σ ρ → Post (fun _ b c => b = c) (fx X S B F0) Wx σ F (f ρ) Q → t σ H Q
/-- a fresh list -/
def PostO (Z : Fx) (Wx : WX) (σ : St) (F : Hp) (r : Res (List D)) (Q : VK) : Prop := match r with
  | .ok xs ρ' => ∀ p vs F' H', St2 Z F' H' σ ρ' → Same F F' → H' p = some (.lst vs) → F' p = none → Z.B p = none → (∀ (i : Nat) (ys : List D), ρ'[i]? = some (.own ys) → σ[i]? ≠ some (some (.ref p))) → Apart Z F' H' σ ρ' p → RepL Z.K F' vs xs → Q (.ref p) H'
  | .exc x ρ' => ∀ cls dd F' H', St2 Z F' H' σ ρ' → Same F F' → RepX Z.K F' cls dd x → Wx cls dd σ H'
  | .bad => False
structure OJ (e : Expr) (f : En → Res (List D)) : Prop where
  ex : ∃ t, PE X e t ∧ ∀ B F0 F H σ ρ Q, St2 (fx X S B F0) F H σ ρ → PostO (fx X S B F0) Wx σ F (f ρ) Q → t σ H Q
def SPost (Z : Fx) (Wx : WX) (F : Hp) (r : Fl) (E : Ends) : Prop := match r with
  | .nx ρ' => ∀ σ' F' H', St2 Z F' H' σ' ρ' → Same F F' → E.nx σ' H'
  | .bk ρ' => ∀ σ' F' H', St2 Z F' H' σ' ρ' → Same F F' → E.bk σ' H'
  | .ct ρ' => ∀ σ' F' H', St2 Z F' H' σ' ρ' → Same F F' → E.ct σ' H'
  | .rt d => ∀ v F' H', Fz Z F' H' → Rep Z.K F' v d → E.rt v H'
  | .exc x ρ' => ∀ cls dd σ' F' H', St2 Z F' H' σ' ρ' → Same F F' → RepX Z.K F' cls dd x → Wx cls dd σ' H'
  | .bad => False
structure SJ (st : Stmt) (f : En → Fl) : Prop where
  ex : ∃ t, PS X st t ∧ ∀ B F0 F H σ ρ E, St2 (fx X S B F0) F H σ ρ → SPost (fx X S B F0) Wx F (f ρ) E → t E σ H
structure BJ (sts : List Stmt) (f : En → Fl) : Prop where
  ex : ∃ t, PSs X sts t ∧ ∀ B F0 F H σ ρ E, St2 (fx X S B F0) F H σ ρ → SPost (fx X S B F0) Wx F (f ρ) E → t E σ H
/-- a target; the value is frozen -/
structure GJ (tg : Expr) (g : D → En → Fl) : Prop where
  ex : ∃ t, PG X tg t ∧ ∀ B F0 F H σ ρ v d (Q : St → Hp → Prop), St2 (fx X S B F0) F H σ ρ → Rep X.K F v d → SPost (fx X S B F0) Wx F (g d ρ) { nx := Q, rt := fun _ _ => False } → t v σ H Q
end
end PD
set_option Elab.async false
set_option linter.all false
set_option maxRecDepth 100000
set_option maxHeartbeats 4000000
/-! PD2: rules: names, constants, operators, tests, displays. -/
namespace PD
open PySem PySem.Spec L2

abbrev lim : Nat := 1000000
theorem lim_le {n : Nat} (h : n ≤ lim) : n ≤ sizeLine := by
  rw [sizeLine_eq]
  have h' : n ≤ 1000000 := h
  omega
theorem lim_lt {n : Nat} (h : n < lim) : n < sizeLine := by
  rw [sizeLine_eq]
  have h' : n < 1000000 := h
  omega

section
variable {Z : Fx} {F H : Hp} {σ : St} {ρ : En}
theorem get_lt {α : Type} {l : List α} {i : Nat} {x : α} (h : l[i]? = some x) : i < l.length := (List.getElem?_eq_some_iff.mp h).1
theorem set_inv {α : Type} {l : List α} {i j : Nat} {x y : α} (h : (l.set i x)[j]? = some y) (hne : x ≠ y) : i ≠ j ∧ l[j]? = some y := by
  by_cases hij : i = j
  · subst hij
    rw [List.getElem?_set] at h
    simp only [↓reduceIte] at h
    split at h
    · exact absurd (Option.some.inj h) hne
    · cases h
  · rw [List.getElem?_set_ne hij] at h
    exact ⟨hij, h⟩
/-- what is still to be changed stands as before -/
theorem St2.keepM {σ' : St} {ρ' : En} (s : St2 Z F H σ ρ) (hρ : ∀ (j : Nat) (m : M), ρ'[j]? = some (Sl.mt m) → ρ[j]? = some (Sl.mt m) ∧ σ'[j]? = σ[j]?)
    (ho : ∀ (j : Nat) (xs : List D) (q : Addr), ρ'[j]? = some (.own xs) → σ'[j]? = some (some (.ref q)) → ((∃ ys, ρ[j]? = some (.own ys)) ∧ σ[j]? = some (some (.ref q))) ∨ Apart Z F H σ ρ q) :
    ∀ (i : Nat) (m : M), ρ'[i]? = some (.mt m) → ∃ v ps, σ'[i]? = some (some v) ∧ RepM Z.K F H v m ps ∧ ps.Nodup ∧ (∀ p ∈ ps, F p = none ∧ Z.B p = none) ∧ ∀ (j : Nat) (xs : List D) (q : Addr), ρ'[j]? = some (.own xs) → σ'[j]? = some (some (.ref q)) → q ∉ ps := fun i m h => by
  obtain ⟨e1, e2⟩ := hρ i m h
  obtain ⟨v, ps, h1, h2, h3, h4, h5⟩ := s.atM i m e1
  refine ⟨v, ps, by rw [e2]; exact h1, h2, h3, h4, fun j xs q hj hq => ?_⟩
  rcases ho j xs q hj hq with ⟨⟨ys, hy⟩, hz⟩ | z
  · exact h5 j ys q hy hz
  · exact z i m v ps e1 h1 h2
theorem St2.keepM1 {σ' : St} {ρ' : En} (s : St2 Z F H σ ρ) (hρ : ∀ (j : Nat) (m : M), ρ'[j]? = some (Sl.mt m) → ρ[j]? = some (Sl.mt m) ∧ σ'[j]? = σ[j]?) : ∀ (i j : Nat) (m n : M), ρ'[i]? = some (.mt m) → ρ'[j]? = some (.mt n) → i = j :=
  fun i j m n h1 h2 => s.oneM i j m n (hρ i m h1).1 (hρ j n h2).1
theorem St2.keepL {σ' : St} {ρ' : En} (s : St2 Z F H σ ρ) (hρ : ∀ (j : Nat) (xs : List D), ρ'[j]? = some (Sl.ln xs) → ρ[j]? = some (Sl.ln xs) ∧ σ'[j]? = σ[j]?) :
    ∀ (i : Nat) (xs : List D), ρ'[i]? = some (.ln xs) → ∃ p vs, σ'[i]? = some (some (.ref p)) ∧ SqL Z.K Z.S.L p vs ∧ RepL Z.K F vs xs := fun i xs h => by
  obtain ⟨e1, e2⟩ := hρ i xs h
  rw [e2]
  exact s.atL i xs e1
theorem St2.keepP {σ' : St} {ρ' : En} (s : St2 Z F H σ ρ) (hρ : ∀ (j : Nat) (m : M), ρ'[j]? = some (Sl.mt m) → ρ[j]? = some (Sl.mt m) ∧ σ'[j]? = σ[j]?) : ∀ (v : V) (m : M), Z.S.me = some v → ρ'[0]? = some (.mt m) → σ'[0]? = some (some v) := fun v m e h => by
  obtain ⟨e1, e2⟩ := hρ 0 m h
  rw [e2]
  exact s.pin v m e e1
/-- a slot is known as frozen data (or forgotten) -/
theorem St2.toD {i : Nat} {v : V} {d : D} (s : St2 Z F H σ ρ) (h : σ[i]? = some (some v)) (r : Rep Z.K F v d) : St2 Z F H σ (ρ.set i (.d d)) where
  fz := s.fz
  len := by rw [List.length_set]; exact s.len
  atD := fun j e hj => by
    by_cases hij : i = j
    · subst hij
      have hl : i < ρ.length := by rw [← s.len]; exact get_lt h
      rw [List.getElem?_set_self hl] at hj
      cases hj
      exact ⟨v, h, r⟩
    · rw [List.getElem?_set_ne hij] at hj
      exact s.atD j e hj
  atO := fun j e hj => by
    by_cases hij : i = j
    · subst hij
      have hl : i < ρ.length := by rw [← s.len]; exact get_lt h
      rw [List.getElem?_set_self hl] at hj
      cases hj
    · rw [List.getElem?_set_ne hij] at hj
      exact s.atO j e hj
  atX := fun j e hj => by
    by_cases hij : i = j
    · subst hij
      have hl : i < ρ.length := by rw [← s.len]; exact get_lt h
      rw [List.getElem?_set_self hl] at hj
      cases hj
    · rw [List.getElem?_set_ne hij] at hj
      exact s.atX j e hj
  dis := fun a b p xs ys hab h1 h2 h3 => by
    by_cases ha : i = a
    · subst ha
      have hl : i < ρ.length := by rw [← s.len]; exact get_lt h
      rw [List.getElem?_set_self hl] at h1
      cases h1
    · by_cases hb : i = b
      · subst hb
        have hl : i < ρ.length := by rw [← s.len]; exact get_lt h
        rw [List.getElem?_set_self hl] at h2
        cases h2
      · rw [List.getElem?_set_ne ha] at h1
        rw [List.getElem?_set_ne hb] at h2
        exact s.dis a b p xs ys hab h1 h2 h3
  atM := s.keepM (fun j m h => ⟨(set_inv h (fun z => by cases z)).2, rfl⟩) fun j xs q h hq => .inl ⟨⟨xs, (set_inv h (fun z => by cases z)).2⟩, hq⟩
  oneM := s.keepM1 (σ' := σ) fun j m h => ⟨(set_inv h (fun z => by cases z)).2, rfl⟩
  atL := s.keepL fun j m h => ⟨(set_inv h (fun z => by cases z)).2, rfl⟩
  pin := s.keepP fun j m h => ⟨(set_inv h (fun z => by cases z)).2, rfl⟩
theorem St2.toUn (i : Nat) (s : St2 Z F H σ ρ) : St2 Z F H σ (ρ.set i .un) where
  fz := s.fz
  len := by rw [List.length_set]; exact s.len
  atD := fun j e hj => by
    by_cases hij : i = j
    · subst hij
      rw [List.getElem?_set] at hj
      simp only [↓reduceIte] at hj
      split at hj <;> cases hj
    · rw [List.getElem?_set_ne hij] at hj
      exact s.atD j e hj
  atO := fun j e hj => by
    by_cases hij : i = j
    · subst hij
      rw [List.getElem?_set] at hj
      simp only [↓reduceIte] at hj
      split at hj <;> cases hj
    · rw [List.getElem?_set_ne hij] at hj
      exact s.atO j e hj
  atX := fun j e hj => by
    by_cases hij : i = j
    · subst hij
      rw [List.getElem?_set] at hj
      simp only [↓reduceIte] at hj
      split at hj <;> cases hj
    · rw [List.getElem?_set_ne hij] at hj
      exact s.atX j e hj
  dis := fun a b p xs ys hab h1 h2 h3 => by
    by_cases ha : i = a
    · subst ha
      rw [List.getElem?_set] at h1
      simp only [↓reduceIte] at h1
      split at h1 <;> cases h1
    · by_cases hb : i = b
      · subst hb
        rw [List.getElem?_set] at h2
        simp only [↓reduceIte] at h2
        split at h2 <;> cases h2
      · rw [List.getElem?_set_ne ha] at h1
        rw [List.getElem?_set_ne hb] at h2
        exact s.dis a b p xs ys hab h1 h2 h3
  atM := s.keepM (fun j m h => ⟨(set_inv h (fun z => by cases z)).2, rfl⟩) fun j xs q h hq => .inl ⟨⟨xs, (set_inv h (fun z => by cases z)).2⟩, hq⟩
  oneM := s.keepM1 (σ' := σ) fun j m h => ⟨(set_inv h (fun z => by cases z)).2, rfl⟩
  atL := s.keepL fun j m h => ⟨(set_inv h (fun z => by cases z)).2, rfl⟩
  pin := s.keepP fun j m h => ⟨(set_inv h (fun z => by cases z)).2, rfl⟩
/-- a slot is stored -/
theorem St2.storeUn {v : V} (i : Nat) (s : St2 Z F H σ ρ) : St2 Z F H (σ.set i (some v)) (ρ.set i .un) where
  fz := s.fz
  len := by rw [List.length_set, List.length_set]; exact s.len
  atD := fun j e hj => by
    by_cases hij : i = j
    · subst hij
      rw [List.getElem?_set] at hj
      simp only [↓reduceIte] at hj
      split at hj <;> cases hj
    · rw [List.getElem?_set_ne hij] at hj ⊢
      exact s.atD j e hj
  atO := fun j e hj => by
    by_cases hij : i = j
    · subst hij
      rw [List.getElem?_set] at hj
      simp only [↓reduceIte] at hj
      split at hj <;> cases hj
    · rw [List.getElem?_set_ne hij] at hj ⊢
      exact s.atO j e hj
  atX := fun j e hj => by
    by_cases hij : i = j
    · subst hij
      rw [List.getElem?_set] at hj
      simp only [↓reduceIte] at hj
      split at hj <;> cases hj
    · rw [List.getElem?_set_ne hij] at hj ⊢
      exact s.atX j e hj
  dis := fun a b p xs ys hab h1 h2 h3 => by
    by_cases ha : i = a
    · subst ha
      rw [List.getElem?_set] at h1
      simp only [↓reduceIte] at h1
      split at h1 <;> cases h1
    · by_cases hb : i = b
      · subst hb
        rw [List.getElem?_set] at h2
        simp only [↓reduceIte] at h2
        split at h2 <;> cases h2
      · rw [List.getElem?_set_ne ha] at h1 h3
        rw [List.getElem?_set_ne hb] at h2 ⊢
        exact s.dis a b p xs ys hab h1 h2 h3
  atM := s.keepM (fun j m h => ⟨(set_inv h (fun z => by cases z)).2, List.getElem?_set_ne (set_inv h (fun z => by cases z)).1⟩) fun j xs q h hq => by
    obtain ⟨e1, e2⟩ := set_inv h (fun z => by cases z)
    rw [List.getElem?_set_ne e1] at hq
    exact .inl ⟨⟨xs, e2⟩, hq⟩
  oneM := s.keepM1 (σ' := σ.set i (some v)) fun j m h => ⟨(set_inv h (fun z => by cases z)).2, List.getElem?_set_ne (set_inv h (fun z => by cases z)).1⟩
  atL := s.keepL fun j m h => ⟨(set_inv h (fun z => by cases z)).2, List.getElem?_set_ne (set_inv h (fun z => by cases z)).1⟩
  pin := s.keepP fun j m h => ⟨(set_inv h (fun z => by cases z)).2, List.getElem?_set_ne (set_inv h (fun z => by cases z)).1⟩
theorem set_set {α : Type} (l : List α) (i : Nat) (x y : α) : (l.set i x).set i y = l.set i y := by simp
theorem St2.store {i : Nat} {v : V} {d : D} (s : St2 Z F H σ ρ) (hi : i < ρ.length) (r : Rep Z.K F v d) : St2 Z F H (σ.set i (some v)) (ρ.set i (.d d)) := by
  have h := (s.storeUn (v := v) i).toD (i := i) (v := v) (d := d) (by rw [List.getElem?_set_self (by rw [s.len]; exact hi)]) r
  rw [set_set] at h
  exact h
/-- a slot gets a list of its own -/
theorem St2.storeO {i : Nat} {p : Addr} {vs : List V} {xs : List D} (s : St2 Z F H σ ρ) (hi : i < ρ.length) (hp : H p = some (.lst vs)) (hf : F p = none) (hb : Z.B p = none)
    (hn : ∀ (j : Nat) (ys : List D), ρ[j]? = some (.own ys) → σ[j]? ≠ some (some (.ref p))) (ha : Apart Z F H σ ρ p) (r : RepL Z.K F vs xs) : St2 Z F H (σ.set i (some (.ref p))) (ρ.set i (.own xs)) := by
  have hs : i < σ.length := by rw [s.len]; exact hi
  have g : ∀ (j : Nat), i ≠ j → (ρ.set i (.own xs))[j]? = ρ[j]? := fun j h => List.getElem?_set_ne h
  have g2 : ∀ (j : Nat), i ≠ j → (σ.set i (some (.ref p)))[j]? = σ[j]? := fun j h => List.getElem?_set_ne h
  have g3 : (ρ.set i (.own xs))[i]? = some (.own xs) := List.getElem?_set_self hi
  have g4 : (σ.set i (some (.ref p)))[i]? = some (some (.ref p)) := List.getElem?_set_self hs
  refine ⟨s.fz, by rw [List.length_set, List.length_set]; exact s.len, fun j e hj => ?_, fun j e hj => ?_, fun j e hj => ?_, fun a b q us ws hab h1 h2 h3 => ?_, ?_, s.keepM1 (σ' := σ.set i (some (.ref p))) fun j m h => ⟨(set_inv h (fun z => by cases z)).2, List.getElem?_set_ne (set_inv h (fun z => by cases z)).1⟩, s.keepL fun j m h => ⟨(set_inv h (fun z => by cases z)).2, List.getElem?_set_ne (set_inv h (fun z => by cases z)).1⟩, s.keepP fun j m h => ⟨(set_inv h (fun z => by cases z)).2, List.getElem?_set_ne (set_inv h (fun z => by cases z)).1⟩⟩
  · by_cases hij : i = j
    · subst hij
      rw [g3] at hj
      cases hj
    · rw [g j hij] at hj
      rw [g2 j hij]
      exact s.atD j e hj
  · by_cases hij : i = j
    · subst hij
      rw [g3] at hj
      cases hj
      exact ⟨p, vs, g4, hp, hf, hb, r⟩
    · rw [g j hij] at hj
      rw [g2 j hij]
      exact s.atO j e hj
  · by_cases hij : i = j
    · subst hij
      rw [g3] at hj
      cases hj
    · rw [g j hij] at hj
      rw [g2 j hij]
      exact s.atX j e hj
  · by_cases ha : i = a
    · subst ha
      rw [g4] at h3
      cases h3
      rw [g b hab] at h2
      rw [g2 b hab]
      exact hn b ws h2
    · rw [g a ha] at h1
      rw [g2 a ha] at h3
      by_cases hb2 : i = b
      · subst hb2
        rw [g4]
        intro e
        cases e
        exact hn a us h1 h3
      · rw [g b hb2] at h2
        rw [g2 b hb2]
        exact s.dis a b q us ws hab h1 h2 h3
  · refine s.keepM (fun j m h => ⟨(set_inv h (fun z => by cases z)).2, List.getElem?_set_ne (set_inv h (fun z => by cases z)).1⟩) fun j us q h hq => ?_
    by_cases hij : i = j
    · subst hij
      rw [g4] at hq
      cases hq
      exact .inr ha
    · rw [g j hij] at h
      rw [g2 j hij] at hq
      exact .inl ⟨⟨us, h⟩, hq⟩
/-- the list of a slot is changed -/
theorem St2.change {i : Nat} {p : Addr} {ws : List V} {xs ys : List D} (s : St2 Z F H σ ρ) (hi : ρ[i]? = some (.own xs)) (hp : σ[i]? = some (some (.ref p))) (r : RepL Z.K F ws ys) : St2 Z F (upd H p (.lst ws)) σ (ρ.set i (.own ys)) := by
  have hl : i < ρ.length := get_lt hi
  obtain ⟨p', vs, h1, h2, h3, h4, h5⟩ := s.atO i xs hi
  rw [hp] at h1
  cases h1
  have g : ∀ (j : Nat), i ≠ j → (ρ.set i (.own ys))[j]? = ρ[j]? := fun j h => List.getElem?_set_ne h
  have g3 : (ρ.set i (.own ys))[i]? = some (.own ys) := List.getElem?_set_self hl
  have hF : ∀ b u, F b = some u → b ≠ p := fun b u e z => by rw [z, h3] at e; cases e
  refine ⟨⟨s.fz.f01, fun b u e => by rw [upd_ne (hF b u e)]; exact s.fz.fH b u e, fun b u e => ?_, s.fz.new, s.fz.lB⟩, by rw [List.length_set]; exact s.len, fun j e hj => ?_, fun j e hj => ?_, fun j e hj => ?_, fun a b q us ws hab e1 e2 e3 => ?_, fun j m hj => ?_, s.keepM1 (σ' := σ) fun j m h => ⟨(set_inv h (fun z => by cases z)).2, rfl⟩, s.keepL fun j m h => ⟨(set_inv h (fun z => by cases z)).2, rfl⟩, s.keepP fun j m h => ⟨(set_inv h (fun z => by cases z)).2, rfl⟩⟩
  · rw [upd_ne (fun z => by rw [z, h4] at e; cases e)]
    exact s.fz.bH b u e
  · by_cases hij : i = j
    · subst hij
      rw [g3] at hj
      cases hj
    · rw [g j hij] at hj
      exact s.atD j e hj
  · by_cases hij : i = j
    · subst hij
      rw [g3] at hj
      cases hj
      exact ⟨p, ws, hp, upd_same, h3, h4, r⟩
    · rw [g j hij] at hj
      obtain ⟨q, us, e1, e2, e3, e4, e5⟩ := s.atO j e hj
      refine ⟨q, us, e1, ?_, e3, e4, e5⟩
      rw [upd_ne (fun z => by rw [z] at e1; exact s.dis i j p xs e hij hi hj hp e1)]
      exact e2
  · by_cases hij : i = j
    · subst hij
      rw [g3] at hj
      cases hj
    · rw [g j hij] at hj
      exact s.atX j e hj
  · have o : ∀ (c : Nat) (zs : List D), (ρ.set i (.own ys))[c]? = some (.own zs) → ∃ zs', ρ[c]? = some (.own zs') := fun c zs e => by
      by_cases hc : i = c
      · subst hc
        exact ⟨xs, hi⟩
      · rw [g c hc] at e
        exact ⟨zs, e⟩
    obtain ⟨z1, e1'⟩ := o a us e1
    obtain ⟨z2, e2'⟩ := o b ws e2
    exact s.dis a b q z1 z2 hab e1' e2' e3
  · obtain ⟨e1, e2⟩ := set_inv hj (fun z => by cases z)
    obtain ⟨v, ps, q1, q2, q3, q4, q5⟩ := s.atM j m e2
    have hpn : p ∉ ps := q5 i xs p hi hp
    refine ⟨v, ps, q1, q2.move (Same.refl _) (fun q hq => upd_ne (fun z => hpn (by rw [← z]; exact hq))), q3, q4, fun k us q hk hq => ?_⟩
    by_cases hik : i = k
    · subst hik
      rw [hp] at hq
      cases hq
      exact hpn
    · rw [g k hik] at hk
      exact q5 k us q hk hq
/-- the list of a slot is frozen -/
theorem St2.frzSlot {i : Nat} {xs : List D} (s : St2 Z F H σ ρ) (hi : ρ[i]? = some (.own xs)) : ∃ p F', σ[i]? = some (some (.ref p)) ∧ Same F F' ∧ Rep Z.K F' (.ref p) (.lst xs) ∧ St2 Z F' H σ (ρ.set i (.d (.lst xs))) := by
  obtain ⟨p, vs, h1, h2, h3, h4, h5⟩ := s.atO i xs hi
  have s1 := (s.toUn i).freeze (p := p) (o := .lst vs) h2 h3 h4 (fun j ys hj => by
    by_cases hij : i = j
    · subst hij
      rw [List.getElem?_set] at hj
      simp only [↓reduceIte] at hj
      split at hj <;> cases hj
    · rw [List.getElem?_set_ne hij] at hj
      exact s.dis i j p xs ys hij hi hj h1) (fun j m v ps hj hv hr => by
    obtain ⟨e1, e2⟩ := set_inv hj (fun z => by cases z)
    obtain ⟨v', ps', q1, q2, _, _, q5⟩ := s.atM j m e2
    rw [hv] at q1
    cases q1
    rw [RepM.uni hr q2]
    exact q5 i xs p hi h1)
  have r : Rep Z.K (upd F p (.lst vs)) (.ref p) (.lst xs) := .lst (.inl (.inl upd_same)) (h5.mono (same_upd h3))
  have s2 := s1.toD (i := i) (v := .ref p) h1 r
  rw [set_set] at s2
  exact ⟨p, upd F p (.lst vs), h1, same_upd h3, r, s2⟩
end

section
variable {X : Cx} {Wx : WX} {S : Sx}

/-! ### names, constants -/
def fVar (i : Nat) : En → Res D := fun ρ => match ρ[i]? with
  | some (.d d) => .ok d ρ
  | some (.own xs) => .ok (.lst xs) (ρ.set i (.d (.lst xs)))
  | _ => .bad
theorem ej_var (i : Nat) {x : Str} {pos : Pos} (hN : X.N[i]? = some x := by rfl) (hv : Vis X.env.scope x := by first | exact Or.inl rfl | exact Or.inr (Or.inl rfl) | exact Or.inr (Or.inr rfl)) (hd : (x == ("__debug__" : Str)) = false := by decide)
    (hcd : (x == ("__classdict__" : Str)) = false := by decide) : EJ X Wx S (.Name x pos) (fVar i) := by
  refine ⟨_, pe_var hN hv hd hcd, fun B F0 F H σ ρ Q st post => ?_⟩
  unfold fVar at post
  split at post
  · rename_i d e
    obtain ⟨v, h1, h2⟩ := st.atD i d e
    exact ⟨v, h1, post v F H st (Same.refl _) h2⟩
  · rename_i xs e
    obtain ⟨p, F', h1, h2, h3, h4⟩ := st.frzSlot e
    exact ⟨.ref p, h1, post _ F' H h4 h2 h3⟩
  · exact post.elim
def fC (d : D) : En → Res D := fun ρ => .ok d ρ
theorem ej_int {i : Int} {j : Nat} {pos : Pos} : EJ X Wx S (.Constant (.int i) j pos) (fC (.int i)) := ⟨_, pe_int, fun _ _ F H _ _ _ st post => post _ F H st (Same.refl _) (.int i)⟩
theorem ej_bl {i : Bool} {j : Nat} {pos : Pos} : EJ X Wx S (.Constant (.bool i) j pos) (fC (.bl i)) := ⟨_, pe_bl, fun _ _ F H _ _ _ st post => post _ F H st (Same.refl _) (.bl i)⟩
theorem ej_non {j : Nat} {pos : Pos} : EJ X Wx S (.Constant .none j pos) (fC .non) := ⟨_, pe_non, fun _ _ F H _ _ _ st post => post _ F H st (Same.refl _) .non⟩
theorem ej_str {i : Str} {j : Nat} {pos : Pos} : EJ X Wx S (.Constant (.str i) j pos) (fC (.str i)) := ⟨_, pe_str, fun _ _ F H _ _ _ st post => post _ F H st (Same.refl _) (.str i)⟩
/-- a module's constant -/
structure GlJ (X : Cx) (x : Str) (d : D) : Prop where
  ex : ∃ u v, X.mg x = some u ∧ RelV v u ∧ ∀ F, Rep X.K F v d
theorem ej_glob {x : Str} {d : D} {pos : Pos} (G : GlJ X x d) (hg : Gl X x := by rfl) (hd : (x == ("__debug__" : Str)) = false := by decide) : EJ X Wx S (.Name x pos) (fC d) := by
  obtain ⟨u, v, h1, h2, h3⟩ := G.ex
  exact ⟨_, pe_glob hg h1 h2 hd, fun _ _ F H _ _ _ st post => post _ F H st (Same.refl _) (h3 F)⟩
/-- a builtin type as a value -/
theorem ej_ty {x : Str} {n : String} {pos : Pos} (hm : X.mg x = none) (hv : bootBuiltins x = some (.type n) := by decide +kernel) (hg : Gl X x := by rfl) (hn : x ≠ "__name__" := by decide) (hd : (x == ("__debug__" : Str)) = false := by decide) : EJ X Wx S (.Name x pos) (fC (.ty n)) :=
  ⟨_, pe_bltn (v := .ty n) hg hm hv rfl hn hd, fun _ _ F H _ _ _ st post => post _ F H st (Same.refl _) (.ty n)⟩

/-! ### operators -/
/-- an operation on values by its plain function -/
def OpJ (X : Cx) (f : Value → Value → Sem Value) (g : D → D → Option D) : Prop :=
  ∃ r, OpR X f r ∧ ∀ F H x y d e z Q, Same F H → Rep X.K F x d → Rep X.K F y e → g d e = some z → (∀ v F' H', Ext F H F' H' → Rep X.K F' v z → Q v H') → r x y H Q
theorem OpJ.or {f : Value → Value → Sem Value} {g1 g2 : D → D → Option D} (h1 : OpJ X f g1) (h2 : OpJ X f g2) : OpJ X f (fun d e => (g1 d e).orElse fun _ => g2 d e) := by
  obtain ⟨r1, p1, q1⟩ := h1
  obtain ⟨r2, p2, q2⟩ := h2
  refine ⟨_, p1.or p2, fun F H x y d e z Q s rx ry hz k => ?_⟩
  replace hz : (g1 d e).orElse (fun _ => g2 d e) = some z := hz
  cases e1 : g1 d e with
  | some w =>
    rw [e1] at hz
    cases hz
    exact .inl (q1 F H x y d e _ Q s rx ry e1 k)
  | none =>
    rw [e1] at hz
    exact .inr (q2 F H x y d e z Q s rx ry hz k)
theorem OpJ.imp {f : Value → Value → Sem Value} {g g' : D → D → Option D} (h : OpJ X f g) (i : ∀ d e z, g' d e = some z → g d e = some z) : OpJ X f g' := by
  obtain ⟨r, p, q⟩ := h
  exact ⟨r, p, fun F H x y d e z Q s rx ry hz k => q F H x y d e z Q s rx ry (i d e z hz) k⟩
/-- a pure one: the heap stays -/
theorem OpJ.pure {f : Value → Value → Sem Value} {g : D → D → Option D} {r : R2} (ho : OpR X f r) (h : ∀ F H x y d e z (Q : VK), Same F H → Rep X.K F x d → Rep X.K F y e → g d e = some z → (∀ v, Rep X.K F v z → Q v H) → r x y H Q) : OpJ X f g :=
  ⟨r, ho, fun F H x y d e z Q s rx ry hz k => h F H x y d e z Q s rx ry hz fun v rv => k v F H (Ext.refl s) rv⟩
def fBin (g : D → D → Option D) (fa fb : En → Res D) : En → Res D := fun ρ => (fa ρ).bind fun x ρ1 => (fb ρ1).bind fun y ρ2 => ofO (g x y) ρ2
section
variable {a b c : Expr} {pos : Pos} {fa fb fc : En → Res D} {g : D → D → Option D}
theorem fin_op {Z : Fx} {r : R2} {F2 H2 : Hp} {σ : St} {ρ : En} {x y : V} {d e : D} {Q : VK} (q : ∀ F H x y d e z Q, Same F H → Rep Z.K F x d → Rep Z.K F y e → g d e = some z → (∀ v F' H', Ext F H F' H' → Rep Z.K F' v z → Q v H') → r x y H Q)
    (post : Post (Rep Z.K) Z Wx σ F2 (ofO (g d e) ρ) Q) (st : St2 Z F2 H2 σ ρ) (rx : Rep Z.K F2 x d) (ry : Rep Z.K F2 y e) : r x y H2 Q := by
  obtain ⟨z, hz, k⟩ := post.ofO
  exact q F2 H2 x y d e z Q st.fz.fH rx ry hz fun v F' H' ex rv => k v F' H' (st.ext ex) ex.ff rv
theorem ej_bin {op : Operator} (ho : OpJ X (binaryOp op) g) (ha : EJ X Wx S a fa) (hb : EJ X Wx S b fb) : EJ X Wx S (.BinOp a op b pos) (fBin g fa fb) := by
  obtain ⟨ta, pa, qa⟩ := ha.ex
  obtain ⟨tb, pb, qb⟩ := hb.ex
  obtain ⟨r, pr, qr⟩ := ho
  refine ⟨_, pe_op pr pa pb, fun B F0 F H σ ρ Q st post => ?_⟩
  refine qa B F0 F H σ ρ _ st (post.bind fun d ρ1 v F1 H1 post1 st1 s1 r1 => ?_)
  refine qb B F0 F1 H1 σ ρ1 _ st1 (post1.bind fun e ρ2 u F2 H2 post2 st2 s2 r2 => ?_)
  exact fin_op qr post2 st2 (r1.mono s2) r2
theorem ej_cmp {op : CmpOp} (ho : OpJ X (compareOp op) g) (ha : EJ X Wx S a fa) (hb : EJ X Wx S b fb) (hm : behindInMarks op b = false := by first | exact nomark _ | rfl) : EJ X Wx S (.Compare a [op] [b] pos) (fBin g fa fb) := by
  obtain ⟨ta, pa, qa⟩ := ha.ex
  obtain ⟨tb, pb, qb⟩ := hb.ex
  obtain ⟨r, pr, qr⟩ := ho
  refine ⟨_, pe_cmpR pr pa pb hm, fun B F0 F H σ ρ Q st post => ?_⟩
  refine qa B F0 F H σ ρ _ st (post.bind fun d ρ1 v F1 H1 post1 st1 s1 r1 => ?_)
  refine qb B F0 F1 H1 σ ρ1 _ st1 (post1.bind fun e ρ2 u F2 H2 post2 st2 s2 r2 => ?_)
  exact fin_op qr post2 st2 (r1.mono s2) r2
/-- the left side is a name: it is read late, and not frozen -/
def slotD (ρ : En) (i : Nat) : Option D := match ρ[i]? with
  | some (.d d) => some d
  | some (.own xs) => some (.lst xs)
  | _ => none
theorem slot_rep {Z : Fx} {F H : Hp} {σ : St} {ρ : En} {i : Nat} {d : D} (s : St2 Z F H σ ρ) (h : slotD ρ i = some d) : ∃ v F', σ[i]? = some (some v) ∧ Same F F' ∧ Same F' H ∧ (∀ a o, H a = some o → F' a = F a ∨ ∃ xs, ρ[i]? = some (.own xs)) ∧ Rep Z.K F' v d := by
  unfold slotD at h
  split at h
  · rename_i e he
    cases h
    obtain ⟨v, h1, h2⟩ := s.atD i _ he
    exact ⟨v, F, h1, Same.refl _, s.fz.fH, fun _ _ _ => .inl rfl, h2⟩
  · rename_i xs he
    cases h
    obtain ⟨p, F', h1, h2, h3, h4⟩ := s.frzSlot he
    exact ⟨.ref p, F', h1, h2, h4.fz.fH, fun _ _ _ => .inr ⟨xs, he⟩, h3⟩
  · cases h
end

/-! ### conditional -/
def fIf (c : En → Res Bool) (fa fb : En → Res D) : En → Res D := fun ρ => (c ρ).bind fun k ρ1 => if k = true then fa ρ1 else fb ρ1
theorem ej_if {c a b : Expr} {pos : Pos} {fc : En → Res Bool} {fa fb : En → Res D} (hc : TJ X Wx S c fc) (ha : EJ X Wx S a fa) (hb : EJ X Wx S b fb) : EJ X Wx S (.IfExp c a b pos) (fIf fc fa fb) := by
  obtain ⟨tc, pc, qc⟩ := hc.ex
  obtain ⟨ta, pa, qa⟩ := ha.ex
  obtain ⟨tb, pb, qb⟩ := hb.ex
  refine ⟨_, pe_ifExp pc pa pb, fun B F0 F H σ ρ Q st post => ?_⟩
  refine qc B F0 F H σ ρ _ st (post.bind fun d ρ1 v F1 H1 post1 st1 s1 r1 => ?_)
  cases r1
  cases d with
  | true => exact iteT (qa B F0 F1 H1 σ ρ1 Q st1 post1)
  | false => exact iteF (qb B F0 F1 H1 σ ρ1 Q st1 post1)

/-! ### tests -/
def boolD : D → Option Bool
  | .bl b => some b
  | _ => none
def truD : D → Option Bool
  | .non => some false
  | .bl b => some b
  | .int i => some (i != 0)
  | .str s => if s.length ≤ lim then some (s.length != 0) else none
  | .lst xs => some (!xs.isEmpty)
  | .tup xs => some (!xs.isEmpty)
  | _ => none
def fTst (p : D → Option Bool) (f : En → Res D) : En → Res Bool := fun ρ => (f ρ).bind fun d ρ1 => ofO (p d) ρ1
section
variable {a b c : Expr} {rest : List Expr} {pos : Pos} {fa : En → Res D} {f g : En → Res Bool}
/-- an expression that gives a bool -/
theorem tj_val (ha : EJ X Wx S a fa) (he : ∀ whole, isTrue a X.env whole = (do let v ← whole; standAt a.pos; holding [v] (truthy v)) := by intro _; rfl) : TJ X Wx S a (fTst boolD fa) := by
  obtain ⟨ta, pa, qa⟩ := ha.ex
  refine ⟨_, pt_val pa he, fun B F0 F H σ ρ Q st post => ?_⟩
  refine qa B F0 F H σ ρ _ st (post.bind fun d ρ1 v F1 H1 post1 st1 s1 r1 => ?_)
  obtain ⟨k, hk, q⟩ := post1.ofO
  cases r1 <;> first | cases hk | skip
  exact ⟨_, rfl, q _ F1 H1 st1 (Same.refl _) rfl⟩
theorem isEmpty_len {α β : Type} {xs : List α} {ys : List β} (h : xs.length = ys.length) : (!xs.isEmpty) = !ys.isEmpty := by
  cases xs <;> cases ys <;> first | rfl | cases h
theorem tj_cmp {op : CmpOp} {gg : D → D → Option D} {fb : En → Res D} (ho : OpJ X (compareOp op) gg) (ha : EJ X Wx S a fa) (hb : EJ X Wx S b fb) (hm : behindInMarks op b = false := by first | exact nomark _ | rfl) : TJ X Wx S (.Compare a [op] [b] pos) (fTst boolD (fBin gg fa fb)) := by
  obtain ⟨ta, pa, qa⟩ := ha.ex
  obtain ⟨tb, pb, qb⟩ := hb.ex
  obtain ⟨r, pr, qr⟩ := ho
  refine ⟨_, pt_cmpR pr pa pb hm, fun B F0 F H σ ρ Q st post => ?_⟩
  have post' : Post (Rep X.K) (fx X S B F0) Wx σ F (fBin gg fa fb ρ) (fun x H' => ∃ k, x = V.bl k ∧ Q k H') := post.bind fun d ρ1 v F1 H1 post1 st1 s1 r1 => by
    obtain ⟨k, hk, q⟩ := post1.ofO
    cases r1 <;> first | cases hk | skip
    exact ⟨_, rfl, q _ F1 H1 st1 (Same.refl _) rfl⟩
  refine qa B F0 F H σ ρ _ st (post'.bind fun d ρ1 v F1 H1 post1 st1 s1 r1 => ?_)
  refine qb B F0 F1 H1 σ ρ1 _ st1 (post1.bind fun e ρ2 u F2 H2 post2 st2 s2 r2 => ?_)
  exact fin_op qr post2 st2 (r1.mono s2) r2
/-- the truth of any data -/
theorem tru_rep {K : PySem.W.Frag} {F H : Hp} {v : V} {d : D} {k : Bool} (s : Same F H) (r : Rep K F v d) (h : truD d = some k) : TruV K v H k := by
  cases r <;> (try (cases h; done))
  case non => cases h; rfl
  case bl => cases h; rfl
  case int => cases h; rfl
  case str x =>
    replace h : (if x.length ≤ lim then some (x.length != 0) else none) = some k := h
    split at h
    · rename_i hl
      cases h
      refine ⟨lim_le hl, ?_⟩
      generalize x.length = n
      cases n with
      | zero => rfl
      | succ n =>
        have e : ((n + 1 : Nat) != 0) = true := by simp
        have e2 : (((n + 1 : Nat) : Int) != 0) = true := by
          have : ((n + 1 : Nat) : Int) ≠ 0 := by omega
          simpa using this
        rw [e, e2]
    · cases h
  case lst a vs ds h1 h2 =>
    cases h
    exact .inl ⟨vs, Same.seq s h1, isEmpty_len h2.length.symm⟩
  case tup a vs ds h1 h2 =>
    cases h
    exact .inr (.inl ⟨vs, Same.seqT s h1, isEmpty_len h2.length.symm⟩)
theorem tj_tru (ha : EJ X Wx S a fa) (he : ∀ whole, isTrue a X.env whole = (do let v ← whole; standAt a.pos; holding [v] (truthy v)) := by intro _; rfl) : TJ X Wx S a (fTst truD fa) := by
  obtain ⟨ta, pa, qa⟩ := ha.ex
  refine ⟨_, pt_truth pa he, fun B F0 F H σ ρ Q st post => ?_⟩
  refine qa B F0 F H σ ρ _ st (post.bind fun d ρ1 v F1 H1 post1 st1 s1 r1 => ?_)
  obtain ⟨k, hk, q⟩ := post1.ofO
  exact ⟨k, tru_rep st1.fz.fH r1 hk, q _ F1 H1 st1 (Same.refl _) rfl⟩
/-- a name, read late -/
def fTruN (i : Nat) : En → Res Bool := fun ρ => ofO ((slotD ρ i).bind truD) ρ
theorem tj_truN (i : Nat) {x : Str} {pos : Pos} (hN : X.N[i]? = some x := by rfl) (hv : Vis X.env.scope x := by first | exact Or.inl rfl | exact Or.inr (Or.inl rfl) | exact Or.inr (Or.inr rfl)) (hd : (x == ("__debug__" : Str)) = false := by decide)
    (hcd : (x == ("__classdict__" : Str)) = false := by decide) (he : ∀ whole, isTrue (.Name x pos) X.env whole = (do let v ← whole; standAt (Expr.Name x pos).pos; holding [v] (truthy v)) := by intro _; rfl) : TJ X Wx S (.Name x pos) (fTruN i) := by
  refine ⟨_, pt_truth (pe_var hN hv hd hcd) he, fun B F0 F H σ ρ Q st post => ?_⟩
  obtain ⟨k, hk, q⟩ := post.ofO
  cases hs : slotD ρ i with
  | none => rw [hs] at hk; cases hk
  | some d =>
    rw [hs] at hk
    obtain ⟨v, F', h1, h2, h3, _, h4⟩ := slot_rep st hs
    exact ⟨v, h1, k, tru_rep h3 h4 hk, q _ F H st (Same.refl _) rfl⟩
def fNot (f : En → Res Bool) : En → Res Bool := fun ρ => (f ρ).bind fun c ρ1 => .ok (!c) ρ1
theorem tj_not (ha : TJ X Wx S a f) : TJ X Wx S (.UnaryOp .Not a pos) (fNot f) := by
  obtain ⟨ta, pa, qa⟩ := ha.ex
  refine ⟨_, pt_not pa, fun B F0 F H σ ρ Q st post => ?_⟩
  refine qa B F0 F H σ ρ _ st (post.bind fun d ρ1 v F1 H1 post1 st1 s1 r1 => ?_)
  cases r1
  exact post1 _ F1 H1 st1 (Same.refl _) rfl
def fAnd (f g : En → Res Bool) : En → Res Bool := fun ρ => (f ρ).bind fun c ρ1 => if c = true then g ρ1 else .ok false ρ1
def fOr (f g : En → Res Bool) : En → Res Bool := fun ρ => (f ρ).bind fun c ρ1 => if c = true then .ok true ρ1 else g ρ1
theorem twj_and1 (ha : TJ X Wx S a f) : TWJ X Wx S (.BoolOp .And [a] pos) f := by
  obtain ⟨ta, pa, qa⟩ := ha.ex
  exact ⟨_, pw_and1 pa, qa⟩
theorem twj_or1 (ha : TJ X Wx S a f) : TWJ X Wx S (.BoolOp .Or [a] pos) f := by
  obtain ⟨ta, pa, qa⟩ := ha.ex
  exact ⟨_, pw_or1 pa, qa⟩
theorem twj_and (ha : TJ X Wx S a f) (hb : TWJ X Wx S (.BoolOp .And (b :: rest) pos) g) : TWJ X Wx S (.BoolOp .And (a :: b :: rest) pos) (fAnd f g) := by
  obtain ⟨ta, pa, qa⟩ := ha.ex
  obtain ⟨tb, pb, qb⟩ := hb.ex
  refine ⟨_, pw_and pa pb, fun B F0 F H σ ρ Q st post => ?_⟩
  refine qa B F0 F H σ ρ _ st (post.bind fun d ρ1 v F1 H1 post1 st1 s1 r1 => ?_)
  cases r1
  cases d with
  | true => exact iteT (qb B F0 F1 H1 σ ρ1 Q st1 post1)
  | false => exact iteF (post1 _ F1 H1 st1 (Same.refl _) rfl)
theorem twj_or (ha : TJ X Wx S a f) (hb : TWJ X Wx S (.BoolOp .Or (b :: rest) pos) g) : TWJ X Wx S (.BoolOp .Or (a :: b :: rest) pos) (fOr f g) := by
  obtain ⟨ta, pa, qa⟩ := ha.ex
  obtain ⟨tb, pb, qb⟩ := hb.ex
  refine ⟨_, pw_or pa pb, fun B F0 F H σ ρ Q st post => ?_⟩
  refine qa B F0 F H σ ρ _ st (post.bind fun d ρ1 v F1 H1 post1 st1 s1 r1 => ?_)
  cases r1
  cases d with
  | true => exact iteT (post1 _ F1 H1 st1 (Same.refl _) rfl)
  | false => exact iteF (qb B F0 F1 H1 σ ρ1 Q st1 post1)
theorem TWJ.tj {e : Expr} (h : TWJ X Wx S e f) : TJ X Wx S e f := by
  obtain ⟨t, p, q⟩ := h.ex
  exact ⟨t, p.pt, q⟩
end

/-! ### argument lists, displays -/
def aNil : En → Res (List D) := fun ρ => .ok [] ρ
def aCons (f : En → Res D) (g : En → Res (List D)) : En → Res (List D) := fun ρ => (f ρ).bind fun x ρ1 => (g ρ1).bind fun xs ρ2 => .ok (x :: xs) ρ2
theorem aj_nil : AJ X Wx S [] aNil := ⟨_, pa_nil, fun _ _ F H _ _ _ st post => post _ F H st (Same.refl _) .nil⟩
theorem aj_cons {e : Expr} {es : List Expr} {f : En → Res D} {g : En → Res (List D)} (ha : EJ X Wx S e f) (hr : AJ X Wx S es g) (hs : starEach (e :: es) X.env = (false, eval e X.env) :: starEach es X.env := by rfl) : AJ X Wx S (e :: es) (aCons f g) := by
  obtain ⟨ta, pa, qa⟩ := ha.ex
  obtain ⟨tb, pb, qb⟩ := hr.ex
  refine ⟨_, pa_cons pa pb hs, fun B F0 F H σ ρ Q st post => ?_⟩
  refine qa B F0 F H σ ρ _ st (post.bind fun d ρ1 v F1 H1 post1 st1 s1 r1 => ?_)
  refine qb B F0 F1 H1 σ ρ1 _ st1 (post1.bind fun e ρ2 u F2 H2 post2 st2 s2 r2 => ?_)
  exact post2 _ F2 H2 st2 (Same.refl _) (.cons (r1.mono s2) r2)
def fTup (g : En → Res (List D)) : En → Res D := fun ρ => (g ρ).bind fun xs ρ1 => if xs.length ≤ lim then .ok (.tup xs) ρ1 else .bad
theorem ej_tup {es : List Expr} {x1 : Nat} {pos : Pos} {g : En → Res (List D)} (h : AJ X Wx S es g) : EJ X Wx S (.Tuple es x1 pos) (fTup g) := by
  obtain ⟨t, p, q⟩ := h.ex
  refine ⟨_, pe_tup p, fun B F0 F H σ ρ Q st post => ?_⟩
  refine q B F0 F H σ ρ _ st (post.bind fun d ρ1 v F1 H1 post1 st1 s1 r1 => ?_)
  split at post1
  · rename_i hl
    refine ⟨lim_le (by rw [r1.length]; exact hl), fun a ha => ?_⟩
    have ex := Ext.laid (o := .tup v) st1.fz.fH ha
    exact post1 _ _ _ (st1.ext ex) ex.ff (.tup (.inl (.inl upd_same)) (r1.mono ex.ff))
  · exact post1.elim
def oLst (g : En → Res (List D)) : En → Res (List D) := fun ρ => (g ρ).bind fun xs ρ1 => if xs.length ≤ lim then .ok xs ρ1 else .bad
theorem PostO.bind {α' β' : Type} {R' : Hp → β' → α' → Prop} {Z : Fx} {σ : St} {F : Hp} {r : Res α'} {k : α' → En → Res (List D)} {Q : VK} {Q' : β' → Hp → Prop}
    (post : PostO Z Wx σ F (r.bind k) Q) (h : ∀ d ρ' v F' H', PostO Z Wx σ F' (k d ρ') Q → St2 Z F' H' σ ρ' → Same F F' → R' F' v d → Q' v H') : Post R' Z Wx σ F r Q' := by
  cases r with
  | bad => exact post
  | exc x ρ => exact post
  | ok d ρ =>
    intro v F' H' st s rr
    refine h d ρ v F' H' ?_ st s rr
    rw [Res.bind_ok] at post
    cases e : k d ρ with
    | bad => rw [e] at post; exact post
    | exc x ρ2 =>
      rw [e] at post
      exact fun cls dd F2 H2 st2 s2 r2 => post cls dd F2 H2 st2 (s.trans s2) r2
    | ok d2 ρ2 =>
      rw [e] at post
      exact fun p vs F2 H2 st2 s2 => post p vs F2 H2 st2 (s.trans s2)
/-- apart it stays, where what is to be changed stays -/
theorem Apart.move {Z : Fx} {F H F' H' : Hp} {σ : St} {ρ : En} {p : Addr} (st : St2 Z F H σ ρ) (a : Apart Z F H σ ρ p) (sf : Same F F') (hh : ∀ (i : Nat) (m : M) (v : V) (ps : List Addr), ρ[i]? = some (.mt m) → σ[i]? = some (some v) → RepM Z.K F H v m ps → ∀ q ∈ ps, H' q = H q) : Apart Z F' H' σ ρ p := fun i m v ps e1 e2 r hm => by
  obtain ⟨v', qs, q1, q2, _, _, _⟩ := st.atM i m e1
  rw [e2] at q1
  cases q1
  have q3 := q2.move sf (hh i m v qs e1 e2 q2)
  rw [RepM.uni r q3] at hm
  exact a i m v qs e1 e2 q2 hm
theorem Apart.ext {Z : Fx} {F H F' H' : Hp} {σ : St} {ρ : En} {p : Addr} (st : St2 Z F H σ ρ) (a : Apart Z F H σ ρ p) (e : Ext F H F' H') : Apart Z F' H' σ ρ p := a.move st e.ff fun i m v ps _ _ r q hq => by
  obtain ⟨o, ho⟩ := RepM.there r q hq
  rw [ho, e.hh _ _ ho]
/-- a new object is apart -/
theorem apart_new {Z : Fx} {F H : Hp} {σ : St} {ρ : En} {p : Addr} {o : HO} (st : St2 Z F H σ ρ) (hp : H p = none) : Apart Z F (upd H p o) σ ρ p := fun i m v ps e1 e2 r hm => by
  obtain ⟨v', qs, q1, q2, _, _, _⟩ := st.atM i m e1
  rw [e2] at q1
  cases q1
  have th := RepM.there q2
  have q3 : RepM Z.K F (upd H p o) v m qs := q2.move (Same.refl _) fun q hq => upd_ne (fun z => by
    obtain ⟨u, hu⟩ := th q hq
    rw [z, hp] at hu
    cases hu)
  rw [RepM.uni r q3] at hm
  obtain ⟨u, hu⟩ := th p hm
  rw [hp] at hu
  cases hu
theorem fresh_lst {Z : Fx} {F H : Hp} {σ : St} {ρ : En} {p : Addr} {vs : List V} {xs : List D} {Q : VK} (post : PostO Z Wx σ F (.ok xs ρ) Q) (st : St2 Z F H σ ρ) (r : RepL Z.K F vs xs) (hp : H p = none) : Q (.ref p) (upd H p (.lst vs)) := by
  refine post p vs F _ (st.laid hp) (Same.refl _) upd_same (none_of_same st.fz.fH hp) (none_of_same st.fz.bH hp) (fun i ys h e => ?_) (apart_new st hp) r
  obtain ⟨q, ws, h1, h2, _⟩ := st.atO i ys h
  rw [e] at h1
  cases h1
  rw [hp] at h2
  cases h2
theorem oj_lst {es : List Expr} {pos : Pos} {g : En → Res (List D)} (h : AJ X Wx S es g) : OJ X Wx S (.List es pos) (oLst g) := by
  obtain ⟨t, p, q⟩ := h.ex
  refine ⟨_, pe_lst p, fun B F0 F H σ ρ Q st post => ?_⟩
  refine q B F0 F H σ ρ _ st (post.bind fun d ρ1 v F1 H1 post1 st1 s1 r1 => ?_)
  split at post1
  · rename_i hl
    exact ⟨lim_le (by rw [r1.length]; exact hl), fun a ha => fresh_lst post1 st1 r1 ha⟩
  · exact post1.elim
def fO (g : En → Res (List D)) : En → Res D := fun ρ => (g ρ).bind fun xs ρ1 => .ok (.lst xs) ρ1
/-- a fresh list, frozen -/
theorem OJ.ej {e : Expr} {g : En → Res (List D)} (h : OJ X Wx S e g) : EJ X Wx S e (fO g) := by
  obtain ⟨t, p, q⟩ := h.ex
  refine ⟨t, p, fun B F0 F H σ ρ Q st post => q B F0 F H σ ρ Q st ?_⟩
  unfold fO at post
  cases eg : g ρ with
  | bad => rw [eg] at post; exact post
  | exc x ρ1 => rw [eg] at post; exact post
  | ok xs ρ1 =>
    rw [eg] at post
    intro a vs F1 H1 st1 s1 h1 h2 h3 h4 h5 r
    exact post _ _ H1 (st1.freeze h1 h2 h3 h4 h5) (s1.trans (same_upd h2)) (.lst (.inl (.inl upd_same)) (r.mono (same_upd h2)))
end
end PD
set_option Elab.async false
set_option linter.all false
set_option maxRecDepth 100000
set_option maxHeartbeats 4000000
/-! PD3: statements, targets, calls of defs, loops. -/
namespace PD
open PySem PySem.Spec L2

section
variable {X : Cx} {Wx : WX} {S : Sx}

/-! ### blocks -/
theorem SPost.mono {Z : Fx} {F F' : Hp} {r : Fl} {E : Ends} (post : SPost Z Wx F r E) (s : Same F F') : SPost Z Wx F' r E := by
  cases r with
  | nx ρ => exact fun a b c st s2 => post a b c st (s.trans s2)
  | bk ρ => exact fun a b c st s2 => post a b c st (s.trans s2)
  | ct ρ => exact fun a b c st s2 => post a b c st (s.trans s2)
  | rt d => exact post
  | exc x ρ => exact fun cls dd a b c st s2 => post cls dd a b c st (s.trans s2)
  | bad => exact post
def bNil : En → Fl := fun ρ => .nx ρ
def bSeq (f g : En → Fl) : En → Fl := fun ρ => (f ρ).seq g
theorem bj_nil : BJ X Wx S [] bNil := ⟨_, pss_nil, fun _ _ F H σ _ _ st post => post σ F H st (Same.refl _)⟩
theorem seq_post {Z : Fx} {F : Hp} {r : Fl} {k : En → Fl} {E : Ends} {u : TS} (post : SPost Z Wx F (r.seq k) E) (h : ∀ ρ' σ' F' H', SPost Z Wx F' (k ρ') E → St2 Z F' H' σ' ρ' → Same F F' → u E σ' H') : SPost Z Wx F r { E with nx := u E } := by
  cases r with
  | nx ρ => exact fun σ' F' H' st s => h ρ σ' F' H' (SPost.mono post s) st s
  | bk ρ => exact post
  | ct ρ => exact post
  | rt d => exact post
  | exc x ρ => exact post
  | bad => exact post
theorem bj_cons {st : Stmt} {rest : List Stmt} {f g : En → Fl} (h1 : SJ X Wx S st f) (h2 : BJ X Wx S rest g) : BJ X Wx S (st :: rest) (bSeq f g) := by
  obtain ⟨t, p, q⟩ := h1.ex
  obtain ⟨u, p2, q2⟩ := h2.ex
  exact ⟨_, pss_cons p p2, fun B F0 F H σ ρ E st post => q B F0 F H σ ρ _ st (seq_post post fun ρ' σ' F' H' post' st' s' => q2 B F0 F' H' σ' ρ' E st' post')⟩
theorem bj_one {st : Stmt} {f : En → Fl} (h1 : SJ X Wx S st f) : BJ X Wx S [st] f := by
  obtain ⟨t, p, q⟩ := h1.ex
  exact ⟨_, pss_one p, q⟩
/-- from an expression to a statement -/
theorem fl_post {α β : Type} {R : Hp → β → α → Prop} {Z : Fx} {σ : St} {F : Hp} {r : Res α} {k : α → En → Fl} {E : Ends} {Q : β → Hp → Prop}
    (post : SPost Z Wx F (r.fl k) E) (h : ∀ d ρ' v F' H', SPost Z Wx F' (k d ρ') E → St2 Z F' H' σ ρ' → Same F F' → R F' v d → Q v H') : Post R Z Wx σ F r Q := by
  cases r with
  | bad => exact post
  | exc x ρ => exact fun cls dd F' H' st s rx => post cls dd σ F' H' st s rx
  | ok d ρ => exact fun v F' H' st s rr => h d ρ v F' H' (SPost.mono post s) st s rr
theorem fl_postO {Z : Fx} {σ : St} {F : Hp} {r : Res (List D)} {k : List D → En → Fl} {E : Ends} {Q : VK}
    (post : SPost Z Wx F (r.fl k) E) (h : ∀ xs ρ' p vs F' H', SPost Z Wx F' (k xs ρ') E → St2 Z F' H' σ ρ' → Same F F' → H' p = some (.lst vs) → F' p = none → Z.B p = none → (∀ (i : Nat) (ys : List D), ρ'[i]? = some (.own ys) → σ[i]? ≠ some (some (.ref p))) → Apart Z F' H' σ ρ' p → RepL Z.K F' vs xs → Q (.ref p) H') : PostO Z Wx σ F r Q := by
  cases r with
  | bad => exact post
  | exc x ρ => exact fun cls dd F' H' st s rx => post cls dd σ F' H' st s rx
  | ok d ρ => exact fun p vs F' H' st s h1 h2 h3 h4 h5 r => h d ρ p vs F' H' (SPost.mono post s) st s h1 h2 h3 h4 h5 r
/-! ### targets -/
def setD (i : Nat) (d : D) (ρ : En) : Fl := if i < ρ.length then .nx (ρ.set i (.d d)) else .bad
theorem gj_name (i : Nat) {x : Str} {pos : Pos} (hN : X.N.Nodup) (hi : X.N[i]? = some x := by rfl) (hx : Loc X.env.scope x := by first | exact Or.inl rfl | exact Or.inr rfl) (hf : X.fn x = true ∨ X.env.scope.names.lookup x = some .local := by first | exact .inl rfl | exact .inr rfl) : GJ X Wx S (.Name x pos) (setD i) := by
  refine ⟨_, pg_name hN hi hx hf, fun B F0 F H σ ρ v d Q st r post => ?_⟩
  unfold setD at post
  split at post
  · rename_i hl
    exact post _ F H (st.store hl r) (Same.refl _)
  · exact post.elim
def tsNil : List D → En → Fl := fun ds ρ => match ds with
  | [] => .nx ρ
  | _ => .bad
def tsCons (g : D → En → Fl) (gs : List D → En → Fl) : List D → En → Fl := fun ds ρ => match ds with
  | d :: r => (g d ρ).seq (gs r)
  | [] => .bad
/-- targets in a row -/
structure GsJ (X : Cx) (Wx : WX) (S : Sx) (tgs : List Expr) (g : List D → En → Fl) : Prop where
  ex : ∃ t, PGs X tgs t ∧ ∀ B F0 F H σ ρ vs ds (Q : St → Hp → Prop), St2 (fx X S B F0) F H σ ρ → RepL X.K F vs ds → SPost (fx X S B F0) Wx F (g ds ρ) { nx := Q, rt := fun _ _ => False } → t vs σ H Q
theorem gsj_nil : GsJ X Wx S [] tsNil := by
  refine ⟨_, pgs_nil, fun B F0 F H σ ρ vs ds Q st r post => ?_⟩
  cases r with
  | nil => exact ⟨rfl, post σ F H st (Same.refl _)⟩
  | cons _ _ => exact post.elim
theorem gsj_cons {e : Expr} {es : List Expr} {g : D → En → Fl} {gs : List D → En → Fl} (h1 : GJ X Wx S e g) (h2 : GsJ X Wx S es gs)
    (hs : (assignEach (e :: es) X.env).map (·.2) = assign e X.env :: (assignEach es X.env).map (·.2) := by rfl) : GsJ X Wx S (e :: es) (tsCons g gs) := by
  obtain ⟨t, p, q⟩ := h1.ex
  obtain ⟨u, p2, q2⟩ := h2.ex
  refine ⟨_, pgs_cons p p2 hs, fun B F0 F H σ ρ vs ds Q st r post => ?_⟩
  cases r with
  | nil => exact post.elim
  | cons r1 r2 =>
    refine ⟨_, _, rfl, q B F0 F H σ ρ _ _ _ st r1 ?_⟩
    have k : ∀ (z : Fl), SPost (fx X S B F0) Wx F (z.seq (gs _)) { nx := Q, rt := fun _ _ => False } → SPost (fx X S B F0) Wx F z { nx := fun σ' H' => u _ σ' H' Q, rt := fun _ _ => False } := fun z pz => by
      cases z with
      | nx ρ' => exact fun σ' F' H' st' s' => q2 B F0 F' H' σ' ρ' _ _ Q st' (r2.mono s') (SPost.mono pz s')
      | bk ρ => exact pz
      | ct ρ => exact pz
      | rt d => exact pz
      | exc x ρ => exact pz
      | bad => exact pz
    exact k _ post
theorem pg_or {tg : Expr} {t1 t2 : TG} (h1 : PG X tg t1) (h2 : PG X tg t2) : PG X tg (fun v σ H Q => t1 v σ H Q ∨ t2 v σ H Q) :=
  ⟨fun pins s σ H v u Q I r h => h.elim (h1.run pins s σ H v u Q I r) (h2.run pins s σ H v u Q I r)⟩
def gUn (n : Nat) (gs : List D → En → Fl) : D → En → Fl := fun d ρ => match d with
  | .tup ds => if ds.length = n then gs ds ρ else .bad
  | .lst ds => if ds.length = n then gs ds ρ else .bad
  | _ => .bad
theorem gj_tup {es : List Expr} {k : Nat} {pos : Pos} {gs : List D → En → Fl} (n : Nat) (h : GsJ X Wx S es gs) (hc : X.calm = true := by rfl)
    (hn : (assignEach es X.env).length = n := by rfl) (hst : (assignEach es X.env).findIdx? (·.1) = none := by rfl) : GJ X Wx S (.Tuple es k pos) (gUn n gs) := by
  obtain ⟨t, p, q⟩ := h.ex
  refine ⟨_, pg_or (pg_tup hc p hn hst) (pg_lst hc p hn hst), fun B F0 F H σ ρ v d Q st r post => ?_⟩
  cases r with
  | @tup a vs ds h1 h2 =>
    replace post : SPost (fx X S B F0) Wx F (if ds.length = n then gs ds ρ else .bad) _ := post
    split at post
    · rename_i hl
      exact .inl ⟨a, vs, rfl, Same.seqT st.fz.fH h1, by rw [h2.length]; exact hl, q B F0 F H σ ρ vs ds Q st h2 post⟩
    · exact post.elim
  | @lst a vs ds h1 h2 =>
    replace post : SPost (fx X S B F0) Wx F (if ds.length = n then gs ds ρ else .bad) _ := post
    split at post
    · rename_i hl
      exact .inr ⟨a, vs, rfl, Same.seq st.fz.fH h1, by rw [h2.length]; exact hl, q B F0 F H σ ρ vs ds Q st h2 post⟩
    · exact post.elim
  | _ => exact post.elim

/-! ### assignments and the like -/
def sAsg (f : En → Res D) (g : D → En → Fl) : En → Fl := fun ρ => (f ρ).fl g
theorem g_ends {Z : Fx} {F : Hp} {r : Fl} {E : Ends} (post : SPost Z Wx F r E) (h : ∀ ρ, r ≠ .bk ρ ∧ r ≠ .ct ρ) (h2 : ∀ d, r ≠ .rt d) : SPost Z Wx F r { nx := E.nx, rt := fun _ _ => False } := by
  cases r with
  | nx ρ => exact post
  | bk ρ => exact absurd rfl (h ρ).1
  | ct ρ => exact absurd rfl (h ρ).2
  | rt d => exact absurd rfl (h2 d)
  | exc x ρ => exact post
  | bad => exact post
theorem SPost.wk {Z : Fx} {F : Hp} {r : Fl} {E : Ends} (post : SPost Z Wx F r E) (h : ∃ ρ, r = .nx ρ ∨ r = .bad) : SPost Z Wx F r { nx := E.nx, rt := fun _ _ => False } := by
  obtain ⟨ρ, rfl | rfl⟩ := h
  · exact post
  · exact post
/-- a plain target never ends otherwise -/
def Calm (g : D → En → Fl) : Prop := ∀ d ρ, ∃ ρ', g d ρ = .nx ρ' ∨ g d ρ = .bad
theorem calm_set (i : Nat) : Calm (setD i) := fun d ρ => by
  unfold setD
  split
  · exact ⟨_, .inl rfl⟩
  · exact ⟨ρ, .inr rfl⟩
def CalmS (g : List D → En → Fl) : Prop := ∀ d ρ, ∃ ρ', g d ρ = .nx ρ' ∨ g d ρ = .bad
theorem calm_nil : CalmS tsNil := fun d ρ => by
  unfold tsNil
  split
  · exact ⟨_, .inl rfl⟩
  · exact ⟨ρ, .inr rfl⟩
theorem calm_cons {g : D → En → Fl} {gs : List D → En → Fl} (h : Calm g) (h2 : CalmS gs) : CalmS (tsCons g gs) := fun d ρ => by
  unfold tsCons
  split
  · rename_i a r
    obtain ⟨ρ', e | e⟩ := h a ρ
    · rw [e]
      exact h2 r ρ'
    · rw [e]
      exact ⟨ρ, .inr rfl⟩
  · exact ⟨ρ, .inr rfl⟩
theorem calm_un {n : Nat} {gs : List D → En → Fl} (h2 : CalmS gs) : Calm (gUn n gs) := fun d ρ => by
  unfold gUn
  split
  · split
    · exact h2 _ _
    · exact ⟨ρ, .inr rfl⟩
  · split
    · exact h2 _ _
    · exact ⟨ρ, .inr rfl⟩
  · exact ⟨ρ, .inr rfl⟩
/-- x = e -/
theorem sj_set (i : Nat) {x : Str} {e : Expr} {f : En → Res D} {pos pos' : Pos} (hN : X.N.Nodup) (he : EJ X Wx S e f) (hi : X.N[i]? = some x := by rfl) (hx : Loc X.env.scope x := by first | exact Or.inl rfl | exact Or.inr rfl)
    (hs : swapsWith e (some (.Name x pos')) pos.line X.env = pure false := by rfl) (hf : X.fn x = true ∨ X.env.scope.names.lookup x = some .local := by first | exact .inl rfl | exact .inr rfl) : SJ X Wx S (.Assign [.Name x pos'] e pos) (sAsg f (setD i)) := by
  obtain ⟨t, p, q⟩ := he.ex
  refine ⟨_, ps_set hN hi hx p hs hf, fun B F0 F H σ ρ E st post => q B F0 F H σ ρ _ st (fl_post post fun d ρ' v F' H' post' st' s' r => ?_)⟩
  unfold setD at post'
  split at post'
  · rename_i hl
    exact post' _ F' H' (st'.store hl r) (Same.refl _)
  · exact post'.elim
def setO (i : Nat) (xs : List D) (ρ : En) : Fl := if i < ρ.length then .nx (ρ.set i (.own xs)) else .bad
def sAsgO (f : En → Res (List D)) (i : Nat) : En → Fl := fun ρ => (f ρ).fl (setO i)
theorem sj_setO (i : Nat) {x : Str} {e : Expr} {f : En → Res (List D)} {pos pos' : Pos} (hN : X.N.Nodup) (he : OJ X Wx S e f) (hi : X.N[i]? = some x := by rfl) (hx : Loc X.env.scope x := by first | exact Or.inl rfl | exact Or.inr rfl)
    (hs : swapsWith e (some (.Name x pos')) pos.line X.env = pure false := by rfl) (hf : X.fn x = true ∨ X.env.scope.names.lookup x = some .local := by first | exact .inl rfl | exact .inr rfl) : SJ X Wx S (.Assign [.Name x pos'] e pos) (sAsgO f i) := by
  obtain ⟨t, p, q⟩ := he.ex
  refine ⟨_, ps_set hN hi hx p hs hf, fun B F0 F H σ ρ E st post => q B F0 F H σ ρ _ st (fl_postO post fun xs ρ' a vs F' H' post' st' s' h1 h2 h3 h4 h5 r => ?_)⟩
  unfold setO at post'
  split at post'
  · rename_i hl
    exact post' _ F' H' (st'.storeO hl h1 h2 h3 h4 h5 r) (Same.refl _)
  · exact post'.elim
/-- a, b = e -/
theorem sj_asg {tg e : Expr} {f : En → Res D} {g : D → En → Fl} {pos : Pos} (hg : GJ X Wx S tg g) (hcalm : Calm g) (he : EJ X Wx S e f) (hs : swapsWithSole [tg] e pos.line X.env = pure false := by rfl) (hw : swappedStores [tg] e X.env = pure none := by rfl)
    (h1 : (assignEach [tg] X.env).map (·.2) = [assign tg X.env] := by rfl) : SJ X Wx S (.Assign [tg] e pos) (sAsg f g) := by
  obtain ⟨t, p, q⟩ := he.ex
  obtain ⟨u, p2, q2⟩ := hg.ex
  refine ⟨_, ps_asg p p2 hs hw h1, fun B F0 F H σ ρ E st post => q B F0 F H σ ρ _ st (fl_post post fun d ρ' v F' H' post' st' s' r => ?_)⟩
  exact q2 B F0 F' H' σ ρ' v d _ st' r (post'.wk (hcalm d ρ'))
def sDrop (f : En → Res D) : En → Fl := fun ρ => (f ρ).fl fun _ ρ1 => .nx ρ1
theorem sj_expr {e : Expr} {f : En → Res D} {pos : Pos} (he : EJ X Wx S e f) (hs : swapsWith e none pos.line X.env = pure false := by rfl) : SJ X Wx S (.Expr e pos) (sDrop f) := by
  obtain ⟨t, p, q⟩ := he.ex
  exact ⟨_, ps_expr p hs, fun B F0 F H σ ρ E st post => q B F0 F H σ ρ _ st (fl_post post fun d ρ' v F' H' post' st' s' r => post' σ F' H' st' (Same.refl _))⟩
def sRet (f : En → Res D) : En → Fl := fun ρ => (f ρ).fl fun d _ => .rt d
theorem sj_ret {e : Expr} {f : En → Res D} {pos : Pos} (he : EJ X Wx S e f) : SJ X Wx S (.Return (some e) pos) (sRet f) := by
  obtain ⟨t, p, q⟩ := he.ex
  exact ⟨_, ps_ret p, fun B F0 F H σ ρ E st post => q B F0 F H σ ρ _ st (fl_post post fun d ρ' v F' H' post' st' s' r => post' v F' H' st'.fz r)⟩
theorem sj_retN {pos : Pos} : SJ X Wx S (.Return none pos) (fun _ => .rt .non) := ⟨_, ps_retN, fun B F0 F H σ ρ E st post => post .non F H st.fz .non⟩
theorem sj_pass {pos : Pos} : SJ X Wx S (.Pass pos) (fun ρ => .nx ρ) := ⟨_, ps_pass, fun B F0 F H σ ρ E st post => post σ F H st (Same.refl _)⟩
theorem sj_break {pos : Pos} : SJ X Wx S (.Break pos) (fun ρ => .bk ρ) := ⟨_, ps_break, fun B F0 F H σ ρ E st post => post σ F H st (Same.refl _)⟩
theorem sj_cont {pos : Pos} : SJ X Wx S (.Continue pos) (fun ρ => .ct ρ) := ⟨_, ps_continue, fun B F0 F H σ ρ E st post => post σ F H st (Same.refl _)⟩
def sIf (c : En → Res Bool) (f g : En → Fl) : En → Fl := fun ρ => (c ρ).fl fun b ρ1 => if b = true then f ρ1 else g ρ1
theorem sj_if {c : Expr} {a b : List Stmt} {fc : En → Res Bool} {f g : En → Fl} {pos : Pos} (hc : TJ X Wx S c fc) (ha : BJ X Wx S a f) (hb : BJ X Wx S b g) : SJ X Wx S (.If c a b pos) (sIf fc f g) := by
  obtain ⟨t, p, q⟩ := hc.ex
  obtain ⟨u, p2, q2⟩ := ha.ex
  obtain ⟨w, p3, q3⟩ := hb.ex
  refine ⟨_, ps_if p p2 p3, fun B F0 F H σ ρ E st post => q B F0 F H σ ρ _ st (fl_post post fun d ρ' v F' H' post' st' s' r => ?_)⟩
  cases r
  cases d with
  | true => exact iteT (q2 B F0 F' H' σ ρ' E st' post')
  | false => exact iteF (q3 B F0 F' H' σ ρ' E st' post')

/-! ### while -/
def whD : Nat → (En → Res Bool) → (En → Fl) → En → Fl
  | 0, _, _, _ => .bad
  | n + 1, c, f, ρ => (c ρ).fl fun b ρ1 => if b = true then (match f ρ1 with
      | .nx ρ2 => whD n c f ρ2
      | .ct ρ2 => whD n c f ρ2
      | .bk ρ2 => .nx ρ2
      | r => r) else .nx ρ1
theorem sj_while (n : En → Nat) {c : Expr} {body : List Stmt} {fc : En → Res Bool} {f : En → Fl} {pos : Pos} (hp : PassesOwn (model X.prog X.w) X.A X.env X.xe) (hc : TJ X Wx S c fc) (hb : BJ X Wx S body f) : SJ X Wx S (.While c body [] pos) (fun ρ => whD (n ρ) fc f ρ) := by
  obtain ⟨t, p, q⟩ := hc.ex
  obtain ⟨u, p2, q2⟩ := hb.ex
  refine ⟨_, ps_while hp p p2, fun B F0 F H σ ρ E st post => ?_⟩
  refine ⟨fun m σ' H' => ∃ F' ρ', St2 (fx X S B F0) F' H' σ' ρ' ∧ Same F F' ∧ SPost (fx X S B F0) Wx F' (whD m fc f ρ') E, ⟨n ρ, F, ρ, st, Same.refl _, post⟩, ?_⟩
  rintro m σ1 H1 ⟨F1, ρ1, st1, s1, post1⟩
  cases m with
  | zero => exact post1.elim
  | succ m =>
    refine q B F0 F1 H1 σ1 ρ1 _ st1 (fl_post post1 fun d ρ2 v F2 H2 post2 st2 s2 r => ?_)
    cases r
    cases d with
    | false => exact iteF (post2 σ1 F2 H2 st2 (Same.refl _))
    | true =>
      refine iteT ⟨fun σ' H' => ∃ F' ρ', St2 (fx X S B F0) F' H' σ' ρ' ∧ Same F F' ∧ SPost (fx X S B F0) Wx F' (whD m fc f ρ') E, fun σ' H' h => ⟨m, Nat.lt_succ_self _, h⟩, ?_⟩
      refine q2 B F0 F2 H2 σ1 ρ2 _ st2 ?_
      rw [if_pos rfl] at post2
      cases e : f ρ2 with
      | nx ρ3 =>
        rw [e] at post2
        exact fun σ3 F3 H3 st3 s3 => ⟨F3, ρ3, st3, (s1.trans s2).trans s3, SPost.mono post2 s3⟩
      | ct ρ3 =>
        rw [e] at post2
        exact fun σ3 F3 H3 st3 s3 => ⟨F3, ρ3, st3, (s1.trans s2).trans s3, SPost.mono post2 s3⟩
      | bk ρ3 =>
        rw [e] at post2
        exact post2
      | rt d =>
        rw [e] at post2
        exact post2
      | exc x ρ3 =>
        rw [e] at post2
        exact post2
      | bad =>
        rw [e] at post2
        exact post2.elim

/-! ### for -/
/-- the things that are walked: n of them, the i-th is ds[i] -/
structure IPost (Z : Fx) (σ : St) (F H : Hp) (ρ : En) (ds : List D) (R : It → Hp → Prop) : Prop where
  go : ∀ (J : It) (G : Hp → Prop) (Y : Nat → Hp → V → Hp → Prop) (F' H' : Hp), St2 Z F' H' σ ρ → Same F F' → Walk J ds.length G Y → (∀ H'', Same F' H'' → Same Z.S.L H'' → G H'') →
    (∀ i Fi Hi x Hi', i < ds.length → Same F' Fi → Same Fi Hi → Y i Hi x Hi' → ∃ Fj d, Ext Fi Hi Fj Hi' ∧ ds[i]? = some d ∧ Rep Z.K Fj x d) → R J H'
structure IJ (X : Cx) (Wx : WX) (S : Sx) (tg iter : Expr) (f : En → Res (List D)) : Prop where
  ex : ∃ wi, PI X tg iter wi ∧ ∀ B F0 F H σ ρ R, St2 (fx X S B F0) F H σ ρ →
    (match f ρ with
     | .ok ds ρ' => ∀ (J : It) (G : Hp → Prop) (Y : Nat → Hp → V → Hp → Prop) (F' H' : Hp), St2 (fx X S B F0) F' H' σ ρ' → Same F F' → Walk J ds.length G Y → (∀ H'', Same F' H'' → Same S.L H'' → G H'') →
        (∀ i Fi Hi x Hi', i < ds.length → Same F' Fi → Same Fi Hi → Y i Hi x Hi' → ∃ Fj d, Ext Fi Hi Fj Hi' ∧ ds[i]? = some d ∧ Rep X.K Fj x d) → R J H'
     | .exc x ρ' => ∀ cls dd F' H', St2 (fx X S B F0) F' H' σ ρ' → Same F F' → RepX X.K F' cls dd x → Wx cls dd σ H'
     | .bad => False) → wi σ H R
def forD (g : D → En → Fl) (f : En → Fl) : List D → En → Fl
  | [], ρ => .nx ρ
  | d :: r, ρ => match (g d ρ).seq f with
    | .nx ρ2 => forD g f r ρ2
    | .ct ρ2 => forD g f r ρ2
    | .bk ρ2 => .nx ρ2
    | z => z
def sFor (fi : En → Res (List D)) (g : D → En → Fl) (f : En → Fl) : En → Fl := fun ρ => (fi ρ).fl fun ds ρ1 => forD g f ds ρ1
theorem sj_for {tg iter : Expr} {body : List Stmt} {fi : En → Res (List D)} {g : D → En → Fl} {f : En → Fl} {pos : Pos} (hp : PassesOwn (model X.prog X.w) X.A X.env X.xe) (hi : IJ X Wx S tg iter fi) (hg : GJ X Wx S tg g) (hcalm : Calm g) (hb : BJ X Wx S body f) (hc : X.calm = true := by rfl) (hs : ∀ x, foldedSetIterable iter X.env x = pure x := by intro _; rfl) :
    SJ X Wx S (.For tg iter body [] pos) (sFor fi g f) := by
  obtain ⟨wi, p, q⟩ := hi.ex
  obtain ⟨t, p2, q2⟩ := hg.ex
  obtain ⟨u, p3, q3⟩ := hb.ex
  refine ⟨_, ps_for hp hc p p2 p3 (hs := hs), fun B F0 F H σ ρ E st post => q B F0 F H σ ρ _ st ?_⟩
  unfold sFor at post
  cases ef : fi ρ with
  | bad => rw [ef] at post; exact post
  | exc x ρ1 => rw [ef] at post; exact fun cls dd F' H' st' s rx => post cls dd σ F' H' st' s rx
  | ok ds ρ1 =>
    rw [ef] at post
    intro J G Y F1 H1 st1 s1 w hG hY
    refine for_it w (fun i σ' H' => ∃ F' ρ', St2 (fx X S B F0) F' H' σ' ρ' ∧ Same F1 F' ∧ SPost (fx X S B F0) Wx F' (forD g f (ds.drop i) ρ') E) ⟨F1, ρ1, st1, Same.refl _, SPost.mono post s1⟩ (fun i σ' H' _ h => ?_) (fun i x σ' Hi Hi' hi h y => ?_) (fun σ' H' h => ?_)
    · obtain ⟨F', ρ', st', s', _⟩ := h
      exact hG H' (s'.trans st'.fz.fH) (st'.fz.lB.trans st'.fz.bH)
    · obtain ⟨F', ρ', st', s', post'⟩ := h
      obtain ⟨Fj, d, ex, hd, rd⟩ := hY i F' Hi x Hi' hi s' st'.fz.fH y
      have hdrop : ds.drop i = d :: ds.drop (i + 1) := by
        obtain ⟨hl, he⟩ := List.getElem?_eq_some_iff.mp hd
        rw [List.drop_eq_getElem_cons hl, he]
      rw [hdrop] at post'
      have stj := st'.ext ex
      refine q2 B F0 Fj Hi' σ' ρ' x d _ stj rd ?_
      obtain ⟨ρ2, e | e⟩ := hcalm d ρ'
      · rw [e]
        intro σ2 F2 H2 st2 s2
        refine q3 B F0 F2 H2 σ2 ρ2 _ st2 ?_
        unfold forD at post'
        rw [e, Fl.seq_nx] at post'
        cases e3 : f ρ2 with
        | nx ρ3 =>
          rw [e3] at post'
          exact fun σ3 F3 H3 st3 s3 => ⟨F3, ρ3, st3, ((s'.trans ex.ff).trans s2).trans s3, SPost.mono post' ((ex.ff.trans s2).trans s3)⟩
        | ct ρ3 =>
          rw [e3] at post'
          exact fun σ3 F3 H3 st3 s3 => ⟨F3, ρ3, st3, ((s'.trans ex.ff).trans s2).trans s3, SPost.mono post' ((ex.ff.trans s2).trans s3)⟩
        | bk ρ3 =>
          rw [e3] at post'
          exact fun σ3 F3 H3 st3 s3 => post' σ3 F3 H3 st3 ((ex.ff.trans s2).trans s3)
        | rt d =>
          rw [e3] at post'
          exact post'
        | exc x ρ3 =>
          rw [e3] at post'
          exact fun cls dd σ3 F3 H3 st3 s3 => post' cls dd σ3 F3 H3 st3 ((ex.ff.trans s2).trans s3)
        | bad =>
          rw [e3] at post'
          exact post'.elim
      · unfold forD at post'
        rw [e] at post'
        exact post'.elim
    · obtain ⟨F', ρ', st', s', post'⟩ := h
      rw [List.drop_length] at post'
      exact post' σ' F' H' st' (Same.refl _)

/-! ### what is walked -/
theorem ext_refl_at {Z : Fx} {F H : Hp} (s : Same F H) : Ext F H F H := Ext.refl s
/-- range(n), range(a, b) -/
def dRange (lo : Int) (n : Nat) : List D := (List.range n).map fun i => D.int (lo + (i : Nat))
def okR (i : Int) : Bool := decide (i.natAbs < 2 ^ 62)
def iRange1 (f : En → Res (List D)) : En → Res (List D) := fun ρ => (f ρ).bind fun ds ρ1 => match ds with
  | [.int j] => if okR j = true then .ok (dRange 0 j.toNat) ρ1 else .bad
  | _ => .bad
def iRange2 (f : En → Res (List D)) : En → Res (List D) := fun ρ => (f ρ).bind fun ds ρ1 => match ds with
  | [.int i, .int j] => if (okR i && okR j) = true then .ok (dRange i (j - i).toNat) ρ1 else .bad
  | _ => .bad
theorem okR_ok {i : Int} (h : okR i = true) : -(2 ^ 62) ≤ i ∧ i < 2 ^ 62 := by
  unfold okR at h
  have := of_decide_eq_true h
  omega
theorem okR_nat {n : Nat} (h : n < 2 ^ 62) : okR (n : Int) = true := decide_eq_true (by simpa using h)
theorem repL_int1 {K : PySem.W.Frag} {F : Hp} {vs : List V} {j : Int} (r : RepL K F vs [.int j]) : vs = [.int j] := RepL.ints_inv (ns := [j]) r
theorem repL_int2 {K : PySem.W.Frag} {F : Hp} {vs : List V} {i j : Int} (r : RepL K F vs [.int i, .int j]) : vs = [.int i, .int j] := RepL.ints_inv (ns := [i, j]) r
theorem repL_int3 {K : PySem.W.Frag} {F : Hp} {vs : List V} {i j k : Int} (r : RepL K F vs [.int i, .int j, .int k]) : vs = [.int i, .int j, .int k] := RepL.ints_inv (ns := [i, j, k]) r
theorem dRange_len (lo : Int) (n : Nat) : (dRange lo n).length = n := by
  unfold dRange
  rw [List.length_map, List.length_range]
theorem dRange_get (lo : Int) (n i : Nat) (h : i < n) : (dRange lo n)[i]? = some (.int (lo + (i : Nat))) := by
  unfold dRange
  rw [List.getElem?_map, List.getElem?_range h]
  rfl
theorem ij_range1 {tg a : Expr} {f : En → Res (List D)} {p pos : Pos} (hm : X.mg "range" = none) (ha : AJ X Wx S [a] f) (hg : Gl X "range" := by rfl) (hs : starEach [a] X.env = [(false, eval a X.env)] := by rfl) : IJ X Wx S tg (.Call (.Name "range" p) [a] [] pos) (iRange1 f) := by
  obtain ⟨t, pa, qa⟩ := ha.ex
  refine ⟨_, pi_range1 hg hm pa hs, fun B F0 F H σ ρ R st post => qa B F0 F H σ ρ _ st ?_⟩
  unfold iRange1 at post
  cases ef : f ρ with
  | bad => rw [ef] at post; exact post
  | exc x ρ1 => rw [ef] at post; exact post
  | ok ds ρ1 =>
    rw [ef, Res.bind_ok] at post
    intro vs F1 H1 st1 s1 r1
    split at post
    · rename_i ds' ρ' e
      split at e
      · rename_i j
        split at e
        · rename_i hj
          cases e
          obtain rfl := repL_int1 r1
          obtain ⟨h1, h2⟩ := okR_ok hj
          refine ⟨j, rfl, h1, h2, ?_⟩
          refine post _ (fun _ => True) (YFn fun i => .int (0 + (i : Nat))) F1 H1 st1 s1 (by rw [dRange_len]; exact walk_range) (fun _ _ _ => trivial) (fun i Fi Hi x Hi' hi sF sH y => ?_)
          obtain ⟨rfl, rfl⟩ := y
          rw [dRange_len] at hi
          exact ⟨Fi, _, Ext.refl sH, dRange_get _ _ _ hi, .int _⟩
        · cases e
      · cases e
    · rename_i e
      split at e
      · split at e <;> cases e
      · cases e
    · exact post.elim
theorem ij_range2 {tg a b : Expr} {f : En → Res (List D)} {p pos : Pos} (hm : X.mg "range" = none) (ha : AJ X Wx S [a, b] f) (hg : Gl X "range" := by rfl) (hs : starEach [a, b] X.env = [(false, eval a X.env), (false, eval b X.env)] := by rfl) (hs2 : starEach [b] X.env = [(false, eval b X.env)] := by rfl) :
    IJ X Wx S tg (.Call (.Name "range" p) [a, b] [] pos) (iRange2 f) := by
  obtain ⟨t, pa, qa⟩ := ha.ex
  refine ⟨_, pi_range2 hg hm pa hs hs2, fun B F0 F H σ ρ R st post => qa B F0 F H σ ρ _ st ?_⟩
  unfold iRange2 at post
  cases ef : f ρ with
  | bad => rw [ef] at post; exact post
  | exc x ρ1 => rw [ef] at post; exact post
  | ok ds ρ1 =>
    rw [ef, Res.bind_ok] at post
    intro vs F1 H1 st1 s1 r1
    split at post
    · rename_i ds' ρ' e
      split at e
      · rename_i i j
        split at e
        · rename_i hj
          cases e
          rw [Bool.and_eq_true] at hj
          obtain rfl := repL_int2 r1
          obtain ⟨h1, h2⟩ := okR_ok hj.1
          obtain ⟨h3, h4⟩ := okR_ok hj.2
          refine ⟨i, j, rfl, ⟨h1, h2, h3, h4⟩, ?_⟩
          refine post _ (fun _ => True) (YFn fun k => .int (i + (k : Nat))) F1 H1 st1 s1 (by rw [dRange_len]; exact walk_range) (fun _ _ _ => trivial) (fun k Fi Hi x Hi' hi sF sH y => ?_)
          obtain ⟨rfl, rfl⟩ := y
          rw [dRange_len] at hi
          exact ⟨Fi, _, Ext.refl sH, dRange_get _ _ _ hi, .int _⟩
        · cases e
      · cases e
    · rename_i e
      split at e
      · split at e <;> cases e
      · cases e
    · exact post.elim
/-- a text's signs -/
def chars (x : Str) : List D := x.cps.toList.map fun c => D.str ⟨#[c]⟩
/-- a list, a tuple, a text: by what it is -/
def iSeq (f : En → Res D) : En → Res (List D) := fun ρ => (f ρ).bind fun d ρ1 => match d with
  | .lst xs => .ok xs ρ1
  | .tup xs => .ok xs ρ1
  | .str x => .ok (chars x) ρ1
  | _ => .bad
theorem pi_or {tg iter : Expr} {w1 w2 : TI} (h1 : PI X tg iter w1) (h2 : PI X tg iter w2) : PI X tg iter (fun σ H R => w1 σ H R ∨ w2 σ H R) :=
  ⟨fun pins s σ H R I h => h.elim (h1.run pins s σ H R I) (h2.run pins s σ H R I)⟩
theorem ij_seq {tg e : Expr} {f : En → Res D} (he : EJ X Wx S e f) : IJ X Wx S tg e (iSeq f) := by
  obtain ⟨t, pa, qa⟩ := he.ex
  refine ⟨_, pi_or (pi_list pa) (pi_or (pi_tup pa) (pi_str pa)), fun B F0 F H σ ρ R st post => ?_⟩
  unfold iSeq at post
  cases ef : f ρ with
  | bad => rw [ef] at post; exact post.elim
  | exc x ρ1 =>
    rw [ef] at post
    exact .inl (qa B F0 F H σ ρ _ st (by rw [ef]; exact post))
  | ok d ρ1 =>
    rw [ef, Res.bind_ok] at post
    cases d with
    | lst xs =>
      refine .inl (qa B F0 F H σ ρ _ st ?_)
      rw [ef]
      intro v F1 H1 st1 s1 r1
      cases r1 with
      | @lst a vs ds h1 h2 =>
        refine ⟨a, rfl, ⟨vs, Same.seq st1.fz.fH h1⟩, ?_⟩
        have hl := h2.length
        refine post _ (fun H => SqL X.K H a vs) (YAt vs) F1 H1 st1 s1 (by rw [← hl]; exact walk_list) (fun H'' s _ => Same.seq s h1) (fun i Fi Hi x Hi' hi sF sH y => ?_)
        obtain ⟨rfl, hx⟩ := y
        obtain ⟨d, hd, rd⟩ := h2.get' hx
        exact ⟨Fi, d, Ext.refl sH, hd, rd.mono sF⟩
    | tup xs =>
      refine .inr (.inl (qa B F0 F H σ ρ _ st ?_))
      rw [ef]
      intro v F1 H1 st1 s1 r1
      cases r1 with
      | @tup a vs ds h1 h2 =>
        refine ⟨a, rfl, ⟨vs, Same.seqT st1.fz.fH h1⟩, ?_⟩
        have hl := h2.length
        refine post _ (fun H => SqT X.K H a vs) (YAt vs) F1 H1 st1 s1 (by rw [← hl]; exact walk_tup) (fun H'' s _ => Same.seqT s h1) (fun i Fi Hi x Hi' hi sF sH y => ?_)
        obtain ⟨rfl, hx⟩ := y
        obtain ⟨d, hd, rd⟩ := h2.get' hx
        exact ⟨Fi, d, Ext.refl sH, hd, rd.mono sF⟩
    | str z =>
      refine .inr (.inr (qa B F0 F H σ ρ _ st ?_))
      rw [ef]
      intro v F1 H1 st1 s1 r1
      cases r1
      refine ⟨z, rfl, ?_⟩
      have hl : (chars z).length = z.cps.size := by simp [chars]
      refine post _ (fun _ => True) _ F1 H1 st1 s1 (by rw [hl]; exact walk_str) (fun _ _ _ => trivial) (fun i Fi Hi x Hi' hi sF sH y => ?_)
      obtain ⟨rfl, c, hc, rfl⟩ := y
      refine ⟨Fi, .str ⟨#[c]⟩, Ext.refl sH, ?_, .str _⟩
      have hc' : z.cps.toList[i]? = some c := by rw [Array.getElem?_toList]; exact hc
      simp [chars, List.getElem?_map, hc']
    | _ => exact post.elim
end
end PD
set_option Elab.async false
set_option linter.all false
set_option maxRecDepth 100000
set_option maxHeartbeats 4000000
/-! PD4: operators, comparisons, subscripts, slices, built-in functions. -/
namespace PD
open PySem PySem.Spec L2

section
variable {X : Cx} {Wx : WX} {S : Sx}

/-! ### arithmetic -/
def addI : D → D → Option D
  | .int i, .int j => some (.int (i + j))
  | _, _ => none
def addS : D → D → Option D
  | .str a, .str b => if a.length + b.length ≤ lim then some (.str (a ++ b)) else none
  | _, _ => none
def addL : D → D → Option D
  | .lst a, .lst b => if a.length + b.length ≤ lim then some (.lst (a ++ b)) else none
  | _, _ => none
def addT : D → D → Option D
  | .tup a, .tup b => if a.length + b.length ≤ lim then some (.tup (a ++ b)) else none
  | _, _ => none
def addB : D → D → Option D
  | .int i, .bl k => some (.int (i + PyProof.Rows.b2i k))
  | _, _ => none
def addD : D → D → Option D
  | .int i, .int j => some (.int (i + j))
  | .int i, .bl k => some (.int (i + PyProof.Rows.b2i k))
  | .str a, .str b => if a.length + b.length ≤ lim then some (.str (a ++ b)) else none
  | .lst a, .lst b => if a.length + b.length ≤ lim then some (.lst (a ++ b)) else none
  | .tup a, .tup b => if a.length + b.length ≤ lim then some (.tup (a ++ b)) else none
  | _, _ => none
theorem oj_addI : OpJ X (binaryOp .Add) addI := OpJ.pure op_add fun F H x y d e z Q s rx ry hz k => by
  cases rx <;> (try (cases hz; done))
  cases ry <;> (try (cases hz; done))
  cases hz
  exact ⟨_, _, rfl, rfl, k _ (.int _)⟩
theorem oj_addB : OpJ X (binaryOp .Add) addB := OpJ.pure op_add_ib fun F H x y d e z Q s rx ry hz k => by
  cases rx <;> (try (cases hz; done))
  cases ry <;> (try (cases hz; done))
  cases hz
  exact ⟨_, _, rfl, rfl, k _ (.int _)⟩
theorem oj_addS : OpJ X (binaryOp .Add) addS := OpJ.pure op_add_str fun F H x y d e z Q s rx ry hz k => by
  cases rx <;> (try (cases hz; done))
  cases ry <;> (try (cases hz; done))
  rename_i a b
  replace hz : (if a.length + b.length ≤ lim then some (D.str (a ++ b)) else none) = some z := hz
  split at hz
  · rename_i hl
    cases hz
    exact ⟨_, _, rfl, rfl, lim_le hl, k _ (.str _)⟩
  · cases hz
/-- xs + ys, any lists -/
def rCatL (K : PySem.W.Frag) : R2 := fun x y H Q => ∃ l b xs zs, x = .ref l ∧ y = .ref b ∧ SqL K H l xs ∧ SqL K H b zs ∧ xs.length + zs.length ≤ sizeLine ∧ ∀ p, H p = none → Q (.ref p) (upd H p (.lst (xs ++ zs)))
theorem op_catL : OpR X (binaryOp .Add) (rCatL X.K) := by
  intro pins s σ H x y v u Q I rx ry h
  obtain ⟨l, b, xs, zs, rfl, rfl, hH, hB, hz, q⟩ := h
  cases rx
  cases ry
  obtain ⟨its, r, ⟨⟨cls, dd, data, sl⟩, n, e, hc, hd0, hd⟩, _⟩ := I.list hH
  obtain ⟨its2, r2, ⟨⟨cls2, dd2, data2, sl2⟩, n2, e2, hc2, hd02, hd2⟩, _⟩ := I.list hB
  simp only at hc hd hc2 hd2
  subst hc hd hc2 hd2
  have h1 := r.length
  have h2 := r2.length
  refine PySem.concat_meets ⟨_, e, rfl⟩ ⟨_, e2, rfl⟩ PySem.noFill_list_add PySem.seq_list_add PySem.F.slot_list_add PySem.F.entry_list_add (PySem.F.args_list_add_2 _ _) (PyProof.Rows.list_addW l b its.toArray its2.toArray n n2 dd dd2 sl sl2 (by rw [List.size_toArray, List.size_toArray]; omega)) ⟨e, e2, ?_⟩
  have ea : its.toArray ++ its2.toArray = (its ++ its2).toArray := by simp
  rw [ea]
  exact ⟨.ref _, _, I.lnew (t' := s.toks) (r.append r2) (by rw [List.length_append]; omega), rfl, q _ I.fresh⟩
theorem oj_addL : OpJ X (binaryOp .Add) addL := by
  refine ⟨_, op_catL, fun F H x y d e z Q s rx ry hz k => ?_⟩
  cases rx <;> (try (cases hz; done))
  cases ry <;> (try (cases hz; done))
  rename_i a vs ds h1 h2 b ws es h3 h4
  replace hz : (if ds.length + es.length ≤ lim then some (D.lst (ds ++ es)) else none) = some z := hz
  split at hz
  · rename_i hl
    cases hz
    refine ⟨_, _, _, _, rfl, rfl, Same.seqL s h1, Same.seqL s h3, lim_le (by rw [h2.length, h4.length]; exact hl), fun p hp => ?_⟩
    have ex := Ext.laid (o := .lst (vs ++ ws)) s hp
    exact k _ _ _ ex (.lst (.inl (.inl upd_same)) ((h2.append h4).mono ex.ff))
  · cases hz
theorem oj_addT : OpJ X (binaryOp .Add) addT := by
  refine ⟨_, op_catA, fun F H x y d e z Q s rx ry hz k => ?_⟩
  cases rx <;> (try (cases hz; done))
  cases ry <;> (try (cases hz; done))
  rename_i a vs ds h1 h2 b ws es h3 h4
  replace hz : (if ds.length + es.length ≤ lim then some (D.tup (ds ++ es)) else none) = some z := hz
  split at hz
  · rename_i hl
    cases hz
    refine ⟨_, _, _, _, rfl, rfl, Same.seqT s h1, Same.seqT s h3, lim_le (by rw [h2.length, h4.length]; exact hl), fun z => ?_, fun _ z => ?_, fun _ _ p hp => ?_⟩
    · subst z
      cases h2
      exact k _ F H (Ext.refl s) (.tup h3 h4)
    · subst z
      cases h4
      rw [List.append_nil] at k
      exact k _ F H (Ext.refl s) (.tup h1 h2)
    · have ex := Ext.laid (o := .tup (vs ++ ws)) s hp
      exact k _ _ _ ex (.tup (.inl (.inl upd_same)) ((h2.append h4).mono ex.ff))
  · cases hz
theorem oj_add : OpJ X (binaryOp .Add) addD := by
  have o1 := OpJ.or (X := X) oj_addI (OpJ.or oj_addB (OpJ.or oj_addS (OpJ.or oj_addL oj_addT)))
  refine o1.imp fun d e z h => ?_
  cases d <;> cases e <;> first | (cases h; done) | exact h | (simp only [addD] at h; simp only [addI, addB, addS, addL, addT]; split at h <;> simp_all)

def subI : D → D → Option D
  | .int i, .int j => some (.int (i - j))
  | _, _ => none
theorem oj_sub : OpJ X (binaryOp .Sub) subI := OpJ.pure op_sub fun F H x y d e z Q s rx ry hz k => by
  cases rx <;> (try (cases hz; done))
  cases ry <;> (try (cases hz; done))
  cases hz
  exact ⟨_, _, rfl, rfl, k _ (.int _)⟩
def okM (i j : Int) : Bool := decide (i.natAbs < 2 ^ 64) || decide (j.natAbs < 2 ^ 64)
def mulI : D → D → Option D
  | .int i, .int j => if okM i j = true then some (.int (i * j)) else none
  | _, _ => none
theorem okM_ok {i j : Int} (h : okM i j = true) : CMul i j := by
  unfold okM at h
  rcases Bool.or_eq_true_iff.mp h with z | z
  · have z := of_decide_eq_true z
    exact .inl ⟨by omega, by omega⟩
  · have z := of_decide_eq_true z
    exact .inr ⟨by omega, by omega⟩
theorem oj_mulI : OpJ X (binaryOp .Mult) mulI := OpJ.pure op_mul fun F H x y d e z Q s rx ry hz k => by
  cases rx <;> (try (cases hz; done))
  cases ry <;> (try (cases hz; done))
  rename_i i j
  replace hz : (if okM i j = true then some (D.int (i * j)) else none) = some z := hz
  split at hz
  · rename_i hl
    cases hz
    exact ⟨_, _, rfl, rfl, okM_ok hl, k _ (.int _)⟩
  · cases hz
def fdivI : D → D → Option D
  | .int i, .int j => if (decide (0 < j) && decide (j.natAbs < 2 ^ 64)) = true then some (.int (i / j)) else none
  | _, _ => none
theorem oj_fdiv : OpJ X (binaryOp .FloorDiv) fdivI := OpJ.pure op_fdivW fun F H x y d e z Q s rx ry hz k => by
  cases rx <;> (try (cases hz; done))
  cases ry <;> (try (cases hz; done))
  rename_i i j
  replace hz : (if (decide (0 < j) && decide (j.natAbs < 2 ^ 64)) = true then some (D.int (i / j)) else none) = some z := hz
  split at hz
  · rename_i hl
    rw [Bool.and_eq_true] at hl
    have h1 := of_decide_eq_true hl.1
    have h2 := of_decide_eq_true hl.2
    cases hz
    refine ⟨_, _, rfl, rfl, wide_div (b := 64) h1 ?_ (by decide) (by decide), k _ (.int _)⟩
    have : j.natAbs < 2 ^ 64 := by omega
    exact this
  · cases hz
def modI : D → D → Option D
  | .int i, .int j => if 0 < j then some (.int (i % j)) else none
  | _, _ => none
theorem oj_mod : OpJ X (binaryOp .Mod) modI := OpJ.pure op_mod fun F H x y d e z Q s rx ry hz k => by
  cases rx <;> (try (cases hz; done))
  cases ry <;> (try (cases hz; done))
  rename_i i j
  replace hz : (if 0 < j then some (D.int (i % j)) else none) = some z := hz
  split at hz
  · rename_i hl
    cases hz
    exact ⟨_, _, rfl, rfl, hl, k _ (.int _)⟩
  · cases hz
def powI : D → D → Option D
  | .int i, .int j => if (decide (0 ≤ j) && decide (j ≤ 1000) && decide (i.natAbs < 2 ^ 64)) = true then some (.int (i ^ j.toNat)) else none
  | _, _ => none
theorem oj_pow : OpJ X (binaryOp .Pow) powI := OpJ.pure op_pow fun F H x y d e z Q s rx ry hz k => by
  cases rx <;> (try (cases hz; done))
  cases ry <;> (try (cases hz; done))
  rename_i i j
  replace hz : (if (decide (0 ≤ j) && decide (j ≤ 1000) && decide (i.natAbs < 2 ^ 64)) = true then some (D.int (i ^ j.toNat)) else none) = some z := hz
  split at hz
  · rename_i hl
    rw [Bool.and_eq_true, Bool.and_eq_true] at hl
    have h2 := of_decide_eq_true hl.1.2
    cases hz
    exact ⟨_, _, rfl, rfl, ⟨of_decide_eq_true hl.1.1, by omega, of_decide_eq_true hl.2⟩, k _ (.int _)⟩
  · cases hz
/-- text * int -/
theorem ediv_anti {a b c : Int} (ha : 0 ≤ a) (hb : 0 < b) (hc : b ≤ c) : a / c ≤ a / b := by
  have h1 : 0 ≤ a / c := Int.ediv_nonneg ha (by omega)
  rw [Int.le_ediv_iff_mul_le hb]
  have h2 : a / c * b ≤ a / c * c := Int.mul_le_mul_of_nonneg_left hc h1
  have h3 : a / c * c ≤ a := Int.ediv_mul_le a (by omega)
  omega
def mulS : D → D → Option D
  | .str x, .int n => if (decide (0 ≤ n) && decide (n ≤ 100000) && decide (x.length * n.toNat ≤ lim)) = true then some (.str (Txt.mul x n)) else none
  | _, _ => none
theorem op_mulS : OpR X (binaryOp .Mult) (fun x y H Q => ∃ z n, x = .str z ∧ y = .int n ∧ MulOk z n ∧ Q (.str (Txt.mul z n)) H) := by
  intro pins s σ H x y v u Q I rx ry h
  obtain ⟨z, n, rfl, rfl, ok, q⟩ := h
  obtain ⟨t, rfl⟩ := rx
  obtain ⟨t', rfl⟩ := ry
  exact SB.mul ok fun t2 k => ⟨.str _, H, I.tok _, ⟨_, rfl⟩, q⟩
theorem oj_mulS : OpJ X (binaryOp .Mult) mulS := OpJ.pure op_mulS fun F H x y d e z Q s rx ry hz k => by
  cases rx <;> (try (cases hz; done))
  cases ry <;> (try (cases hz; done))
  rename_i x n
  replace hz : (if (decide (0 ≤ n) && decide (n ≤ 100000) && decide (x.length * n.toNat ≤ lim)) = true then some (D.str (Txt.mul x n)) else none) = some z := hz
  split at hz
  · rename_i hl
    rw [Bool.and_eq_true, Bool.and_eq_true] at hl
    have h1 := of_decide_eq_true hl.1.1
    have h2 := of_decide_eq_true hl.1.2
    have h3 : x.length * n.toNat ≤ 1000000 := of_decide_eq_true hl.2
    cases hz
    refine ⟨_, _, rfl, rfl, ⟨?_, fun h4 h5 => ?_, fun h4 h5 => ?_⟩, k _ (.str _)⟩
    · simp only [Bool.or_eq_false_iff, decide_eq_false_iff_not]
      omega
    · have h6 : 0 < x.length := by
        rw [Bool.or_eq_false_iff] at h5
        have := h5.2
        simp at this
        omega
      have h7 : x.length ≤ 1000000 := by
        have : x.length * 1 ≤ x.length * n.toNat := Nat.mul_le_mul_left _ (by omega)
        omega
      have h8 : (2 ^ 63 - 1) / 100000 ≤ (2 ^ 63 - 1) / n := ediv_anti (by decide) (by omega) h2
      omega
    · show decide (x.length * n.toNat > sizeLine) = false
      rw [sizeLine_eq]
      exact decide_eq_false (by omega)
  · cases hz
end
end PD
set_option Elab.async false
set_option linter.all false
set_option maxRecDepth 100000
set_option maxHeartbeats 4000000
/-! PD5: comparisons, subscripts, slices, built-in functions. -/
namespace PD
open PySem PySem.Spec L2

section
variable {X : Cx} {Wx : WX} {S : Sx}

/-! ### comparisons -/
def mulD : D → D → Option D
  | .int i, .int j => if okM i j = true then some (.int (i * j)) else none
  | .str x, .int n => if (decide (0 ≤ n) && decide (n ≤ 100000) && decide (x.length * n.toNat ≤ lim)) = true then some (.str (Txt.mul x n)) else none
  | _, _ => none
theorem oj_mul : OpJ X (binaryOp .Mult) mulD := (OpJ.or oj_mulI oj_mulS).imp fun d e z h => by
  cases d <;> cases e <;> first | (cases h; done) | exact h | (simp only [mulD] at h; simp only [mulI, mulS]; split at h <;> simp_all)
def cmpI (p : Int → Int → Bool) : D → D → Option D
  | .int i, .int j => some (.bl (p i j))
  | _, _ => none
theorem oj_cmpI {f : Value → Value → Sem Value} {p : Int → Int → Bool} (ho : OpR X f (rI0 fun i j => .bl (p i j))) : OpJ X f (cmpI p) := OpJ.pure ho fun F H x y d e z Q s rx ry hz k => by
  cases rx <;> (try (cases hz; done))
  cases ry <;> (try (cases hz; done))
  cases hz
  exact ⟨_, _, rfl, rfl, k _ (.bl _)⟩
abbrev ltD : D → D → Option D := cmpI fun i j => decide (i < j)
abbrev leD : D → D → Option D := cmpI fun i j => decide (i ≤ j)
abbrev gtD : D → D → Option D := cmpI fun i j => decide (j < i)
abbrev geD : D → D → Option D := cmpI fun i j => decide (j ≤ i)
theorem oj_lt : OpJ X (compareOp .Lt) ltD := oj_cmpI op_lt
theorem oj_le : OpJ X (compareOp .LtE) leD := oj_cmpI op_le
theorem oj_gt : OpJ X (compareOp .Gt) gtD := oj_cmpI op_gt
theorem oj_ge : OpJ X (compareOp .GtE) geD := oj_cmpI op_ge
/-- is None -/
def D.isNon : D → Bool
  | .non => true
  | _ => false
def isNonD : D → D → Option D
  | d, .non => some (.bl d.isNon)
  | _, _ => none
def isNotNonD : D → D → Option D
  | d, .non => some (.bl (!d.isNon))
  | _, _ => none
theorem rep_non {K : PySem.W.Frag} {F : Hp} {v : V} {d : D} (r : Rep K F v d) : decide (v = .non) = d.isNon := by
  cases r <;> simp [D.isNon]
theorem oj_isN : OpJ X (compareOp .Is) isNonD := OpJ.pure op_isN fun F H x y d e z Q s rx ry hz k => by
  cases ry <;> (try (cases hz; done))
  cases hz
  refine ⟨rfl, ?_⟩
  rw [rep_non rx]
  exact k _ (.bl _)
theorem oj_notN : OpJ X (compareOp .IsNot) isNotNonD := OpJ.pure op_notN fun F H x y d e z Q s rx ry hz k => by
  cases ry <;> (try (cases hz; done))
  cases hz
  refine ⟨rfl, ?_⟩
  rw [rep_non rx]
  exact k _ (.bl _)
/-! ### == -/
mutual
def D.py : D → Option PyData
  | .non => some .none
  | .bl b => some (.bool b)
  | .int i => some (.int i)
  | .str x => some (.str x)
  | .lst xs => (D.pyL xs).map PyData.list
  | .tup xs => (D.pyL xs).map PyData.tuple
  | .ty _ => none
  | .ins _ _ => none
  | .dic _ => none
  | .dit _ => none
def D.pyL : List D → Option (List PyData)
  | [] => some []
  | d :: r => (D.py d).bind fun a => (D.pyL r).map fun b => a :: b
end
mutual
theorem dp_of {K : PySem.W.Frag} {F H : Hp} (s : Same F H) : ∀ {v : V} {d : D} {p : PyData}, Rep K F v d → D.py d = some p → Dp K H v p
  | _, _, _, .non, h => by
    rw [D.py] at h
    cases h
    exact .non
  | _, _, _, .bl b, h => by
    rw [D.py] at h
    cases h
    exact .bl b
  | _, _, _, .int b, h => by
    rw [D.py] at h
    cases h
    exact .int b
  | _, _, _, .str b, h => by
    rw [D.py] at h
    cases h
    exact .str b
  | _, _, _, .ty b, h => by
    rw [D.py] at h
    cases h
  | _, _, _, .lst (ds := ds) h1 h2, h => by
    rw [D.py] at h
    cases e : D.pyL ds with
    | none => rw [e] at h; cases h
    | some ps =>
      rw [e] at h
      cases h
      exact .lst (Same.seq s h1) (dpAll_of s h2 e)
  | _, _, _, .tup (ds := ds) h1 h2, h => by
    rw [D.py] at h
    cases e : D.pyL ds with
    | none => rw [e] at h; cases h
    | some ps =>
      rw [e] at h
      cases h
      exact .tup (Same.seqT s h1) (dpAll_of s h2 e)
  | _, _, _, .ins _ _ _ _, h => by
    rw [D.py] at h
    cases h
  | _, _, _, .dic _ _, h => by
    rw [D.py] at h
    cases h
  | _, _, _, .dit _ _, h => by
    rw [D.py] at h
    cases h
theorem dpAll_of {K : PySem.W.Frag} {F H : Hp} (s : Same F H) : ∀ {v : List V} {d : List D} {p : List PyData}, RepL K F v d → D.pyL d = some p → DpAll K H v p
  | _, _, _, .nil, h => by
    rw [D.pyL] at h
    cases h
    exact .nil
  | _, _, _, .cons (d := d) (ds := ds) h1 h2, h => by
    rw [D.pyL] at h
    cases e : D.py d with
    | none => rw [e] at h; cases h
    | some a =>
      rw [e, Option.bind_some] at h
      cases e2 : D.pyL ds with
      | none => rw [e2] at h; cases h
      | some b =>
        rw [e2] at h
        cases h
        exact .cons (dp_of s h1 e) (dpAll_of s h2 e2)
end
/-- == of any data -/
def eqG (d e : D) : Option Bool := (D.py d).bind fun a => (D.py e).bind fun b => if min a.depth b.depth ≤ 64 then some (PyData.eqv a b) else none
def eqB : D → D → Option Bool
  | .int i, .int j => some (decide (i = j))
  | .str i, .str j => some (decide (i = j))
  | .bl i, .bl j => some (decide (i = j))
  | d, e => eqG d e
def eqD (d e : D) : Option D := (eqB d e).map D.bl
def neD (d e : D) : Option D := (eqB d e).map fun b => .bl (!b)
def eqF (n : Bool) : D → D → Option D
  | .int i, .int j => some (.bl (n != decide (i = j)))
  | .str i, .str j => some (.bl (n != decide (i = j)))
  | .bl i, .bl j => some (.bl (n != decide (i = j)))
  | _, _ => none
theorem oj_eqF : OpJ X (compareOp .Eq) (eqF false) := OpJ.pure op_eq fun F H x y d e z Q s rx ry hz k => by
  cases rx <;> (try (cases hz; done)) <;> cases ry <;> (try (cases hz; done)) <;> cases hz <;> refine ⟨rfl, ?_⟩
  · rename_i i j
    have e : (decide (V.bl i = V.bl j)) = (false != decide (i = j)) := by simp
    rw [e]
    exact k _ (.bl _)
  · rename_i i j
    have e : (decide (V.int i = V.int j)) = (false != decide (i = j)) := by simp
    rw [e]
    exact k _ (.bl _)
  · rename_i i j
    have e : (decide (V.str i = V.str j)) = (false != decide (i = j)) := by simp
    rw [e]
    exact k _ (.bl _)
theorem oj_neF : OpJ X (compareOp .NotEq) (eqF true) := OpJ.pure op_ne fun F H x y d e z Q s rx ry hz k => by
  cases rx <;> (try (cases hz; done)) <;> cases ry <;> (try (cases hz; done)) <;> cases hz <;> refine ⟨rfl, ?_⟩
  · rename_i i j
    have e : (!decide (V.bl i = V.bl j)) = (true != decide (i = j)) := by simp
    rw [e]
    exact k _ (.bl _)
  · rename_i i j
    have e : (!decide (V.int i = V.int j)) = (true != decide (i = j)) := by simp
    rw [e]
    exact k _ (.bl _)
  · rename_i i j
    have e : (!decide (V.str i = V.str j)) = (true != decide (i = j)) := by simp
    rw [e]
    exact k _ (.bl _)
mutual
theorem py_plain : ∀ {d : D} {a : PyData}, D.py d = some a → a.plain = true
  | .non, a, h => by rw [D.py] at h; cases h; rfl
  | .bl _, a, h => by rw [D.py] at h; cases h; rfl
  | .int _, a, h => by rw [D.py] at h; cases h; rfl
  | .str _, a, h => by rw [D.py] at h; cases h; rfl
  | .lst xs, a, h => by
    rw [D.py] at h
    cases e : D.pyL xs with
    | none => rw [e] at h; cases h
    | some ps =>
      rw [e] at h
      cases h
      simp only [PyData.plain]
      exact pyL_plain e
  | .tup xs, a, h => by
    rw [D.py] at h
    cases e : D.pyL xs with
    | none => rw [e] at h; cases h
    | some ps =>
      rw [e] at h
      cases h
      simp only [PyData.plain]
      exact pyL_plain e
  | .ty _, a, h => by rw [D.py] at h; cases h
  | .ins _ _, a, h => by rw [D.py] at h; cases h
  | .dic _, a, h => by rw [D.py] at h; cases h
  | .dit _, a, h => by rw [D.py] at h; cases h
theorem pyL_plain : ∀ {d : List D} {a : List PyData}, D.pyL d = some a → PyData.plainAll a = true
  | [], a, h => by rw [D.pyL] at h; cases h; rfl
  | d :: r, a, h => by
    rw [D.pyL] at h
    cases e : D.py d with
    | none => rw [e] at h; cases h
    | some b =>
      rw [e, Option.bind_some] at h
      cases e2 : D.pyL r with
      | none => rw [e2] at h; cases h
      | some c =>
        rw [e2] at h
        cases h
        simp only [PyData.plainAll, py_plain e, pyL_plain e2, Bool.and_self]
end
theorem eqG_some {d e : D} {b : Bool} (h : eqG d e = some b) : ∃ a c, D.py d = some a ∧ D.py e = some c ∧ min a.depth c.depth ≤ 64 ∧ PyData.eqv a c = b := by
  unfold eqG at h
  cases e1 : D.py d with
  | none => rw [e1] at h; cases h
  | some a =>
    rw [e1, Option.bind_some] at h
    cases e2 : D.py e with
    | none => rw [e2] at h; cases h
    | some c =>
      rw [e2, Option.bind_some] at h
      split at h
      · rename_i hs
        cases h
        exact ⟨a, c, rfl, rfl, hs, rfl⟩
      · cases h
def rEqP (K : PySem.W.Frag) (n : Bool) : R2 := fun x y H Q => ∃ d e, Dp K H x d ∧ Dp K H y e ∧ d.plain = true ∧ e.plain = true ∧ min d.depth e.depth ≤ 64 ∧ Q (.bl (n != PyData.eqv d e)) H
theorem op_eqP (hu : X.A.units + 64 < cLine) : OpR X (compareOp .Eq) (rEqP X.K false) := by
  intro pins s σ H x y v u Q I rx ry h
  obtain ⟨d, e, hd, he, sd, se, hm, q⟩ := h
  obtain ⟨as, r1⟩ := Dp.reads I d x v hd rx
  obtain ⟨bs, r2⟩ := Dp.reads I e y u he ry
  exact SeqAt.eq_plain r1 r2 sd se (by omega) ⟨_, H, I, by simp [RelV], q⟩
theorem op_neP (hu : X.A.units + 64 < cLine) : OpR X (compareOp .NotEq) (rEqP X.K true) := by
  intro pins s σ H x y v u Q I rx ry h
  obtain ⟨d, e, hd, he, sd, se, hm, q⟩ := h
  obtain ⟨as, r1⟩ := Dp.reads I d x v hd rx
  obtain ⟨bs, r2⟩ := Dp.reads I e y u he ry
  exact SeqAt.ne_plain r1 r2 sd se (by omega) ⟨_, H, I, by simp [RelV], q⟩
theorem oj_eqG (hu : X.A.units + 64 < cLine) : OpJ X (compareOp .Eq) (fun d e => (eqG d e).map D.bl) := OpJ.pure (op_eqP hu) fun F H x y d e z Q s rx ry hz k => by
  cases h : eqG d e with
  | none => rw [h] at hz; cases hz
  | some b =>
    rw [h] at hz
    cases hz
    obtain ⟨a, c, h1, h2, h3, rfl⟩ := eqG_some h
    refine ⟨a, c, dp_of s rx h1, dp_of s ry h2, py_plain h1, py_plain h2, h3, k _ ?_⟩
    simp only [Bool.false_bne]
    exact .bl _
theorem oj_neG (hu : X.A.units + 64 < cLine) : OpJ X (compareOp .NotEq) (fun d e => (eqG d e).map fun b => D.bl (!b)) := OpJ.pure (op_neP hu) fun F H x y d e z Q s rx ry hz k => by
  cases h : eqG d e with
  | none => rw [h] at hz; cases hz
  | some b =>
    rw [h] at hz
    cases hz
    obtain ⟨a, c, h1, h2, h3, rfl⟩ := eqG_some h
    refine ⟨a, c, dp_of s rx h1, dp_of s ry h2, py_plain h1, py_plain h2, h3, k _ ?_⟩
    simp only [Bool.true_bne]
    exact .bl _
theorem oj_eq (hu : X.A.units + 64 < cLine) : OpJ X (compareOp .Eq) eqD := (OpJ.or oj_eqF (oj_eqG hu)).imp fun d e z h => by
  unfold eqD at h
  unfold eqB at h
  split at h
  · cases h; simp [eqF]
  · cases h; simp [eqF]
  · cases h; simp [eqF]
  · rename_i h1 h2 h3
    have e0 : eqF false d e = none := by
      unfold eqF
      split
      · exact absurd rfl (h1 _ _ rfl)
      · exact absurd rfl (h2 _ _ rfl)
      · exact absurd rfl (h3 _ _ rfl)
      · rfl
    rw [e0]
    exact h
theorem oj_ne (hu : X.A.units + 64 < cLine) : OpJ X (compareOp .NotEq) neD := (OpJ.or oj_neF (oj_neG hu)).imp fun d e z h => by
  unfold neD at h
  unfold eqB at h
  split at h
  · cases h; simp [eqF]
  · cases h; simp [eqF]
  · cases h; simp [eqF]
  · rename_i h1 h2 h3
    have e0 : eqF true d e = none := by
      unfold eqF
      split
      · exact absurd rfl (h1 _ _ rfl)
      · exact absurd rfl (h2 _ _ rfl)
      · exact absurd rfl (h3 _ _ rfl)
      · rfl
    rw [e0]
    exact h
/-! ### in -/
def flatD : D → Bool
  | .non => true
  | .bl _ => true
  | .int _ => true
  | .str _ => true
  | _ => false
def eqFl : D → D → Bool
  | .non, .non => true
  | .bl a, .bl b => a == b
  | .bl a, .int b => (if a then 1 else 0) == b
  | .int a, .bl b => a == (if b then 1 else 0)
  | .int a, .int b => a == b
  | .str a, .str b => a == b
  | _, _ => false
def seqOf : D → Option (List D)
  | .lst xs => some xs
  | .tup xs => some xs
  | _ => none
def inSeq (n : Bool) (d e : D) : Option D := (seqOf e).bind fun xs => if (flatD d && xs.all flatD) = true then some (.bl (n != xs.any fun z => eqFl z d)) else none
def inStr (n : Bool) : D → D → Option D
  | .str c, .str z => if c.cps.size = 1 then some (.bl (n != decide (c.cps.getD 0 0 ∈ z.cps.toList))) else none
  | _, _ => none
theorem flat_rep {K : PySem.W.Frag} {F : Hp} {v : V} {d : D} (r : Rep K F v d) (h : flatD d = true) : flatV v = true := by
  cases r <;> first | rfl | (cases h)
theorem flat_repL {K : PySem.W.Frag} {F : Hp} : ∀ {vs : List V} {ds : List D}, RepL K F vs ds → ds.all flatD = true → vs.all flatV = true
  | _, _, .nil, _ => rfl
  | _, _, .cons h r, e => by
    rw [List.all_cons, Bool.and_eq_true] at e ⊢
    exact ⟨flat_rep h e.1, flat_repL r e.2⟩
theorem eqFl_rep {K : PySem.W.Frag} {F : Hp} {v w : V} {d e : D} (r : Rep K F v d) (q : Rep K F w e) : flatD d = true → flatD e = true → eqV v w = eqFl d e := by
  cases r <;> intro h <;> (try (cases h; done)) <;> cases q <;> intro h2 <;> (try (cases h2; done)) <;> rfl
theorem any_rep {K : PySem.W.Frag} {F : Hp} {v : V} {d : D} (r : Rep K F v d) (h : flatD d = true) : ∀ {vs : List V} {ds : List D}, RepL K F vs ds → ds.all flatD = true → inV v vs = ds.any fun z => eqFl z d
  | _, _, .nil, _ => rfl
  | _, _, .cons h1 r1, e => by
    rw [List.all_cons, Bool.and_eq_true] at e
    unfold inV
    rw [List.any_cons, List.any_cons, eqFl_rep h1 r e.1 h]
    have := any_rep r h r1 e.2
    unfold inV at this
    rw [this]
theorem oj_inSeq : OpJ X (compareOp .In) (inSeq false) := OpJ.pure op_in_seq fun F H x y d e z Q s rx ry hz k => by
  cases ry <;> (try (cases hz; done))
  all_goals
    rename_i a vs ds h1 h2
    replace hz : (if (flatD d && ds.all flatD) = true then some (D.bl (false != ds.any fun z => eqFl z d)) else none) = some z := hz
    split at hz
    · rename_i hf
      rw [Bool.and_eq_true] at hf
      cases hz
      have e1 := any_rep rx hf.1 h2 hf.2
      refine ⟨a, vs, rfl, ?_, flat_rep rx hf.1, flat_repL h2 hf.2, ?_⟩
      · first
          | exact .inl (Same.seq s h1)
          | exact .inr (Same.seqT s h1)
      · rw [if_neg Bool.false_ne_true, e1]
        have e2 : (false != ds.any fun z => eqFl z d) = ds.any fun z => eqFl z d := by cases ds.any fun z => eqFl z d <;> rfl
        rw [e2] at k
        exact k _ (.bl _)
    · cases hz
theorem oj_ninSeq : OpJ X (compareOp .NotIn) (inSeq true) := OpJ.pure op_notIn_seq fun F H x y d e z Q s rx ry hz k => by
  cases ry <;> (try (cases hz; done))
  all_goals
    rename_i a vs ds h1 h2
    replace hz : (if (flatD d && ds.all flatD) = true then some (D.bl (true != ds.any fun z => eqFl z d)) else none) = some z := hz
    split at hz
    · rename_i hf
      rw [Bool.and_eq_true] at hf
      cases hz
      have e1 := any_rep rx hf.1 h2 hf.2
      refine ⟨a, vs, rfl, ?_, flat_rep rx hf.1, flat_repL h2 hf.2, ?_⟩
      · first
          | exact .inl (Same.seq s h1)
          | exact .inr (Same.seqT s h1)
      · rw [if_pos rfl, e1]
        have e2 : (true != ds.any fun z => eqFl z d) = !ds.any fun z => eqFl z d := by cases ds.any fun z => eqFl z d <;> rfl
        rw [e2] at k
        exact k _ (.bl _)
    · cases hz
theorem one_sign {c : Str} (h : c.cps.size = 1) : c = ⟨#[c.cps.getD 0 0]⟩ := by
  obtain ⟨a⟩ := c
  have h' : a.size = 1 := h
  show Str.mk a = ⟨#[a.getD 0 0]⟩
  congr 1
  apply Array.ext
  · simp [h']
  · intro i h1 h2
    have : i = 0 := by omega
    subst this
    simp [Array.getD, h1]
theorem oj_inStr : OpJ X (compareOp .In) (inStr false) := OpJ.pure op_in_sign fun F H x y d e z Q s rx ry hz k => by
  cases rx <;> (try (cases hz; done))
  cases ry <;> (try (cases hz; done))
  rename_i c w
  replace hz : (if c.cps.size = 1 then some (D.bl (false != decide (c.cps.getD 0 0 ∈ w.cps.toList))) else none) = some z := hz
  split at hz
  · rename_i hl
    cases hz
    refine ⟨_, _, congrArg V.str (one_sign hl), rfl, ?_⟩
    have e2 : (false != decide (c.cps.getD 0 0 ∈ w.cps.toList)) = decide (c.cps.getD 0 0 ∈ w.cps.toList) := by cases decide (c.cps.getD 0 0 ∈ w.cps.toList) <;> rfl
    rw [e2] at k
    exact k _ (.bl _)
  · cases hz
theorem oj_ninStr : OpJ X (compareOp .NotIn) (inStr true) := OpJ.pure op_notIn_sign fun F H x y d e z Q s rx ry hz k => by
  cases rx <;> (try (cases hz; done))
  cases ry <;> (try (cases hz; done))
  rename_i c w
  replace hz : (if c.cps.size = 1 then some (D.bl (true != decide (c.cps.getD 0 0 ∈ w.cps.toList))) else none) = some z := hz
  split at hz
  · rename_i hl
    cases hz
    refine ⟨_, _, congrArg V.str (one_sign hl), rfl, ?_⟩
    have e2 : (true != decide (c.cps.getD 0 0 ∈ w.cps.toList)) = !decide (c.cps.getD 0 0 ∈ w.cps.toList) := by cases decide (c.cps.getD 0 0 ∈ w.cps.toList) <;> rfl
    rw [e2] at k
    exact k _ (.bl _)
  · cases hz
def inD : D → D → Option D
  | .str c, .str z => inStr false (.str c) (.str z)
  | d, e => inSeq false d e
def ninD : D → D → Option D
  | .str c, .str z => inStr true (.str c) (.str z)
  | d, e => inSeq true d e
theorem oj_in : OpJ X (compareOp .In) inD := (OpJ.or oj_inStr oj_inSeq).imp fun d e z h => by
  unfold inD at h
  split at h
  · rw [h]; rfl
  · rename_i h1
    have e0 : inStr false d e = none := by
      unfold inStr
      split
      · exact absurd rfl (h1 _ _ rfl)
      · rfl
    rw [e0]
    exact h
theorem oj_nin : OpJ X (compareOp .NotIn) ninD := (OpJ.or oj_ninStr oj_ninSeq).imp fun d e z h => by
  unfold ninD at h
  split at h
  · rw [h]; rfl
  · rename_i h1
    have e0 : inStr true d e = none := by
      unfold inStr
      split
      · exact absurd rfl (h1 _ _ rfl)
      · rfl
    rw [e0]
    exact h
end
end PD
set_option Elab.async false
set_option linter.all false
set_option maxRecDepth 100000
set_option maxHeartbeats 4000000
/-! PD6: comprehensions; calls of defs; what a def is worth. -/
namespace PD
open PySem PySem.Spec L2

/-! ### comprehensions -/
def wipeE (ρ : En) : List Nat → En
  | [] => ρ
  | v :: vs => (wipeE ρ vs).set v .un
abbrev W0 : WX := fun _ _ _ _ => False
section
variable {Z : Fx} {F H : Hp} {σ : St} {ρ : En}
theorem set_un {α : Type} {l : List α} {i j : Nat} {x y : α} (h : (l.set i x)[j]? = some y) (hne : x ≠ y) : i ≠ j ∧ l[j]? = some y := by
  by_cases hij : i = j
  · subst hij
    rw [List.getElem?_set] at h
    simp only [↓reduceIte] at h
    split at h
    · cases h
      exact absurd rfl hne
    · cases h
  · rw [List.getElem?_set_ne hij] at h
    exact ⟨hij, h⟩
/-- what a slot holds where nothing is known of it does not matter -/
theorem St2.anySlot {τ : St} (s : St2 Z F H σ ρ) (hl : τ.length = σ.length) (h : ∀ (i : Nat), ρ[i]? ≠ some .un → τ[i]? = σ[i]?) : St2 Z F H τ ρ where
  fz := s.fz
  len := hl.trans s.len
  atD := fun i d e => by rw [h i (by rw [e]; intro z; cases z)]; exact s.atD i d e
  atO := fun i d e => by rw [h i (by rw [e]; intro z; cases z)]; exact s.atO i d e
  atX := fun i d e => by rw [h i (by rw [e]; intro z; cases z)]; exact s.atX i d e
  dis := fun i j p xs ys hij h1 h2 h3 => by
    rw [h i (by rw [h1]; intro z; cases z)] at h3
    rw [h j (by rw [h2]; intro z; cases z)]
    exact s.dis i j p xs ys hij h1 h2 h3
  atM := s.keepM (fun j m e => ⟨e, h j (by rw [e]; intro z; cases z)⟩) fun j xs q e hq => .inl ⟨⟨xs, e⟩, by rw [h j (by rw [e]; intro z; cases z)] at hq; exact hq⟩
  oneM := s.oneM
  atL := s.keepL fun j xs e => ⟨e, h j (by rw [e]; intro z; cases z)⟩
  pin := s.keepP fun j m e => ⟨e, h j (by rw [e]; intro z; cases z)⟩
theorem wipeE_len : ∀ vs : List Nat, (wipeE ρ vs).length = ρ.length
  | [] => rfl
  | v :: vs => by
    unfold wipeE
    rw [List.length_set, wipeE_len vs]
theorem wipeE_un : ∀ (vs : List Nat) (i : Nat), i ∈ vs → i < ρ.length → (wipeE ρ vs)[i]? = some .un
  | v :: vs, i, h, hl => by
    unfold wipeE
    by_cases e : v = i
    · subst e
      exact List.getElem?_set_self (by rw [wipeE_len]; exact hl)
    · rw [List.getElem?_set_ne e]
      rcases List.mem_cons.mp h with z | z
      · exact absurd z.symm e
      · exact wipeE_un vs i z hl
theorem wipe_len2 (vs : List Nat) : (wipe σ vs).length = σ.length := wipe_length σ vs
theorem wipe_get : ∀ (vs : List Nat) (i : Nat), i ∉ vs → (wipe σ vs)[i]? = σ[i]?
  | [], _, _ => rfl
  | v :: vs, i, h => by
    unfold wipe
    rw [List.getElem?_set_ne (fun e => h (by rw [e]; exact List.mem_cons_self))]
    exact wipe_get vs i fun z => h (List.mem_cons_of_mem _ z)
theorem wipe_none : ∀ (vs : List Nat) (i : Nat), i ∈ vs → i < σ.length → (wipe σ vs)[i]? = some none
  | v :: vs, i, h, hl => by
    unfold wipe
    by_cases e : v = i
    · subst e
      exact List.getElem?_set_self (by rw [wipe_length]; exact hl)
    · rw [List.getElem?_set_ne e]
      rcases List.mem_cons.mp h with z | z
      · exact absurd z.symm e
      · exact wipe_none vs i z hl
theorem wipe_eq {τ : St} {vs : List Nat} (hl : τ.length = σ.length) (h : ∀ j, j ∉ vs → τ[j]? = σ[j]?) : wipe τ vs = wipe σ vs := by
  apply List.ext_getElem?
  intro i
  by_cases hi : i ∈ vs
  · by_cases hs : i < σ.length
    · rw [wipe_none vs i hi hs, wipe_none vs i hi (by rw [hl]; exact hs)]
    · rw [List.getElem?_eq_none (by rw [wipe_length]; omega), List.getElem?_eq_none (by rw [wipe_length]; omega)]
  · rw [wipe_get vs i hi, wipe_get vs i hi, h i hi]
theorem St2.wipeB (s : St2 Z F H σ ρ) : ∀ vs : List Nat, St2 Z F H σ (wipeE ρ vs)
  | [] => s
  | v :: vs => (St2.wipeB s vs).toUn v
theorem St2.wipeS (s : St2 Z F H σ ρ) (vs : List Nat) : St2 Z F H (wipe σ vs) (wipeE ρ vs) := by
  refine (s.wipeB vs).anySlot (wipe_length σ vs) fun i h => ?_
  by_cases hi : i ∈ vs
  · by_cases hl : i < ρ.length
    · exact absurd (wipeE_un vs i hi hl) h
    · have hs := s.len
      rw [List.getElem?_eq_none (by rw [wipe_length]; omega), List.getElem?_eq_none (by omega)]
  · exact wipe_get vs i hi
/-- the slots of the block are forgotten on both sides: the outer slots do as well -/
theorem St2.unwipe {vs : List Nat} {τ : St} (s : St2 Z F H τ (wipeE ρ vs)) (hl : τ.length = σ.length) (h : ∀ j, j ∉ vs → τ[j]? = σ[j]?) : St2 Z F H σ (wipeE ρ vs) := by
  refine s.anySlot hl.symm fun i hi => ?_
  by_cases hv : i ∈ vs
  · by_cases hl2 : i < ρ.length
    · exact absurd (wipeE_un vs i hv hl2) hi
    · have hs := s.len
      rw [wipeE_len] at hs
      rw [List.getElem?_eq_none (by omega), List.getElem?_eq_none (by omega)]
  · exact (h i hv).symm
end

section
variable {X : Cx} {Wx : WX} {S : Sx}
/-- a target that stores into the slots of vs alone -/
def Fram (vs : List Nat) (σ σ' : St) : Prop := (∀ j, j ∉ vs → σ'[j]? = σ[j]?) ∧ σ'.length = σ.length
def GFr (t : TG) (vs : List Nat) : Prop := ∀ v σ H (Q1 Q2 : St → Hp → Prop), t v σ H Q1 → (∀ σ' H', Fram vs σ σ' → Q1 σ' H' → Q2 σ' H') → t v σ H Q2
def GFrs (t : TGs) (vs : List Nat) : Prop := ∀ v σ H (Q1 Q2 : St → Hp → Prop), t v σ H Q1 → (∀ σ' H', Fram vs σ σ' → Q1 σ' H' → Q2 σ' H') → t v σ H Q2
theorem Fram.refl {vs : List Nat} {σ : St} : Fram vs σ σ := ⟨fun _ _ => rfl, rfl⟩
theorem Fram.trans {vs : List Nat} {σ σ1 σ2 : St} (a : Fram vs σ σ1) (b : Fram vs σ1 σ2) : Fram vs σ σ2 := ⟨fun j h => (b.1 j h).trans (a.1 j h), b.2.trans a.2⟩
structure GCJ (X : Cx) (S : Sx) (tg : Expr) (g : D → En → Fl) (vs : List Nat) : Prop where
  ex : ∃ t, PG X tg t ∧ GFr t vs ∧ ∀ B F0 F H σ ρ v d (Q : St → Hp → Prop), St2 (fx X S B F0) F H σ ρ → Rep X.K F v d → SPost (fx X S B F0) W0 F (g d ρ) { nx := Q, rt := fun _ _ => False } → t v σ H Q
structure GsCJ (X : Cx) (S : Sx) (tgs : List Expr) (g : List D → En → Fl) (vs : List Nat) : Prop where
  ex : ∃ t, PGs X tgs t ∧ GFrs t vs ∧ ∀ B F0 F H σ ρ us ds (Q : St → Hp → Prop), St2 (fx X S B F0) F H σ ρ → RepL X.K F us ds → SPost (fx X S B F0) W0 F (g ds ρ) { nx := Q, rt := fun _ _ => False } → t us σ H Q
theorem gcj_name (i : Nat) {x : Str} {pos : Pos} {vs : List Nat} (hN : X.N.Nodup) (hi : X.N[i]? = some x := by rfl) (hv : i ∈ vs := by decide) (hx : Loc X.env.scope x := by first | exact Or.inl rfl | exact Or.inr rfl) (hf : X.fn x = true ∨ X.env.scope.names.lookup x = some .local := by first | exact .inl rfl | exact .inr rfl) : GCJ X S (.Name x pos) (setD i) vs := by
  refine ⟨_, pg_name hN hi hx hf, fun v σ H Q1 Q2 h k => k _ _ ⟨fun j hj => List.getElem?_set_ne (fun e => hj (by rw [← e]; exact hv)), List.length_set⟩ h, fun B F0 F H σ ρ v d Q st r post => ?_⟩
  unfold setD at post
  split at post
  · rename_i hl
    exact post _ F H (st.store hl r) (Same.refl _)
  · exact post.elim
theorem gscj_nil {vs : List Nat} : GsCJ X S [] tsNil vs := by
  refine ⟨_, pgs_nil, fun us σ H Q1 Q2 h k => ⟨h.1, k _ _ Fram.refl h.2⟩, fun B F0 F H σ ρ vs ds Q st r post => ?_⟩
  cases r with
  | nil => exact ⟨rfl, post σ F H st (Same.refl _)⟩
  | cons _ _ => exact post.elim
theorem gscj_cons {e : Expr} {es : List Expr} {g : D → En → Fl} {gs : List D → En → Fl} {ws : List Nat} (h1 : GCJ X S e g ws) (h2 : GsCJ X S es gs ws)
    (hs : (assignEach (e :: es) X.env).map (·.2) = assign e X.env :: (assignEach es X.env).map (·.2) := by rfl) : GsCJ X S (e :: es) (tsCons g gs) ws := by
  obtain ⟨t, p, fr, q⟩ := h1.ex
  obtain ⟨u, p2, fr2, q2⟩ := h2.ex
  refine ⟨_, pgs_cons p p2 hs, fun us σ H Q1 Q2 h k => ?_, fun B F0 F H σ ρ vs ds Q st r post => ?_⟩
  · obtain ⟨v, r, e1, z⟩ := h
    exact ⟨v, r, e1, fr v σ H _ _ z fun σ1 H1 f1 z1 => fr2 r σ1 H1 _ _ z1 fun σ2 H2 f2 z2 => k σ2 H2 (f1.trans f2) z2⟩
  · cases r with
    | nil => exact post.elim
    | cons r1 r2 =>
      refine ⟨_, _, rfl, q B F0 F H σ ρ _ _ _ st r1 ?_⟩
      have k : ∀ (z : Fl), SPost (fx X S B F0) W0 F (z.seq (gs _)) { nx := Q, rt := fun _ _ => False } → SPost (fx X S B F0) W0 F z { nx := fun σ' H' => u _ σ' H' Q, rt := fun _ _ => False } := fun z pz => by
        cases z with
        | nx ρ' => exact fun σ' F' H' st' s' => q2 B F0 F' H' σ' ρ' _ _ Q st' (r2.mono s') (SPost.mono pz s')
        | bk ρ => exact pz
        | ct ρ => exact pz
        | rt d => exact pz
        | exc x ρ => exact pz
        | bad => exact pz
      exact k _ post
theorem gcj_tup {es : List Expr} {k : Nat} {pos : Pos} {gs : List D → En → Fl} {vs : List Nat} (n : Nat) (h : GsCJ X S es gs vs) (hc : X.calm = true := by rfl)
    (hn : (assignEach es X.env).length = n := by rfl) (hst : (assignEach es X.env).findIdx? (·.1) = none := by rfl) : GCJ X S (.Tuple es k pos) (gUn n gs) vs := by
  obtain ⟨t, p, fr, q⟩ := h.ex
  refine ⟨_, pg_or (pg_tup hc p hn hst) (pg_lst hc p hn hst), fun v σ H Q1 Q2 h k => ?_, fun B F0 F H σ ρ v d Q st r post => ?_⟩
  · rcases h with ⟨a, xs, e1, e2, e3, z⟩ | ⟨a, xs, e1, e2, e3, z⟩
    · exact .inl ⟨a, xs, e1, e2, e3, fr xs σ H _ _ z k⟩
    · exact .inr ⟨a, xs, e1, e2, e3, fr xs σ H _ _ z k⟩
  cases r with
  | @tup a vs ds h1 h2 =>
    replace post : SPost (fx X S B F0) W0 F (if ds.length = n then gs ds ρ else .bad) _ := post
    split at post
    · rename_i hl
      exact .inl ⟨a, vs, rfl, Same.seqT st.fz.fH h1, by rw [h2.length]; exact hl, q B F0 F H σ ρ vs ds Q st h2 post⟩
    · exact post.elim
  | @lst a vs ds h1 h2 =>
    replace post : SPost (fx X S B F0) W0 F (if ds.length = n then gs ds ρ else .bad) _ := post
    split at post
    · rename_i hl
      exact .inr ⟨a, vs, rfl, Same.seq st.fz.fH h1, by rw [h2.length]; exact hl, q B F0 F H σ ρ vs ds Q st h2 post⟩
    · exact post.elim
  | _ => exact post.elim
/-- the tests of a comprehension -/
structure TsJ (X : Cx) (Wx : WX) (S : Sx) (es : List Expr) (f : En → Res Bool) : Prop where
  ex : ∃ t, PTs X es t ∧ ∀ B F0 F H σ ρ Q, St2 (fx X S B F0) F H σ ρ → Post (fun _ b c => b = c) (fx X S B F0) Wx σ F (f ρ) Q → t σ H Q
def tYesD : En → Res Bool := fun ρ => .ok true ρ
theorem tsj_nil : TsJ X Wx S [] tYesD := ⟨_, pts_nil, fun B F0 F H σ ρ Q st post => post true F H st (Same.refl _) rfl⟩
theorem tsj_one {c : Expr} {f : En → Res Bool} (h : TJ X Wx S c f) : TsJ X Wx S [c] f := by
  obtain ⟨t, p, q⟩ := h.ex
  exact ⟨_, pts_one p, q⟩
def lcGo (g : D → En → Fl) (tt : En → Res Bool) (te : En → Res D) (vs : List Nat) : List D → List D → En → Res (List D)
  | [], acc, ρ => .ok acc ρ
  | d :: r, acc, ρ => match g d ρ with
    | .nx ρ1 => (match tt ρ1 with
      | .ok b ρ2 => if b = true then (match te ρ2 with
          | .ok y ρ3 => if acc.length < lim then lcGo g tt te vs r (acc ++ [y]) (wipeE ρ3 vs) else .bad
          | _ => .bad) else lcGo g tt te vs r acc (wipeE ρ2 vs)
      | _ => .bad)
    | _ => .bad
def fLc (fi : En → Res (List D)) (g : D → En → Fl) (tt : En → Res Bool) (te : En → Res D) (vs : List Nat) : En → Res (List D) := fun ρ => (fi ρ).bind fun ds ρ1 => lcGo g tt te vs ds [] (wipeE ρ1 vs)

/-- what is built while a comprehension runs -/
structure LcSt (Z : Fx) (D0 : Addr) (F H : Hp) (σ : St) (ρ : En) (acc : List D) : Prop where
  st : St2 Z F H σ ρ
  ac : ∃ vs, H D0 = some (.lst vs) ∧ RepL Z.K F vs acc
  nf : F D0 = none
  nb : Z.B D0 = none
  no : ∀ (i : Nat) (ys : List D), ρ[i]? = some (.own ys) → σ[i]? ≠ some (some (.ref D0))
  ap : Apart Z F H σ ρ D0
section
variable {Z : Fx} {D0 : Addr} {F F' H H' : Hp} {σ σ' : St} {ρ ρ' : En} {acc : List D} {us : List V}
abbrev Fx.plus (Z : Fx) (D0 : Addr) (us : List V) : Fx := ⟨Z.K, Z.S, upd Z.B D0 (.lst us), Z.F0⟩
theorem LcSt.toB (l : LcSt Z D0 F H σ ρ acc) (h : H D0 = some (.lst us)) : St2 (Z.plus D0 us) F H σ ρ where
  fz := ⟨l.st.fz.f01, l.st.fz.fH, fun b u e => by
      by_cases hb : b = D0
      · subst hb
        have e' : some (HO.lst us) = some u := by rw [← e]; exact upd_same.symm
        rw [h]
        exact e'
      · have e' : Z.B b = some u := by rw [← e]; exact (upd_ne hb).symm
        exact l.st.fz.bH b u e', fun b u e => by
      by_cases hb : b = D0
      · subst hb
        have hf : Z.F0 b = none := none_of_same l.st.fz.f01 l.nf
        show F b = Z.F0 b
        rw [hf, l.nf]
      · have e' : Z.B b = some u := by rw [← e]; exact (upd_ne hb).symm
        exact l.st.fz.new b u e', fun b u e => by
      show upd Z.B D0 (.lst us) b = some u
      rw [upd_ne (ne_of_none (l.st.fz.lB b u e) l.nb)]
      exact l.st.fz.lB b u e⟩
  len := l.st.len
  atD := l.st.atD
  atO := fun i xs e => by
    obtain ⟨p, vs, h1, h2, h3, h4, h5⟩ := l.st.atO i xs e
    refine ⟨p, vs, h1, h2, h3, ?_, h5⟩
    have hb : p ≠ D0 := fun z => l.no i xs e (by rw [← z]; exact h1)
    show upd Z.B D0 (.lst us) p = none
    rw [upd_ne hb]
    exact h4
  atX := l.st.atX
  dis := l.st.dis
  atM := fun i m e => by
    obtain ⟨v, ps, h1, h2, h3, h4, h5⟩ := l.st.atM i m e
    have hn := l.ap i m v ps e h1 h2
    refine ⟨v, ps, h1, h2, h3, fun q hq => ⟨(h4 q hq).1, ?_⟩, h5⟩
    show upd Z.B D0 (.lst us) q = none
    rw [upd_ne (fun z => hn (by rw [← z]; exact hq))]
    exact (h4 q hq).2
  oneM := l.st.oneM
  atL := l.st.atL
  pin := l.st.pin
theorem lc_fromB (hL : Same Z.S.L Z.B) (s : St2 (Z.plus D0 us) F' H' σ' ρ') (hf : Z.F0 D0 = none) (hb : Z.B D0 = none) (r : RepL Z.K F' us acc) : LcSt Z D0 F' H' σ' ρ' acc := by
  have up : ∀ b u, Z.B b = some u → (Z.plus D0 us).B b = some u := fun b u e => by
    show upd Z.B D0 (.lst us) b = some u
    rw [upd_ne (ne_of_none e hb)]
    exact e
  have h0 : (Z.plus D0 us).B D0 = some (.lst us) := upd_same
  have no : ∀ (i : Nat) (ys : List D) (p : Addr), ρ'[i]? = some (.own ys) → σ'[i]? = some (some (.ref p)) → p ≠ D0 := fun i ys p e e2 z => by
    obtain ⟨q, vs, h1, h2, h3, h4, h5⟩ := s.atO i ys e
    rw [e2] at h1
    cases h1
    rw [z, h0] at h4
    cases h4
  refine ⟨⟨⟨s.fz.f01, s.fz.fH, fun b u e => s.fz.bH b u (up b u e), fun b u e => s.fz.new b u (up b u e), hL⟩, s.len, s.atD, fun i xs e => ?_, s.atX, s.dis, fun i m e => ?_, s.oneM, s.atL, s.pin⟩, ⟨us, s.fz.bH _ _ h0, r⟩, (s.fz.new _ _ h0).trans hf, hb, fun i ys e e2 => no i ys D0 e e2 rfl, fun i m v ps e1 e2 rm hm => ?_⟩
  · obtain ⟨p, vs, h1, h2, h3, h4, h5⟩ := s.atO i xs e
    have hp := no i xs p e h1
    refine ⟨p, vs, h1, h2, h3, ?_, h5⟩
    have h4' : upd Z.B D0 (.lst us) p = none := h4
    rw [upd_ne hp] at h4'
    exact h4'
  · obtain ⟨v, ps, h1, h2, h3, h4, h5⟩ := s.atM i m e
    refine ⟨v, ps, h1, h2, h3, fun q hq => ⟨(h4 q hq).1, ?_⟩, h5⟩
    have z : upd Z.B D0 (.lst us) q = none := (h4 q hq).2
    by_cases hqd : q = D0
    · rw [hqd, upd_same] at z
      cases z
    · rw [upd_ne hqd] at z
      exact z
  · obtain ⟨v', qs, q1, q2, q3, q4, q5⟩ := s.atM i m e1
    rw [e2] at q1
    cases q1
    have er : ps = qs := RepM.uni (K := Z.K) rm q2
    rw [er] at hm
    have z : upd Z.B D0 (.lst us) D0 = none := (q4 D0 hm).2
    rw [upd_same] at z
    cases z
theorem LcSt.push {v : V} {d : D} (l : LcSt Z D0 F H σ ρ acc) (h : H D0 = some (.lst us)) (r : RepL Z.K F us acc) (rv : Rep Z.K F v d) : LcSt Z D0 F (upd H D0 (.lst (us ++ [v]))) σ ρ (acc ++ [d]) where
  st := {
    fz := ⟨l.st.fz.f01, fun b u e => by rw [upd_ne (ne_of_none e l.nf)]; exact l.st.fz.fH b u e, fun b u e => by rw [upd_ne (ne_of_none e l.nb)]; exact l.st.fz.bH b u e, l.st.fz.new, l.st.fz.lB⟩
    len := l.st.len
    atD := l.st.atD
    atO := fun i xs e => by
      obtain ⟨p, vs, h1, h2, h3, h4, h5⟩ := l.st.atO i xs e
      refine ⟨p, vs, h1, ?_, h3, h4, h5⟩
      rw [upd_ne (fun z => l.no i xs e (by rw [← z]; exact h1))]
      exact h2
    atX := l.st.atX
    dis := l.st.dis
    atM := fun i m e => by
      obtain ⟨v', ps, h1, h2, h3, h4, h5⟩ := l.st.atM i m e
      have hn := l.ap i m v' ps e h1 h2
      exact ⟨v', ps, h1, h2.move (Same.refl _) fun q hq => upd_ne (fun z => hn (by rw [← z]; exact hq)), h3, h4, h5⟩
    oneM := l.st.oneM
    atL := l.st.atL
    pin := l.st.pin }
  ac := ⟨_, upd_same, r.snoc rv⟩
  nf := l.nf
  nb := l.nb
  no := l.no
  ap := l.ap.move l.st (Same.refl _) fun i m v' ps e1 e2 rm q hq => upd_ne (fun z => l.ap i m v' ps e1 e2 rm (by rw [← z]; exact hq))
theorem LcSt.wipe (l : LcSt Z D0 F H σ ρ acc) (vs : List Nat) : LcSt Z D0 F H (wipe σ vs) (wipeE ρ vs) acc where
  st := l.st.wipeS vs
  ac := l.ac
  nf := l.nf
  nb := l.nb
  no := fun i ys e e2 => by
    have h1 := (l.st.wipeS vs).atO i ys e
    obtain ⟨p, ws, e3, e4, e5, e6, e7⟩ := h1
    rw [e2] at e3
    cases e3
    have hv : i ∉ vs := fun hv => by
      have hl : i < ρ.length := by
        have := get_lt e
        rw [wipeE_len] at this
        exact this
      rw [wipeE_un vs i hv hl] at e
      cases e
    have e8 : ρ[i]? = some (.own ys) := by
      have : ∀ ws : List Nat, i ∉ ws → (wipeE ρ ws)[i]? = ρ[i]? := by
        intro ws
        induction ws with
        | nil => intro _; rfl
        | cons w ws ih =>
          intro h
          unfold wipeE
          rw [List.getElem?_set_ne (fun z => h (by rw [z]; exact List.mem_cons_self))]
          exact ih fun z => h (List.mem_cons_of_mem _ z)
      rw [← this vs hv]
      exact e
    rw [wipe_get vs i hv] at e2
    exact l.no i ys e8 e2
  ap := fun i m v ps e e2 rm => by
    have hv : i ∉ vs := fun hv => by
      have hl : i < ρ.length := by
        have := get_lt e
        rw [wipeE_len] at this
        exact this
      rw [wipeE_un vs i hv hl] at e
      cases e
    have e8 : ρ[i]? = some (.mt m) := by
      have : ∀ ws : List Nat, i ∉ ws → (wipeE ρ ws)[i]? = ρ[i]? := by
        intro ws
        induction ws with
        | nil => intro _; rfl
        | cons w ws ih =>
          intro h
          unfold wipeE
          rw [List.getElem?_set_ne (fun z => h (by rw [z]; exact List.mem_cons_self))]
          exact ih fun z => h (List.mem_cons_of_mem _ z)
      rw [← this vs hv]
      exact e
    rw [wipe_get vs i hv] at e2
    exact l.ap i m v ps e8 e2 rm
theorem LcSt.ext (l : LcSt Z D0 F H σ ρ acc) (e : Ext F H F' H') : LcSt Z D0 F' H' σ ρ acc where
  st := l.st.ext e
  ac := by
    obtain ⟨vs, h1, h2⟩ := l.ac
    exact ⟨vs, e.hh _ _ h1, h2.mono e.ff⟩
  nf := by
    obtain ⟨vs, h1, h2⟩ := l.ac
    rw [e.new _ _ h1]
    exact l.nf
  nb := l.nb
  no := l.no
  ap := l.ap.ext l.st e
theorem wipe_wipe (vs : List Nat) : L2.wipe (L2.wipe σ vs) vs = L2.wipe σ vs := wipe_eq (wipe_length σ vs) fun j hj => wipe_get vs j hj
end
theorem PostO.mono {Z : Fx} {σ : St} {F F' : Hp} {r : Res (List D)} {Q : VK} (post : PostO Z Wx σ F r Q) (s : Same F F') : PostO Z Wx σ F' r Q := by
  cases r with
  | bad => exact post
  | exc x ρ => exact fun cls dd F2 H2 st2 s2 r2 => post cls dd F2 H2 st2 (s.trans s2) r2
  | ok d ρ => exact fun p vs F2 H2 st2 s2 => post p vs F2 H2 st2 (s.trans s2)
theorem lc_core_post {Z : Fx} {vs : List Nat} {J : It} {G : Hp → Prop} {Y : Nat → Hp → V → Hp → Prop} {ds : List D} {g : D → En → Fl} {tt : En → Res Bool} {te : En → Res D} {tg : TG} {tts : TT} {tes : TE} {σ : St} {ρ : En} {F1 H1 : Hp} {D0 : Addr} {Q : VK}
    (w : Walk J ds.length G Y) (hG : ∀ H'', Same F1 H'' → Same Z.S.L H'' → G H'') (hY : ∀ i Fi Hi x Hi', i < ds.length → Same F1 Fi → Same Fi Hi → Y i Hi x Hi' → ∃ Fj d, Ext Fi Hi Fj Hi' ∧ ds[i]? = some d ∧ Rep Z.K Fj x d)
    (fr : GFr tg vs)
    (hg : ∀ B F0 F H σ ρ v d (Q : St → Hp → Prop), St2 ⟨Z.K, Z.S, B, F0⟩ F H σ ρ → Rep Z.K F v d → SPost ⟨Z.K, Z.S, B, F0⟩ W0 F (g d ρ) { nx := Q, rt := fun _ _ => False } → tg v σ H Q)
    (ht : ∀ B F0 F H σ ρ Q, St2 ⟨Z.K, Z.S, B, F0⟩ F H σ ρ → Post (fun _ b c => b = c) ⟨Z.K, Z.S, B, F0⟩ W0 σ F (tt ρ) Q → tts σ H Q)
    (he : ∀ B F0 F H σ ρ Q, St2 ⟨Z.K, Z.S, B, F0⟩ F H σ ρ → Post (Rep Z.K) ⟨Z.K, Z.S, B, F0⟩ W0 σ F (te ρ) Q → tes σ H Q)
    (st1 : St2 Z F1 H1 σ ρ) (hD : H1 D0 = none) (post : PostO Z Wx σ F1 (lcGo g tt te vs ds [] (wipeE ρ vs)) Q) :
    ∃ W : Nat → Nat → Hp → Prop, (∃ m, W 0 m (upd H1 D0 (.lst []))) ∧ ∀ i m H, W i m H →
      (J.stop i H ∧ Q (.ref D0) H) ∨ (J.go i H ∧ ∃ Nx : Hp → Prop, (∀ H', Nx H' → ∃ m', m' < m ∧ W (i + 1) m' H') ∧ ∀ x H', J.yld i H x H' → tg x (wipe σ vs) H' fun σ2 H2 => wipe σ2 vs = wipe σ vs ∧ tts σ2 H2 fun b H3 =>
        if b = true then tes σ2 H3 fun y H4 => ∃ acc, H4 D0 = some (.lst acc) ∧ acc.length < sizeLine ∧ Nx (upd H4 D0 (.lst (acc ++ [y]))) else Nx H3) := by
  have hlen : ∀ (i : Nat), i ≤ ds.length → True := fun _ _ => trivial
  have hnf : Z.F0 D0 = none := none_of_same st1.fz.f01 (none_of_same st1.fz.fH hD)
  have hnb : Z.B D0 = none := none_of_same st1.fz.bH hD
  refine lc_it w (fun i H => ∃ F' ρ' acc, LcSt Z D0 F' H (wipe σ vs) (wipeE ρ' vs) acc ∧ Same F1 F' ∧ PostO Z Wx σ F' (lcGo g tt te vs (ds.drop i) acc (wipeE ρ' vs)) Q) ?_ (fun i H _ h => ?_) (fun i x H H' hi h y => ?_) (fun H h => ?_)
  · refine ⟨F1, ρ, [], ⟨(st1.laid hD).wipeS vs, ⟨[], upd_same, .nil⟩, none_of_same st1.fz.fH hD, hnb, fun i ys e e2 => ?_, ?_⟩, Same.refl _, post⟩
    rotate_left
    · exact apart_new (st1.wipeS vs) hD
    obtain ⟨p, ws, e3, e4, e5, e6, e7⟩ := (st1.wipeS vs).atO i ys e
    rw [e2] at e3
    cases e3
    rw [hD] at e4
    cases e4
  · obtain ⟨F', ρ', acc, l, s, _⟩ := h
    exact hG H (s.trans l.st.fz.fH) (l.st.fz.lB.trans l.st.fz.bH)
  · obtain ⟨F', ρ', acc, l, s, post'⟩ := h
    obtain ⟨Fj, d, ex, hd, rd⟩ := hY i F' H x H' hi s l.st.fz.fH y
    have hdrop : ds.drop i = d :: ds.drop (i + 1) := by
      obtain ⟨hl, he⟩ := List.getElem?_eq_some_iff.mp hd
      rw [List.drop_eq_getElem_cons hl, he]
    rw [hdrop] at post'
    have l1 := l.ext ex
    obtain ⟨us, hu, ru⟩ := l1.ac
    have b1 := l1.toB hu
    unfold lcGo at post'
    cases eg : g d (wipeE ρ' vs) with
    | nx ρ1 =>
      rw [eg] at post'
      refine fr x _ _ (fun σ2 H2 => Fram vs (wipe σ vs) σ2 → wipe σ2 vs = wipe σ vs ∧ tts σ2 H2 fun b H3 => if b = true then tes σ2 H3 fun y H4 => ∃ acc, H4 D0 = some (.lst acc) ∧ acc.length < sizeLine ∧ _ else _) _ (hg _ _ Fj H' _ _ x d _ b1 rd ?_) (fun σ2 H2 f z => z f)
      rw [eg]
      intro σ2 F2 H2 st2 s2 f2
      have ew : wipe σ2 vs = wipe σ vs := by rw [wipe_eq f2.2 f2.1, wipe_wipe]
      refine ⟨ew, ht _ _ F2 H2 σ2 ρ1 _ st2 ?_⟩
      cases et : tt ρ1 with
      | bad => simp only [et] at post'; exact post'.elim
      | exc x2 ρ2 => simp only [et] at post'; exact post'.elim
      | ok b ρ2 =>
        simp only [et] at post'
        intro b' F3 H3 st3 s3 eb
        subst eb
        cases b' with
        | true =>
          rw [if_pos rfl] at post'
          refine iteT (he _ _ F3 H3 σ2 ρ2 _ st3 ?_)
          cases ee : te ρ2 with
          | bad => simp only [ee] at post'; exact post'.elim
          | exc x3 ρ3 => simp only [ee] at post'; exact post'.elim
          | ok yv ρ3 =>
            simp only [ee] at post'
            intro v F4 H4 st4 s4 rv
            split at post'
            · rename_i hacc
              have s14 : Same Fj F4 := (s2.trans s3).trans s4
              have l4 := lc_fromB l.st.fz.lB st4 hnf hnb (ru.mono s14)
              have hu4 : H4 D0 = some (.lst us) := st4.fz.bH _ _ upd_same
              refine ⟨us, hu4, lim_lt (by rw [ru.length]; exact hacc), F4, ρ3, acc ++ [yv], ?_, (s.trans ex.ff).trans s14, PostO.mono post' (ex.ff.trans s14)⟩
              have l5 := (l4.push hu4 (ru.mono s14) rv).wipe vs
              rw [ew] at l5
              exact l5
            · exact post'.elim
        | false =>
          rw [if_neg Bool.false_ne_true] at post'
          have s13 : Same Fj F3 := s2.trans s3
          refine iteF ⟨F3, ρ2, acc, ?_, (s.trans ex.ff).trans s13, PostO.mono post' (ex.ff.trans s13)⟩
          have l5 := (lc_fromB l.st.fz.lB st3 hnf hnb (ru.mono s13)).wipe vs
          rw [ew] at l5
          exact l5
    | rt _ => rw [eg] at post'; exact post'.elim
    | bk _ => rw [eg] at post'; exact post'.elim
    | ct _ => rw [eg] at post'; exact post'.elim
    | exc _ _ => rw [eg] at post'; exact post'.elim
    | bad => rw [eg] at post'; exact post'.elim
  · obtain ⟨F', ρ', acc, l, s, post'⟩ := h
    rw [List.drop_length] at post'
    obtain ⟨us, hu, ru⟩ := l.ac
    refine post' D0 us F' H (l.st.unwipe (wipe_length σ vs) fun j hj => wipe_get vs j hj) (Same.refl _) hu l.nf hnb (fun i ys e e2 => ?_) (fun i m v ps e e2 rm => ?_) ru
    rotate_left
    · have hv : i ∉ vs := fun hv => by
        have hl : i < ρ'.length := by
          have := get_lt e
          rw [wipeE_len] at this
          exact this
        rw [wipeE_un vs i hv hl] at e
        cases e
      exact l.ap i m v ps e (by rw [wipe_get vs i hv]; exact e2) rm
    obtain ⟨p, ws, e3, e4, e5, e6, e7⟩ := l.st.atO i ys e
    refine l.no i ys e ?_
    have hv : i ∉ vs := fun hv => by
      have hl : i < ρ'.length := by
        have := get_lt e
        rw [wipeE_len] at this
        exact this
      rw [wipeE_un vs i hv hl] at e
      cases e
    rw [wipe_get vs i hv]
    exact e2
end
end PD
set_option Elab.async false
set_option linter.all false
set_option maxRecDepth 100000
set_option maxHeartbeats 4000000
/-! PD7: comprehensions as rules; calls of defs; what a def is worth. -/
namespace PD
open PySem PySem.Spec L2

section
variable {X : Cx} {Wx : WX} {S : Sx}
/-- a look at a block's names -/
def blkQ (N : List Str) (sc scope : Scope) (own : List (Str × Nat)) : Bool :=
  decide (scope.kind = .function) && scope.names.all (fun y => decide (scope.names.lookup y.1 = some y.2)) && own.all (fun p => decide (N[p.2]? = some p.1)) &&
  scope.names.all (fun y => !decide (y.2 = .free) || (decide (sc.names.lookup y.1 = some .cell) || decide (sc.names.lookup y.1 = some .free))) &&
  scope.names.all (fun y => !(decide (y.2 = .local) || decide (y.2 = .cell)) || (decide (y.1 ∈ own.map (·.1)) || !decide (y.1 ∈ N)))
theorem blkQ_by {N : List Str} {sc scope : Scope} {own : List (Str × Nat)} (h : blkQ N sc scope own = true) : BlkOk N sc scope own := by
  unfold blkQ at h
  simp only [Bool.and_eq_true, decide_eq_true_eq, List.all_eq_true, Bool.or_eq_true, Bool.not_eq_true', decide_eq_false_iff_not] at h
  obtain ⟨⟨⟨⟨h1, h2⟩, h3⟩, h4⟩, h5⟩ := h
  exact ⟨h1, fun y hy => h2 y hy, fun p hp => h3 p hp, fun y hy hf => (h4 y hy).resolve_left fun z => z hf, fun y hy hl => by
    rcases h5 y hy with z | z
    · exact absurd hl (by
        intro hh
        rcases hh with hh | hh
        · simp [hh] at z
        · simp [hh] at z)
    · exact z⟩
/-- one reading for all the blocks -/
theorem lc_main {own : List (Str × Nat)} {elt tg iter : Expr} {ifs : List Expr} {scope : Scope} {pos : Pos} {fi : En → Res (List D)} {g : D → En → Fl} {tt : En → Res Bool} {te : En → Res D} (hi : IJ X Wx S tg iter fi)
    (hg : ∀ (s : Shared) (H : Hp) (C : Addr) (cl : List (Str × Addr)) (fp : List Addr), GCJ (X.blk s H scope (compEnvC scope cl C X.env) fp) S tg g (own.map (·.2)))
    (ht : ∀ (s : Shared) (H : Hp) (C : Addr) (cl : List (Str × Addr)) (fp : List Addr), TsJ (X.blk s H scope (compEnvC scope cl C X.env) fp) W0 S ifs tt)
    (he : ∀ (s : Shared) (H : Hp) (C : Addr) (cl : List (Str × Addr)) (fp : List Addr), EJ (X.blk s H scope (compEnvC scope cl C X.env) fp) W0 S elt te) :
    ∃ (wi : TI) (tgU : TG) (ttU : TT) (teU : TE), PI X tg iter wi ∧ (∀ s H C cl fp, PG (X.blk s H scope (compEnvC scope cl C X.env) fp) tg tgU) ∧ (∀ s H C cl fp, PTs (X.blk s H scope (compEnvC scope cl C X.env) fp) ifs ttU) ∧ (∀ s H C cl fp, PE (X.blk s H scope (compEnvC scope cl C X.env) fp) elt teU) ∧
      ∀ B F0 F H σ ρ Q, St2 (fx X S B F0) F H σ ρ → PostO (fx X S B F0) Wx σ F (fLc fi g tt te (own.map (·.2)) ρ) Q → tLc wi tgU ttU teU (own.map (·.2)) σ H Q := by
  obtain ⟨wi, p, q⟩ := hi.ex
  have hg' := fun s H C cl fp => (hg s H C cl fp).ex
  have ht' := fun s H C cl fp => (ht s H C cl fp).ex
  have he' := fun s H C cl fp => (he s H C cl fp).ex
  let tgU : TG := fun v σ H Q => ∀ s H0 C cl fp, Classical.choose (hg' s H0 C cl fp) v σ H Q
  let ttU : TT := fun σ H Q => ∀ s H0 C cl fp, Classical.choose (ht' s H0 C cl fp) σ H Q
  let teU : TE := fun σ H Q => ∀ s H0 C cl fp, Classical.choose (he' s H0 C cl fp) σ H Q
  have hgU : ∀ s H C cl fp, PG (X.blk s H scope (compEnvC scope cl C X.env) fp) tg tgU := fun s H C cl fp => ⟨fun pins s1 σ H1 v u Q I r h => (Classical.choose_spec (hg' s H C cl fp)).1.run pins s1 σ H1 v u Q I r (h s H C cl fp)⟩
  have htU : ∀ s H C cl fp, PTs (X.blk s H scope (compEnvC scope cl C X.env) fp) ifs ttU := fun s H C cl fp => ⟨fun pins s1 σ H1 Q I h => (Classical.choose_spec (ht' s H C cl fp)).1.run pins s1 σ H1 Q I (h s H C cl fp)⟩
  have heU : ∀ s H C cl fp, PE (X.blk s H scope (compEnvC scope cl C X.env) fp) elt teU := fun s H C cl fp => ⟨fun pins s1 σ H1 Q I h => (Classical.choose_spec (he' s H C cl fp)).1.run pins s1 σ H1 Q I (h s H C cl fp)⟩
  refine ⟨wi, tgU, ttU, teU, p, hgU, htU, heU, fun B F0 F H σ ρ Q st post => q B F0 F H σ ρ _ st ?_⟩
  unfold fLc at post
  cases ef : fi ρ with
  | bad => rw [ef] at post; exact post
  | exc x ρ1 => rw [ef] at post; exact fun cls dd F' H' st' s rx => post cls dd F' H' st' s rx
  | ok ds ρ1 =>
    rw [ef, Res.bind_ok] at post
    intro J G Y F1 H1 st1 s1 w hG hY D0 hD
    exact lc_core_post (Z := fx X S B F0) w hG hY (fun v σ H Q1 Q2 h k s H0 C cl fp => (Classical.choose_spec (hg' s H0 C cl fp)).2.1 v σ H Q1 Q2 (h s H0 C cl fp) k)
      (fun B F0 F H σ ρ v d Q st r post s H0 C cl fp => (Classical.choose_spec (hg' s H0 C cl fp)).2.2 B F0 F H σ ρ v d Q st r post)
      (fun B F0 F H σ ρ Q st post s H0 C cl fp => (Classical.choose_spec (ht' s H0 C cl fp)).2 B F0 F H σ ρ Q st post)
      (fun B F0 F H σ ρ Q st post s H0 C cl fp => (Classical.choose_spec (he' s H0 C cl fp)).2 B F0 F H σ ρ Q st post) st1 hD (PostO.mono post s1)
theorem oj_lc {own : List (Str × Nat)} {elt tg iter : Expr} {ifs : List Expr} {scope : Scope} {pos : Pos} {fi : En → Res (List D)} {g : D → En → Fl} {tt : En → Res Bool} {te : En → Res D} (hN : X.N.Nodup) (hi : IJ X Wx S tg iter fi) (ok : BlkOk X.N X.env.scope scope own)
    (hg : ∀ (s : Shared) (H : Hp) (C : Addr) (cl : List (Str × Addr)) (fp : List Addr), GCJ (X.blk s H scope (compEnvC scope cl C X.env) fp) S tg g (own.map (·.2)))
    (ht : ∀ (s : Shared) (H : Hp) (C : Addr) (cl : List (Str × Addr)) (fp : List Addr), TsJ (X.blk s H scope (compEnvC scope cl C X.env) fp) W0 S ifs tt)
    (he : ∀ (s : Shared) (H : Hp) (C : Addr) (cl : List (Str × Addr)) (fp : List Addr), EJ (X.blk s H scope (compEnvC scope cl C X.env) fp) W0 S elt te) (hc : X.calm = true := by rfl) (hs : ∀ x, foldedSetIterable iter X.env x = pure x := by intro _; rfl) :
    OJ X Wx S (.ListComp elt [⟨tg, iter, ifs, 0⟩] scope pos) (fLc fi g tt te (own.map (·.2))) := by
  obtain ⟨wi, tgU, ttU, teU, p, hgU, htU, heU, k⟩ := lc_main (own := own) (pos := pos) hi hg ht he
  exact ⟨_, pe_lc hc hN p ok hgU htU heU hs, k⟩
/-- name = [..], the name a local that no block sees -/
theorem sj_setLc {own : List (Str × Nat)} (i : Nat) {y : Str} {py spos : Pos} {elt tg iter : Expr} {ifs : List Expr} {scope : Scope} {pos : Pos} {fi : En → Res (List D)} {g : D → En → Fl} {tt : En → Res Bool} {te : En → Res D} (hN : X.N.Nodup) (hi : IJ X Wx S tg iter fi) (ok : BlkOk X.N X.env.scope scope own)
    (hg : ∀ (s : Shared) (H : Hp) (C : Addr) (cl : List (Str × Addr)) (fp : List Addr), GCJ (X.blk s H scope (compEnvC scope cl C X.env) fp) S tg g (own.map (·.2)))
    (ht : ∀ (s : Shared) (H : Hp) (C : Addr) (cl : List (Str × Addr)) (fp : List Addr), TsJ (X.blk s H scope (compEnvC scope cl C X.env) fp) W0 S ifs tt)
    (he : ∀ (s : Shared) (H : Hp) (C : Addr) (cl : List (Str × Addr)) (fp : List Addr), EJ (X.blk s H scope (compEnvC scope cl C X.env) fp) W0 S elt te) (hy : X.N[i]? = some y := by rfl) (hyl : X.env.scope.names.lookup y = some .local := by rfl)
    (hsw : swapsWith (.ListComp elt [⟨tg, iter, ifs, 0⟩] scope pos) (some (.Name y py)) spos.line X.env = pure true := by rfl) (hc : X.calm = true := by rfl) (hs : ∀ x, foldedSetIterable iter X.env x = pure x := by intro _; rfl) :
    SJ X Wx S (.Assign [.Name y py] (.ListComp elt [⟨tg, iter, ifs, 0⟩] scope pos) spos) (sAsgO (fLc fi g tt te (own.map (·.2))) i) := by
  obtain ⟨wi, tgU, ttU, teU, p, hgU, htU, heU, k⟩ := lc_main (own := own) (pos := pos) hi hg ht he
  refine ⟨_, ps_setLc hc hN hy hyl hsw p ok hgU htU heU hs, fun B F0 F H σ ρ E st post => k B F0 F H σ ρ _ st (fl_postO post fun xs ρ' a vs F' H' post' st' s' h1 h2 h3 h4 h5 r => ?_)⟩
  unfold setO at post'
  split at post'
  · rename_i hl
    exact post' _ F' H' (st'.storeO hl h1 h2 h3 h4 h5 r) (Same.refl _)
  · exact post'.elim

/-! ### calls of defs -/
def spD (K : PySem.W.Frag) (n : Nat) (den : List D → FR) : Sp := fun vs H Q E => vs.length = n ∧ ∃ F ds, Same F H ∧ RepL K F vs ds ∧ (match den ds with
  | .ok r => ∀ v F' H', Ext F H F' H' → Rep K F' v r → Q v H'
  | .exc x => ∀ cls dd F' H', Ext F H F' H' → RepX K F' cls dd x → E cls dd H'
  | .bad => False)
/-- the def at f is worth den -/
structure FnJ (P : Program) (w : World) (K : PySem.W.Frag) (mg : Str → Option Value) (base : Heap) (k : Nat) (f : Addr) (fd : FuncData) (ps : List Str) (den : List D → FR) : Prop where
  ok : FnOk P w K mg base (L2.CX P w) k f fd ps (spD K ps.length den)
  len : ∀ ds, den ds ≠ .bad → ds.length = ps.length
theorem FnJ.mono {P : Program} {w : World} {K : PySem.W.Frag} {mg : Str → Option Value} {base : Heap} {j k : Nat} {f : Addr} {fd : FuncData} {ps : List Str} {den : List D → FR} (F : FnJ P w K mg base j f fd ps den) (h : j ≤ k) : FnJ P w K mg base k f fd ps den := ⟨F.ok.mono h, F.len⟩
def fCall (den : List D → FR) (fa : En → Res (List D)) (dd : List D) : En → Res D := fun ρ => (fa ρ).bind fun ds ρ1 => match den (ds ++ dd) with
  | .ok r => .ok r ρ1
  | .exc x => .exc x ρ1
  | .bad => .bad
/-- constants that stand in for arguments -/
structure DfJ (K : PySem.W.Frag) (us : List Value) (ds : List D) : Prop where
  ex : ∃ vs, Vals vs us ∧ ∀ F, RepL K F vs ds
theorem dfj_nil {K : PySem.W.Frag} : DfJ K [] [] := ⟨[], .nil, fun _ => .nil⟩
theorem dfj_int {K : PySem.W.Frag} {i : Int} {t : Tok} : DfJ K [.int i t] [.int i] := ⟨[.int i], .cons ⟨t, rfl⟩ .nil, fun _ => .cons (.int i) .nil⟩
theorem ej_call {k : Nat} {f : Addr} {fd : FuncData} {ps : List Str} {den : List D → FR} {us : List Value} {dd : List D} {x : Str} {p pos : Pos} {e : Expr} {es : List Expr} {fa : En → Res (List D)} (Fn : FnJ X.prog X.w X.K X.mg X.base k f fd ps den) (tk : Takes X Wx) (hr : Room k X.A)
    (hm : X.mg x = some (.ref f)) (hk : PySem.W.keepIn X.K (.ref f) = true) (hb : Binds X.K fd ps us) (hd : DfJ X.K us dd) (ha : AJ X Wx S (e :: es) fa) (hg : Gl X x := by rfl)
    (hdb : (x == ("__debug__" : Str)) = false := by decide) (he : starEach (e :: es) X.env = (false, eval e X.env) :: starEach es X.env := by rfl) (hpl : (backTo pos (starEach es X.env)).any (·.1) = false := by rfl) :
    EJ X Wx S (.Call (.Name x p) (e :: es) [] pos) (fCall den fa dd) := by
  obtain ⟨t, pa, qa⟩ := ha.ex
  obtain ⟨dv, hv, hrep⟩ := hd.ex
  refine ⟨_, pe_callSD Fn.ok hr hg hm hk hb hv (fun σ => passAt tk σ) pa hdb he hpl, fun B F0 F H σ ρ Q st post => qa B F0 F H σ ρ _ st (post.bind fun ds ρ1 vs F1 H1 post1 st1 s1 r1 => ?_)⟩
  have rr := r1.append (hrep F1)
  replace post1 : Post (Rep X.K) (fx X S B F0) Wx σ F1 (match den (ds ++ dd) with | .ok r => .ok r ρ1 | .exc x => .exc x ρ1 | .bad => .bad) Q := post1
  have hlen : (vs ++ dv).length = ps.length := by
    rw [rr.length]
    refine Fn.len _ fun z => ?_
    rw [z] at post1
    exact post1
  refine ⟨hlen, F1, ds ++ dd, st1.fz.fH, rr, ?_⟩
  cases e : den (ds ++ dd) with
  | ok r =>
    rw [e] at post1
    exact fun v F' H' ex rv => post1 v F' H' (st1.ext ex) ex.ff rv
  | exc x =>
    rw [e] at post1
    exact fun cls d F' H' ex rx => post1 cls d F' H' (st1.ext ex) ex.ff rx
  | bad =>
    rw [e] at post1
    exact post1.elim

/-! ### a def by its body -/
def startE (n : Nat) (ds : List D) : En := ds.map Sl.d ++ List.replicate (n - ds.length) .un
def fnD (np n : Nat) (body : En → Fl) (ds : List D) : FR := if ds.length = np then (body (startE n ds)).fin else .bad
theorem st2_start {K : PySem.W.Frag} {S : Sx} {F H : Hp} {N : List Str} {vs : List V} {ds : List D} (hL : Same S.L H) (s : Same F H) (r : RepL K F vs ds) : St2 ⟨K, S, H, F⟩ F H (L2.start N vs) (startE N.length ds) := by
  have hl := r.length
  have noO : ∀ (i : Nat) (xs : List D), (startE N.length ds)[i]? ≠ some (.own xs) := fun i xs h => by
    unfold startE at h
    by_cases hi : i < ds.length
    · rw [List.getElem?_append_left (by simpa using hi), List.getElem?_map] at h
      cases e : ds[i]? with
      | none => rw [e] at h; cases h
      | some d => rw [e] at h; cases h
    · rw [List.getElem?_append_right (by simpa using hi), List.getElem?_replicate] at h
      split at h <;> cases h
  have noM : ∀ (i : Nat) (m : M), (startE N.length ds)[i]? ≠ some (.mt m) := fun i m h => by
    unfold startE at h
    by_cases hi : i < ds.length
    · rw [List.getElem?_append_left (by simpa using hi), List.getElem?_map] at h
      cases e : ds[i]? with
      | none => rw [e] at h; cases h
      | some d => rw [e] at h; cases h
    · rw [List.getElem?_append_right (by simpa using hi), List.getElem?_replicate] at h
      split at h <;> cases h
  have noL : ∀ (i : Nat) (m : List D), (startE N.length ds)[i]? ≠ some (.ln m) := fun i m h => by
    unfold startE at h
    by_cases hi : i < ds.length
    · rw [List.getElem?_append_left (by simpa using hi), List.getElem?_map] at h
      cases e : ds[i]? with
      | none => rw [e] at h; cases h
      | some d => rw [e] at h; cases h
    · rw [List.getElem?_append_right (by simpa using hi), List.getElem?_replicate] at h
      split at h <;> cases h
  refine ⟨⟨Same.refl _, s, Same.refl _, fun _ _ _ => rfl, hL⟩, ?_, fun i d h => ?_, fun i xs h => absurd h (noO i xs), fun i x h => ?_, fun i j p xs ys _ h => absurd h (noO i xs), fun i m h => absurd h (noM i m), fun i j m n h => absurd h (noM i m), fun i xs h => absurd h (noL i xs), fun v m _ h => absurd h (noM 0 m)⟩
  · unfold L2.start startE
    rw [List.length_append, List.length_append, List.length_map, List.length_map, List.length_replicate, List.length_replicate, hl]
  · unfold startE at h
    by_cases hi : i < ds.length
    · rw [List.getElem?_append_left (by simpa using hi), List.getElem?_map] at h
      cases e : ds[i]? with
      | none => rw [e] at h; cases h
      | some d' =>
        rw [e] at h
        cases h
        obtain ⟨v, h1, h2⟩ := r.get e
        refine ⟨v, ?_, h2⟩
        unfold L2.start
        rw [List.getElem?_append_left (by rw [List.length_map, hl]; exact hi), List.getElem?_map, h1]
        rfl
    · rw [List.getElem?_append_right (by simpa using hi), List.getElem?_replicate] at h
      split at h <;> cases h
  · unfold startE at h
    by_cases hi : i < ds.length
    · rw [List.getElem?_append_left (by simpa using hi), List.getElem?_map] at h
      cases e : ds[i]? with
      | none => rw [e] at h; cases h
      | some d => rw [e] at h; cases h
    · rw [List.getElem?_append_right (by simpa using hi), List.getElem?_replicate] at h
      split at h <;> cases h
abbrev S0 : Sx := ⟨0, .none, none, none, fun _ => none⟩
abbrev wE (E : XK) : WX := fun cls d _ H => E cls d H
theorem fnj_of {P : Program} {w : World} {K : PySem.W.Frag} {mg : Str → Option Value} {base : Heap} {x qual : Str} {st : Stmt} {f : Addr} {fd : FuncData} {N ps : List Str} {k : Nat} {body : En → Fl} (Fn : Fun K x qual st f fd) (Sc : FnScope N ps (defScope st))
    (hb : ∀ (cdv : Value) (A : Around) (outer : List Env) (s : Shared) (H : Hp) (E : XK), Room k (A.deeper (PyProof.Rows.envOfC qual (defScope st) s.heap.objs.size f cdv)) →
      BJ (cxOf (L2.CX P w) P w K mg base N qual (defScope st) f cdv A outer s H E) (wE E) S0 (defBody st) body) : FnJ P w K mg base (k + 1) f fd ps (fnD ps.length N.length body) := by
  refine ⟨Fn.okX Sc (fun vs H Q E h => h.1) fun cdv A outer s H vs Q E hr h => ?_, fun ds h => ?_⟩
  · obtain ⟨hl, F, ds, sF, r, post⟩ := h
    obtain ⟨t, p, q⟩ := (hb cdv A outer s H E hr).ex
    refine ⟨t, p, q H F F H _ _ _ (st2_start (fun _ _ z => by cases z) sF r) ?_⟩
    have hdl : ds.length = ps.length := by rw [← r.length]; exact hl
    unfold fnD at post
    rw [if_pos hdl] at post
    have ext : ∀ {F' H' : Hp}, Fz ⟨K, S0, H, F⟩ F' H' → Ext F H F' H' := fun z => ⟨z.f01, z.fH, z.bH, z.new⟩
    cases e : body (startE N.length ds) with
    | nx ρ =>
      rw [e] at post
      exact fun σ' F' H' st' _ => post .non F' H' (ext st'.fz) .non
    | rt d =>
      rw [e] at post
      exact fun v F' H' z rv => post v F' H' (ext z) rv
    | exc x ρ =>
      rw [e] at post
      exact fun cls dd σ' F' H' st' _ rx => post cls dd F' H' (ext st'.fz) rx
    | bk ρ =>
      rw [e] at post
      exact post.elim
    | ct ρ =>
      rw [e] at post
      exact post.elim
    | bad =>
      rw [e] at post
      exact post.elim
  · unfold fnD at h
    split at h
    · assumption
    · exact absurd rfl h
end
end PD
set_option Elab.async false
set_option linter.all false
set_option maxRecDepth 100000
set_option maxHeartbeats 4000000
/-! PD8: subscripts, slices, built-in functions, methods. -/
namespace PD
open PySem PySem.Spec L2

section
variable {X : Cx} {Wx : WX} {S : Sx}

/-! ### subscripts -/
def subD : D → D → Option D
  | .lst xs, .int i => atI xs i
  | .tup xs, .int i => atI xs i
  | .str z, .int i => if z.length ≤ lim then (atI z.cps.toList i).map fun c => .str ⟨#[c]⟩ else none
  | _, _ => none
theorem repL_atI {K : PySem.W.Frag} {F : Hp} {vs : List V} {ds : List D} {i : Int} {d : D} (r : RepL K F vs ds) (h : atI ds i = some d) : ∃ v, atI vs i = some v ∧ Rep K F v d := by
  unfold atI at h ⊢
  rw [r.length]
  cases e : ixN ds.length i with
  | none => rw [e] at h; cases h
  | some j =>
    rw [e] at h
    exact r.get h
theorem sub_rep {K : PySem.W.Frag} {F H : Hp} {x y : V} {d e z : D} {Q : VK} (s : Same F H) (rx : Rep K F x d) (ry : Rep K F y e) (hz : subD d e = some z) (k : ∀ v, Rep K F v z → Q v H) : rIx K x y H Q := by
  cases rx <;> (try (cases hz; done)) <;> cases ry <;> (try (cases hz; done))
  · rename_i w i
    replace hz : (if w.length ≤ lim then (atI w.cps.toList i).map fun c => D.str ⟨#[c]⟩ else none) = some z := hz
    split at hz
    · rename_i hl
      cases e : atI w.cps.toList i with
      | none => rw [e] at hz; cases hz
      | some c =>
        rw [e] at hz
        cases hz
        exact .inr (.inr ⟨w, i, c, rfl, rfl, lim_le hl, e, k _ (.str _)⟩)
    · cases hz
  · rename_i a vs ds h1 h2 i
    obtain ⟨v, h3, h4⟩ := repL_atI h2 hz
    exact .inl ⟨a, vs, i, v, rfl, rfl, Same.seq s h1, h3, k v h4⟩
  · rename_i a vs ds h1 h2 i
    obtain ⟨v, h3, h4⟩ := repL_atI h2 hz
    exact .inr (.inl ⟨a, vs, i, v, rfl, rfl, Same.seqT s h1, h3, k v h4⟩)
theorem ej_sub {a b : Expr} {pos : Pos} {fa fb : En → Res D} (ha : EJ X Wx S a fa) (hb : EJ X Wx S b fb) (hs : PlainIx b := by intro _ _; rfl) : EJ X Wx S (.Subscript a b pos) (fBin subD fa fb) := by
  obtain ⟨ta, pa, qa⟩ := ha.ex
  obtain ⟨tb, pb, qb⟩ := hb.ex
  refine ⟨_, pe_ix ix_seq pa pb hs, fun B F0 F H σ ρ Q st post => ?_⟩
  refine qa B F0 F H σ ρ _ st (post.bind fun d ρ1 v F1 H1 post1 st1 s1 r1 => ?_)
  refine qb B F0 F1 H1 σ ρ1 _ st1 (post1.bind fun e ρ2 u F2 H2 post2 st2 s2 r2 => ?_)
  obtain ⟨z, hz, k⟩ := post2.ofO
  exact sub_rep st2.fz.fH (r1.mono s2) r2 hz fun v rv => k v F2 H2 st2 (Same.refl _) rv
/-- a name that is read late: where it stands, what is told of it -/
theorem slot_cases {Z : Fx} {F H : Hp} {σ : St} {ρ : En} {i : Nat} {d : D} (s : St2 Z F H σ ρ) (h : slotD ρ i = some d) :
    ∃ v, σ[i]? = some (some v) ∧ (Rep Z.K F v d ∨ ∃ p vs xs, v = .ref p ∧ d = .lst xs ∧ H p = some (.lst vs) ∧ RepL Z.K F vs xs) := by
  unfold slotD at h
  split at h
  · rename_i e he
    cases h
    obtain ⟨v, h1, h2⟩ := s.atD i _ he
    exact ⟨v, h1, .inl h2⟩
  · rename_i xs he
    cases h
    obtain ⟨p, vs, h1, h2, h3, h4, h5⟩ := s.atO i _ he
    exact ⟨.ref p, h1, .inr ⟨p, vs, xs, rfl, rfl, h2, h5⟩⟩
  · cases h
/-- f of a name that is read late and of a second value that is reckoned between -/
def fLate (i : Nat) (g : D → D → Option D) (fb : En → Res D) : En → Res D := fun ρ => match slotD ρ i with
  | some _ => (fb ρ).bind fun y ρ1 => ofO ((slotD ρ1 i).bind fun x => g x y) ρ1
  | none => .bad
theorem late_core {K : PySem.W.Frag} {B F0 F H : Hp} {σ : St} {ρ : En} {i : Nat} {g : D → D → Option D} {fb : En → Res D} {Q : VK} {r : R2} {tb : TE}
    (qb : ∀ B F0 F H σ ρ Q, St2 ⟨K, S, B, F0⟩ F H σ ρ → Post (Rep K) ⟨K, S, B, F0⟩ Wx σ F (fb ρ) Q → tb σ H Q) (st : St2 ⟨K, S, B, F0⟩ F H σ ρ) (post : Post (Rep K) ⟨K, S, B, F0⟩ Wx σ F (fLate i g fb ρ) Q)
    (h : ∀ (F2 H2 : Hp) (ρ2 : En) (v u : V) (d e z : D), St2 ⟨K, S, B, F0⟩ F2 H2 σ ρ2 → Rep K F2 u e → g d e = some z → (Rep K F2 v d ∨ ∃ p vs xs, v = .ref p ∧ d = .lst xs ∧ H2 p = some (.lst vs) ∧ RepL K F2 vs xs) →
      (∀ w F' H', Ext F2 H2 F' H' → Rep K F' w z → Q w H') → r v u H2 Q) :
    tOp r (tVar i) tb σ H Q := by
  unfold fLate at post
  split at post
  · rename_i d0 e0
    obtain ⟨v, hvs, _⟩ := slot_cases st e0
    refine ⟨v, hvs, qb B F0 F H σ ρ _ st (post.bind fun e ρ2 u F2 H2 post2 st2 s2 r2 => ?_)⟩
    obtain ⟨z, hz, k⟩ := post2.ofO
    cases es : slotD ρ2 i with
    | none => rw [es] at hz; cases hz
    | some d =>
      rw [es, Option.bind_some] at hz
      obtain ⟨v', h1, h2⟩ := slot_cases st2 es
      rw [hvs] at h1
      cases h1
      exact h F2 H2 ρ2 v u d e z st2 r2 hz h2 fun w F' H' ex rw' => k w F' H' (st2.ext ex) ex.ff rw'
  · exact post.elim
section
variable {x : Str} {b : Expr} {pos pos' : Pos} {fb : En → Res D}
theorem ej_subN (i : Nat) (hb : EJ X Wx S b fb) (hN : X.N[i]? = some x := by rfl) (hv : Vis X.env.scope x := by first | exact Or.inl rfl | exact Or.inr (Or.inl rfl) | exact Or.inr (Or.inr rfl)) (hd : (x == ("__debug__" : Str)) = false := by decide)
    (hcd : (x == ("__classdict__" : Str)) = false := by decide) (hs : PlainIx b := by intro _ _; rfl) : EJ X Wx S (.Subscript (.Name x pos') b pos) (fLate i subD fb) := by
  obtain ⟨tb, pb, qb⟩ := hb.ex
  refine ⟨_, pe_ix ix_seq (pe_var hN hv hd hcd) pb hs, fun B F0 F H σ ρ Q st post => late_core qb st post fun F2 H2 ρ2 v u d e z st2 ru hz hv k => ?_⟩
  rcases hv with hv | ⟨p, vs, xs, rfl, rfl, hp, rl⟩
  · exact sub_rep st2.fz.fH hv ru hz fun w rw' => k w F2 H2 (Ext.refl st2.fz.fH) rw'
  · cases ru <;> (try (cases hz; done))
    rename_i j
    obtain ⟨w, h3, h4⟩ := repL_atI rl hz
    exact .inl ⟨p, vs, j, w, rfl, rfl, .inl (.inl hp), h3, k w F2 H2 (Ext.refl st2.fz.fH) h4⟩
/-- x == e, x != e, x a name that is read late: data -/
theorem ej_cmpN (i : Nat) {op : CmpOp} {n : Bool} (hu : X.A.units + 64 < cLine) (hop : (op = .Eq ∧ n = false) ∨ (op = .NotEq ∧ n = true)) (hb : EJ X Wx S b fb) (hN : X.N[i]? = some x := by rfl) (hv : Vis X.env.scope x := by first | exact Or.inl rfl | exact Or.inr (Or.inl rfl) | exact Or.inr (Or.inr rfl)) (hd : (x == ("__debug__" : Str)) = false := by decide)
    (hcd : (x == ("__classdict__" : Str)) = false := by decide) : EJ X Wx S (.Compare (.Name x pos') [op] [b] pos) (fLate i (if n = true then neD else eqD) fb) := by
  obtain ⟨tb, pb, qb⟩ := hb.ex
  obtain ⟨r, pr, qr⟩ : OpJ X (compareOp op) (if n = true then neD else eqD) := by
    rcases hop with ⟨rfl, rfl⟩ | ⟨rfl, rfl⟩
    · exact oj_eq hu
    · exact oj_ne hu
  refine ⟨_, pe_cmpR pr (pe_var hN hv hd hcd) pb (by rcases hop with ⟨rfl, _⟩ | ⟨rfl, _⟩ <;> exact nomark _), fun B F0 F H σ ρ Q st post => late_core qb st post fun F2 H2 ρ2 v u d e z st2 ru hz hv k => ?_⟩
  rcases hv with hv | ⟨p, vs, xs, rfl, rfl, hp, rl⟩
  · exact qr F2 H2 v u d e z Q st2.fz.fH hv ru hz k
  · -- the whole heap taken as frozen
    refine qr H2 H2 (.ref p) u _ e z Q (Same.refl _) (.lst (.inl (.inl hp)) (rl.mono st2.fz.fH)) (ru.mono st2.fz.fH) hz fun w F' H' ex rw' => ?_
    have hb : ∃ c, z = .bl c := by
      cases n with
      | true =>
        replace hz : neD (.lst xs) e = some z := hz
        unfold neD at hz
        cases eb : eqB (.lst xs) e with
        | none => rw [eb] at hz; cases hz
        | some c => rw [eb] at hz; cases hz; exact ⟨_, rfl⟩
      | false =>
        replace hz : eqD (.lst xs) e = some z := hz
        unfold eqD at hz
        cases eb : eqB (.lst xs) e with
        | none => rw [eb] at hz; cases hz
        | some c => rw [eb] at hz; cases hz; exact ⟨_, rfl⟩
    obtain ⟨c, rfl⟩ := hb
    cases rw'
    exact k _ F2 H' ⟨Same.refl _, st2.fz.fH.trans ex.hh, ex.hh, fun _ _ _ => rfl⟩ (.bl c)
/-- the same as a test -/
theorem tj_cmpN (i : Nat) {op : CmpOp} {n : Bool} (hu : X.A.units + 64 < cLine) (hop : (op = .Eq ∧ n = false) ∨ (op = .NotEq ∧ n = true)) (hb : EJ X Wx S b fb) (hN : X.N[i]? = some x := by rfl) (hv : Vis X.env.scope x := by first | exact Or.inl rfl | exact Or.inr (Or.inl rfl) | exact Or.inr (Or.inr rfl)) (hd : (x == ("__debug__" : Str)) = false := by decide)
    (hcd : (x == ("__classdict__" : Str)) = false := by decide) : TJ X Wx S (.Compare (.Name x pos') [op] [b] pos) (fTst boolD (fLate i (if n = true then neD else eqD) fb)) := by
  obtain ⟨tb, pb, qb⟩ := hb.ex
  obtain ⟨r, pr, qr⟩ : OpJ X (compareOp op) (if n = true then neD else eqD) := by
    rcases hop with ⟨rfl, rfl⟩ | ⟨rfl, rfl⟩
    · exact oj_eq hu
    · exact oj_ne hu
  refine ⟨_, pt_cmpR pr (pe_var hN hv hd hcd) pb (by rcases hop with ⟨rfl, _⟩ | ⟨rfl, _⟩ <;> exact nomark _), fun B F0 F H σ ρ Q st post => ?_⟩
  have post' : Post (Rep X.K) (fx X S B F0) Wx σ F (fLate i (if n = true then neD else eqD) fb ρ) (fun x H' => ∃ k, x = V.bl k ∧ Q k H') := post.bind fun d ρ1 v F1 H1 post1 st1 s1 r1 => by
    obtain ⟨k, hk, q⟩ := post1.ofO
    cases r1 <;> first | cases hk | skip
    exact ⟨_, rfl, q _ F1 H1 st1 (Same.refl _) rfl⟩
  refine late_core qb st post' fun F2 H2 ρ2 v u d e z st2 ru hz hv k => ?_
  rcases hv with hv | ⟨p, vs, xs, rfl, rfl, hp, rl⟩
  · exact qr F2 H2 v u d e z _ st2.fz.fH hv ru hz k
  · refine qr H2 H2 (.ref p) u _ e z _ (Same.refl _) (.lst (.inl (.inl hp)) (rl.mono st2.fz.fH)) (ru.mono st2.fz.fH) hz fun w F' H' ex rw' => ?_
    have hb : ∃ c, z = .bl c := by
      cases n with
      | true =>
        replace hz : neD (.lst xs) e = some z := hz
        unfold neD at hz
        cases eb : eqB (.lst xs) e with
        | none => rw [eb] at hz; cases hz
        | some c => rw [eb] at hz; cases hz; exact ⟨_, rfl⟩
      | false =>
        replace hz : eqD (.lst xs) e = some z := hz
        unfold eqD at hz
        cases eb : eqB (.lst xs) e with
        | none => rw [eb] at hz; cases hz
        | some c => rw [eb] at hz; cases hz; exact ⟨_, rfl⟩
    obtain ⟨c, rfl⟩ := hb
    cases rw'
    exact k _ F2 H' ⟨Same.refl _, st2.fz.fH.trans ex.hh, ex.hh, fun _ _ _ => rfl⟩ (.bl c)
end

/-! ### slices -/
abbrev OJo := En → Res (Option Int)
structure PJ (X : Cx) (Wx : WX) (S : Sx) (e : Option Expr) (f : En → Res (Option Int)) : Prop where
  ex : ∃ t, PO X e t ∧ ∀ B F0 F H σ ρ Q, St2 (fx X S B F0) F H σ ρ → Post (fun _ b c => b = c) (fx X S B F0) Wx σ F (f ρ) Q → t σ H Q
def pNone : En → Res (Option Int) := fun ρ => .ok none ρ
def intD : D → Option (Option Int)
  | .int i => some (some i)
  | _ => none
def pSome (f : En → Res D) : En → Res (Option Int) := fun ρ => (f ρ).bind fun d ρ1 => ofO (intD d) ρ1
theorem pj_none : PJ X Wx S none pNone := ⟨_, po_none, fun B F0 F H σ ρ Q st post => post none F H st (Same.refl _) rfl⟩
theorem pj_some {e : Expr} {f : En → Res D} (h : EJ X Wx S e f) : PJ X Wx S (some e) (pSome f) := by
  obtain ⟨t, p, q⟩ := h.ex
  refine ⟨_, po_some p, fun B F0 F H σ ρ Q st post => q B F0 F H σ ρ _ st (post.bind fun d ρ1 v F1 H1 post1 st1 s1 r1 => ?_)⟩
  obtain ⟨z, hz, k⟩ := post1.ofO
  cases r1 <;> (try (cases hz; done))
  cases hz
  exact ⟨_, rfl, k _ F1 H1 st1 (Same.refl _) rfl⟩
def cutD (xs : List D) (lo hi : Option Int) : List D := (xs.drop (HT.sIx xs.length 0 lo)).take (HT.sIx xs.length xs.length hi - HT.sIx xs.length 0 lo)
def slD (d : D) (lo hi : Option Int) : Option D := match d with
  | .lst xs => some (.lst (cutD xs lo hi))
  | .tup xs => some (.tup (cutD xs lo hi))
  | .str z => if z.length ≤ lim then some (.str (cutS z lo hi)) else none
  | _ => none
theorem cut_rep {K : PySem.W.Frag} {F : Hp} {vs : List V} {ds : List D} (r : RepL K F vs ds) (lo hi : Option Int) : RepL K F (cutV vs lo hi) (cutD ds lo hi) := by
  unfold cutV cutD
  rw [r.length]
  exact (r.drop _).take _
theorem cut_all {ds : List D} {lo hi : Option Int} (h : HT.sIx ds.length 0 lo = 0 ∧ HT.sIx ds.length ds.length hi = ds.length) : cutD ds lo hi = ds := by
  unfold cutD
  rw [h.1, h.2]
  simp
def rSlAny (K : PySem.W.Frag) : V → Option Int → Option Int → Hp → VK → Prop := fun x lo hi H Q => rSlL K x lo hi H Q ∨ (rSlA K x lo hi H Q ∨ rSlS x lo hi H Q)
theorem sl_any : SlR X (rSlAny X.K) := sl_list.or (sl_tupA.or sl_str)
theorem sl_rep {K : PySem.W.Frag} {F H : Hp} {x : V} {d z : D} {lo hi : Option Int} {Q : VK} (s : Same F H) (rx : Rep K F x d) (hz : slD d lo hi = some z) (k : ∀ v F' H', Ext F H F' H' → Rep K F' v z → Q v H') : rSlAny K x lo hi H Q := by
  cases rx <;> (try (cases hz; done))
  · rename_i w
    replace hz : (if w.length ≤ lim then some (D.str (cutS w lo hi)) else none) = some z := hz
    split at hz
    · rename_i hl
      cases hz
      exact .inr (.inr ⟨w, rfl, lim_le hl, k _ F H (Ext.refl s) (.str _)⟩)
    · cases hz
  · rename_i a vs ds h1 h2
    cases hz
    refine .inl ⟨a, vs, rfl, Same.seq s h1, fun p hp => ?_⟩
    have ex := Ext.laid (o := .lst (cutV vs lo hi)) s hp
    exact k _ _ _ ex (.lst (.inl (.inl upd_same)) ((cut_rep h2 lo hi).mono ex.ff))
  · rename_i a vs ds h1 h2
    cases hz
    refine .inr (.inl ⟨a, vs, rfl, Same.seqT s h1, fun hw => ?_, fun _ p hp => ?_⟩)
    · rw [h2.length] at hw
      rw [cut_all hw] at k
      exact k _ F H (Ext.refl s) (.tup h1 h2)
    · have ex := Ext.laid (o := .tup (cutV vs lo hi)) s hp
      exact k _ _ _ ex (.tup (.inl (.inl upd_same)) ((cut_rep h2 lo hi).mono ex.ff))
def fSl (fa : En → Res D) (fl fh : En → Res (Option Int)) : En → Res D := fun ρ => (fa ρ).bind fun d ρ1 => (fl ρ1).bind fun lo ρ2 => (fh ρ2).bind fun hi ρ3 => ofO (slD d lo hi) ρ3
theorem ej_slice {e : Expr} {lo hi : Option Expr} {p2 pos : Pos} {fa : En → Res D} {fl fh : En → Res (Option Int)} (ha : EJ X Wx S e fa) (hl : PJ X Wx S lo fl) (hh : PJ X Wx S hi fh) : EJ X Wx S (.Subscript e (.Slice lo hi none p2) pos) (fSl fa fl fh) := by
  obtain ⟨ta, pa, qa⟩ := ha.ex
  obtain ⟨tl, pl, ql⟩ := hl.ex
  obtain ⟨th, ph, qh⟩ := hh.ex
  refine ⟨_, pe_slice sl_any pa pl ph, fun B F0 F H σ ρ Q st post => ?_⟩
  refine qa B F0 F H σ ρ _ st (post.bind fun d ρ1 v F1 H1 post1 st1 s1 r1 => ?_)
  refine ql B F0 F1 H1 σ ρ1 _ st1 (post1.bind fun l ρ2 u F2 H2 post2 st2 s2 r2 => ?_)
  refine qh B F0 F2 H2 σ ρ2 _ st2 (post2.bind fun h ρ3 w F3 H3 post3 st3 s3 r3 => ?_)
  subst r2 r3
  obtain ⟨z, hz, k⟩ := post3.ofO
  exact sl_rep st3.fz.fH (r1.mono (s2.trans s3)) hz fun v F' H' ex rv => k v F' H' (st3.ext ex) ex.ff rv
end
end PD
set_option Elab.async false
set_option linter.all false
set_option maxRecDepth 100000
set_option maxHeartbeats 4000000
/-! PD9: built-in functions, methods, lists of one's own. -/
namespace PD
open PySem PySem.Spec L2

section
variable {X : Cx} {Wx : WX} {S : Sx}

/-! ### built-in functions and types -/
def CallJ (X : Cx) (f : Value) (g : List D → Option D) : Prop :=
  ∃ r, CallR X f r ∧ ∀ F H vs ds z Q, Same F H → RepL X.K F vs ds → g ds = some z → (∀ v F' H', Ext F H F' H' → Rep X.K F' v z → Q v H') → r vs H Q
theorem CallJ.or {f : Value} {g1 g2 : List D → Option D} (h1 : CallJ X f g1) (h2 : CallJ X f g2) : CallJ X f (fun d => (g1 d).orElse fun _ => g2 d) := by
  obtain ⟨r1, p1, q1⟩ := h1
  obtain ⟨r2, p2, q2⟩ := h2
  refine ⟨_, p1.or p2, fun F H vs ds z Q s rx hz k => ?_⟩
  replace hz : (g1 ds).orElse (fun _ => g2 ds) = some z := hz
  cases e1 : g1 ds with
  | some w =>
    rw [e1] at hz
    cases hz
    exact .inl (q1 F H vs ds _ Q s rx e1 k)
  | none =>
    rw [e1] at hz
    exact .inr (q2 F H vs ds z Q s rx hz k)
theorem CallJ.imp {f : Value} {g g' : List D → Option D} (h : CallJ X f g) (i : ∀ d z, g' d = some z → g d = some z) : CallJ X f g' := by
  obtain ⟨r, p, q⟩ := h
  exact ⟨r, p, fun F H vs ds z Q s rx hz k => q F H vs ds z Q s rx (i ds z hz) k⟩
def fBlt (g : List D → Option D) (fa : En → Res (List D)) : En → Res D := fun ρ => (fa ρ).bind fun ds ρ1 => ofO (g ds) ρ1
section
variable {x : Str} {id T : String} {p pos : Pos} {e : Expr} {es : List Expr} {fa : En → Res (List D)} {g : List D → Option D}
theorem ej_blt (hc : CallJ X (.builtin id) g) (hm : X.mg x = none) (ha : AJ X Wx S (e :: es) fa) (hv : bootBuiltins x = some (.builtin id) := by decide +kernel) (hg : Gl X x := by rfl) (hn : x ≠ "__name__" := by decide) (hdb : (x == ("__debug__" : Str)) = false := by decide)
    (he : starEach (e :: es) X.env = (false, eval e X.env) :: starEach es X.env := by rfl) (hpl : (backTo pos (starEach es X.env)).any (·.1) = false := by rfl) : EJ X Wx S (.Call (.Name x p) (e :: es) [] pos) (fBlt g fa) := by
  obtain ⟨t, pa, qa⟩ := ha.ex
  obtain ⟨r, pr, qr⟩ := hc
  refine ⟨_, pe_callB pr hg hm hv pa hn hdb he hpl, fun B F0 F H σ ρ Q st post => qa B F0 F H σ ρ _ st (post.bind fun ds ρ1 vs F1 H1 post1 st1 s1 r1 => ?_)⟩
  obtain ⟨z, hz, k⟩ := post1.ofO
  exact qr F1 H1 vs ds z Q st1.fz.fH r1 hz fun v F' H' ex rv => k v F' H' (st1.ext ex) ex.ff rv
theorem ej_bty (hc : CallJ X (.type T) g) (hm : X.mg x = none) (ha : AJ X Wx S (e :: es) fa) (hv : bootBuiltins x = some (.type T) := by decide +kernel) (hg : Gl X x := by rfl) (hn : x ≠ "__name__" := by decide) (hdb : (x == ("__debug__" : Str)) = false := by decide)
    (he : starEach (e :: es) X.env = (false, eval e X.env) :: starEach es X.env := by rfl) (hpl : (backTo pos (starEach es X.env)).any (·.1) = false := by rfl) : EJ X Wx S (.Call (.Name x p) (e :: es) [] pos) (fBlt g fa) := by
  obtain ⟨t, pa, qa⟩ := ha.ex
  obtain ⟨r, pr, qr⟩ := hc
  refine ⟨_, pe_callTy pr hg hm hv pa hn hdb he hpl, fun B F0 F H σ ρ Q st post => qa B F0 F H σ ρ _ st (post.bind fun ds ρ1 vs F1 H1 post1 st1 s1 r1 => ?_)⟩
  obtain ⟨z, hz, k⟩ := post1.ofO
  exact qr F1 H1 vs ds z Q st1.fz.fH r1 hz fun v F' H' ex rv => k v F' H' (st1.ext ex) ex.ff rv
end
/-- len -/
def lenOf : D → Option D
  | .lst xs => some (.int xs.length)
  | .tup xs => some (.int xs.length)
  | .str z => if z.length ≤ lim then some (.int z.length) else none
  | _ => none
def lenL : List D → Option D
  | [d] => lenOf d
  | _ => none
theorem repL_1 {K : PySem.W.Frag} {F : Hp} {vs : List V} {d : D} (r : RepL K F vs [d]) : ∃ v, vs = [v] ∧ Rep K F v d := by
  cases r with
  | cons h t => cases t; exact ⟨_, rfl, h⟩
theorem repL_2 {K : PySem.W.Frag} {F : Hp} {vs : List V} {d e : D} (r : RepL K F vs [d, e]) : ∃ v w, vs = [v, w] ∧ Rep K F v d ∧ Rep K F w e := by
  cases r with
  | cons h t =>
    obtain ⟨w, rfl, h2⟩ := repL_1 t
    exact ⟨_, w, rfl, h, h2⟩
theorem len_rep {K : PySem.W.Frag} {F H : Hp} {v : V} {d z : D} (s : Same F H) (r : Rep K F v d) (h : lenOf d = some z) : ∃ n : Nat, LenV K v H n ∧ z = .int n := by
  cases r <;> (try (cases h; done))
  · rename_i x
    replace h : (if x.length ≤ lim then some (D.int x.length) else none) = some z := h
    split at h
    · rename_i hl
      cases h
      exact ⟨_, ⟨lim_le hl, rfl⟩, rfl⟩
    · cases h
  · rename_i a vs ds h1 h2
    cases h
    exact ⟨_, .inl ⟨vs, Same.seq s h1, h2.length.symm⟩, rfl⟩
  · rename_i a vs ds h1 h2
    cases h
    exact ⟨_, .inr ⟨vs, Same.seqT s h1, h2.length.symm⟩, rfl⟩
theorem cj_len : CallJ X (.builtin "len") lenL := by
  refine ⟨_, call_len, fun F H vs ds z Q s rx hz k => ?_⟩
  match ds, hz with
  | [d], hz =>
    obtain ⟨v, rfl, rv⟩ := repL_1 rx
    obtain ⟨n, hn, rfl⟩ := len_rep s rv hz
    exact ⟨v, n, rfl, hn, k _ F H (Ext.refl s) (.int _)⟩
/-- len(x), x a name that is read late -/
def fLenN (i : Nat) : En → Res D := fun ρ => ofO ((slotD ρ i).bind lenOf) ρ
theorem ej_lenN (i : Nat) {x : Str} {p p' pos : Pos} (hm : X.mg "len" = none) (hN : X.N[i]? = some x := by rfl) (hv : Vis X.env.scope x := by first | exact Or.inl rfl | exact Or.inr (Or.inl rfl) | exact Or.inr (Or.inr rfl)) (hd : (x == ("__debug__" : Str)) = false := by decide)
    (hcd : (x == ("__classdict__" : Str)) = false := by decide) (hg : Gl X "len" := by rfl) (hs : starEach [.Name x p'] X.env = (false, eval (.Name x p') X.env) :: starEach [] X.env := by rfl) (hpl : (backTo pos (starEach [] X.env)).any (·.1) = false := by rfl) :
    EJ X Wx S (.Call (.Name "len" p) [.Name x p'] [] pos) (fLenN i) := by
  refine ⟨_, pe_callB call_len hg hm PySem.boot_len (pa_cons (pe_var hN hv hd hcd) pa_nil hs) (by decide) (by decide) hs hpl, fun B F0 F H σ ρ Q st post => ?_⟩
  obtain ⟨z, hz, k⟩ := post.ofO
  cases es : slotD ρ i with
  | none => rw [es] at hz; cases hz
  | some d =>
    rw [es, Option.bind_some] at hz
    obtain ⟨v, h1, h2⟩ := slot_cases st es
    refine ⟨v, h1, v, ?_⟩
    rcases h2 with h2 | ⟨p, vs, xs, rfl, rfl, hp, rl⟩
    · obtain ⟨n, hn, rfl⟩ := len_rep st.fz.fH h2 hz
      exact ⟨n, rfl, hn, k _ F H st (Same.refl _) (.int _)⟩
    · cases hz
      exact ⟨xs.length, rfl, .inl ⟨vs, .inl (.inl hp), rl.length.symm⟩, k _ F H st (Same.refl _) (.int _)⟩
/-- int -/
def intL : List D → Option D
  | [.int i] => some (.int i)
  | [.bl k] => some (.int (if k then 1 else 0))
  | _ => none
theorem cj_int : CallJ X (.type "int") intL := by
  refine ⟨_, call_int1, fun F H vs ds z Q s rx hz k => ?_⟩
  match ds, hz with
  | [.int i], hz =>
    obtain rfl := repL_int1 rx
    cases hz
    exact .inl ⟨i, rfl, k _ F H (Ext.refl s) (.int _)⟩
  | [.bl b], hz =>
    obtain ⟨v, rfl, rv⟩ := repL_1 rx
    cases rv
    cases hz
    exact .inr ⟨b, rfl, k _ F H (Ext.refl s) (.int _)⟩
/-- min, max -/
def intsOf : List D → Option (List Int)
  | [] => some []
  | .int i :: r => (intsOf r).map fun l => i :: l
  | _ :: _ => none
theorem intsOf_some {ds : List D} : ∀ {ns : List Int}, intsOf ds = some ns → ds = ns.map D.int := by
  induction ds with
  | nil => intro ns h; cases h; rfl
  | cons d r ih =>
    intro ns h
    cases d <;> (try (cases h; done))
    rename_i i
    unfold intsOf at h
    cases e : intsOf r with
    | none => rw [e] at h; cases h
    | some l =>
      rw [e] at h
      cases h
      rw [ih e]
      rfl
def minI (l : List Int) : Option Int := l.min?
def maxI (l : List Int) : Option Int := l.max?
def min2 : List D → Option D
  | [.int i, .int j] => some (.int (if j < i then j else i))
  | _ => none
def max2 : List D → Option D
  | [.int i, .int j] => some (.int (if j > i then j else i))
  | _ => none
theorem cj_min2 (hc : X.calm = true := by rfl) : CallJ X (.builtin "min") min2 := by
  refine ⟨_, call_min2 hc, fun F H vs ds z Q s rx hz k => ?_⟩
  match ds, hz with
  | [.int i, .int j], hz =>
    obtain rfl := repL_int2 rx
    cases hz
    exact ⟨i, j, rfl, k _ F H (Ext.refl s) (.int _)⟩
theorem cj_max2 (hc : X.calm = true := by rfl) : CallJ X (.builtin "max") max2 := by
  refine ⟨_, call_max2 hc, fun F H vs ds z Q s rx hz k => ?_⟩
  match ds, hz with
  | [.int i, .int j], hz =>
    obtain rfl := repL_int2 rx
    cases hz
    exact ⟨i, j, rfl, k _ F H (Ext.refl s) (.int _)⟩
def min3 : List D → Option D
  | [.int i, .int j, .int l] => some (.int (let m := if j < i then j else i; if l < m then l else m))
  | _ => none
theorem cj_min3 (hc : X.calm = true := by rfl) : CallJ X (.builtin "min") min3 := by
  refine ⟨_, call_min3Nu hc, fun F H vs ds z Q s rx hz k => ?_⟩
  match ds, hz with
  | [.int i, .int j, .int l], hz =>
    obtain rfl := repL_int3 rx
    cases hz
    refine ⟨.int i, .int j, .int l, .int (let m := if j < i then j else i; if l < m then l else m), rfl, ?_, k _ F H (Ext.refl s) (.int _)⟩
    have e1 : nuMin2 (V.int i) (V.int j) = some (V.int (if j < i then j else i)) := by
      show (some (decide (j < i))).map (fun c => if c = true then V.int j else V.int i) = _
      by_cases h : j < i <;> simp [h]
    show (nuMin2 (V.int i) (V.int j)).bind (fun m => nuMin2 m (V.int l)) = _
    rw [e1, Option.bind_some]
    generalize (if j < i then j else i) = m
    show (some (decide (l < m))).map (fun c => if c = true then V.int l else V.int m) = _
    by_cases h : l < m <;> simp [h]
def minLs : List D → Option D
  | [.lst xs] => (intsOf xs).bind fun ns => (ns.min?).map D.int
  | _ => none
def maxLs : List D → Option D
  | [.lst xs] => (intsOf xs).bind fun ns => (ns.max?).map D.int
  | _ => none
theorem min_least {ns : List Int} {m : Int} (h : m ∈ ns) (h2 : ∀ y, y ∈ ns → m ≤ y) : ns.min? = some m := by
  rw [List.min?_eq_some_iff]
  exact ⟨h, h2⟩
theorem max_most {ns : List Int} {m : Int} (h : m ∈ ns) (h2 : ∀ y, y ∈ ns → y ≤ m) : ns.max? = some m := by
  rw [List.max?_eq_some_iff]
  exact ⟨h, h2⟩
theorem cj_minLs (hc : X.calm = true := by rfl) : CallJ X (.builtin "min") minLs := by
  refine ⟨_, cr_min hc, fun F H vs ds z Q s rx hz k => ?_⟩
  match ds, hz with
  | [.lst xs], hz =>
    obtain ⟨v, rfl, rv⟩ := repL_1 rx
    cases rv with
    | @lst a us ds h1 h2 =>
      replace hz : (intsOf xs).bind (fun ns => (ns.min?).map D.int) = some z := hz
      cases e : intsOf xs with
      | none => rw [e] at hz; cases hz
      | some ns =>
        rw [e, Option.bind_some] at hz
        have e2 := intsOf_some e
        subst e2
        have e3 := RepL.ints_inv h2
        subst e3
        refine ⟨a, ns, rfl, Same.seq s h1, ?_, fun m hm hl => ?_⟩
        · cases ns with
          | nil => cases hz
          | cons n r => exact Nat.succ_pos _
        · rw [min_least hm hl] at hz
          cases hz
          exact k _ F H (Ext.refl s) (.int _)
theorem cj_maxLs (hc : X.calm = true := by rfl) : CallJ X (.builtin "max") maxLs := by
  refine ⟨_, cr_max hc, fun F H vs ds z Q s rx hz k => ?_⟩
  match ds, hz with
  | [.lst xs], hz =>
    obtain ⟨v, rfl, rv⟩ := repL_1 rx
    cases rv with
    | @lst a us ds h1 h2 =>
      replace hz : (intsOf xs).bind (fun ns => (ns.max?).map D.int) = some z := hz
      cases e : intsOf xs with
      | none => rw [e] at hz; cases hz
      | some ns =>
        rw [e, Option.bind_some] at hz
        have e2 := intsOf_some e
        subst e2
        have e3 := RepL.ints_inv h2
        subst e3
        refine ⟨a, ns, rfl, Same.seq s h1, ?_, fun m hm hl => ?_⟩
        · cases ns with
          | nil => cases hz
          | cons n r => exact Nat.succ_pos _
        · rw [max_most hm hl] at hz
          cases hz
          exact k _ F H (Ext.refl s) (.int _)
def minL : List D → Option D
  | [.int i, .int j] => some (.int (if j < i then j else i))
  | [.int i, .int j, .int l] => some (.int (let m := if j < i then j else i; if l < m then l else m))
  | [.lst xs] => (intsOf xs).bind fun ns => (ns.min?).map D.int
  | _ => none
def maxL : List D → Option D
  | [.int i, .int j] => some (.int (if j > i then j else i))
  | [.lst xs] => (intsOf xs).bind fun ns => (ns.max?).map D.int
  | _ => none
theorem cj_min (hc : X.calm = true := by rfl) : CallJ X (.builtin "min") minL := (CallJ.or (cj_min2 hc) (CallJ.or (cj_min3 hc) (cj_minLs hc))).imp fun d z h => by
  unfold minL at h
  split at h
  · exact h
  · exact h
  · exact h
  · cases h
theorem cj_max (hc : X.calm = true := by rfl) : CallJ X (.builtin "max") maxL := (CallJ.or (cj_max2 hc) (cj_maxLs hc)).imp fun d z h => by
  unfold maxL at h
  split at h
  · exact h
  · exact h
  · cases h
/-- isinstance(x, T), T a built-in type -/
def tyN : D → Option String
  | .non => some "NoneType"
  | .bl _ => some "bool"
  | .int _ => some "int"
  | .str _ => some "str"
  | .lst _ => some "list"
  | .tup _ => some "tuple"
  | .dic _ => some "dict"
  | .dit _ => some "dict"
  | _ => none
def isiL : List D → Option D
  | [d, .ty n] => (tyN d).bind fun t => (kitB t n).map D.bl
  | _ => none
theorem tyX_rep {K : PySem.W.Frag} {F H : Hp} {v : V} {d : D} {t : String} (s : Same F H) (r : Rep K F v d) (h : tyN d = some t) : TyX K H v (.type t) := by
  cases r <;> (try (cases h; done)) <;> cases h
  · exact .base .non
  · exact .base (.bl _)
  · exact .base (.int _)
  · exact .base (.str _)
  · rename_i a vs ds h1 h2
    rcases h1 with (h1 | ⟨o, h1⟩) | ⟨o, its, n, h1, h2, _⟩
    · exact .base (.lst (s _ _ h1))
    · exact .base (.frz (s _ _ h1))
    · exact .kList h1 h2
  · rename_i a vs ds h1 h2
    rcases h1 with (h1 | ⟨o, h1⟩) | ⟨o, its, n, h1, h2, _⟩
    · exact .base (.tup (s _ _ h1))
    · exact .fTuple (s _ _ h1)
    · exact .kTuple h1 h2
  · rename_i h1 h2
    exact .base (.dK (s _ _ h1))
  · rename_i h1 h2
    exact .base (.dT (s _ _ h1))
theorem cj_isi : CallJ X (.builtin "isinstance") isiL := by
  refine ⟨_, call_isi, fun F H vs ds z Q s rx hz k => ?_⟩
  match ds, hz with
  | [d, .ty n], hz =>
    obtain ⟨v, w, rfl, rv, rw'⟩ := repL_2 rx
    cases rw'
    replace hz : (tyN d).bind (fun t => (kitB t n).map D.bl) = some z := hz
    cases e : tyN d with
    | none => rw [e] at hz; cases hz
    | some t =>
      rw [e, Option.bind_some] at hz
      cases e2 : kitB t n with
      | none => rw [e2] at hz; cases hz
      | some b =>
        rw [e2] at hz
        cases hz
        exact ⟨v, .ty n, .type t, .type n, b, rfl, .ty n, tyX_rep s rv e, kit_ty e2, k _ F H (Ext.refl s) (.bl b)⟩
/-- list(x), tuple(x) -/
def tupleL : List D → Option D
  | [.lst xs] => some (.tup xs)
  | [.tup xs] => some (.tup xs)
  | _ => none
theorem cj_tuple : CallJ X (.type "tuple") tupleL := by
  refine ⟨_, call_tuple_of, fun F H vs ds z Q s rx hz k => ?_⟩
  match ds, hz with
  | [.lst xs], hz =>
    obtain ⟨v, rfl, rv⟩ := repL_1 rx
    cases rv with
    | @lst a us ds h1 h2 =>
      cases hz
      refine ⟨a, us, rfl, .inl ⟨Same.seq s h1, fun p hp => ?_⟩⟩
      have ex := Ext.laid (o := .tup us) s hp
      exact k _ _ _ ex (.tup (.inl (.inl upd_same)) (h2.mono ex.ff))
  | [.tup xs], hz =>
    obtain ⟨v, rfl, rv⟩ := repL_1 rx
    cases rv with
    | @tup a us ds h1 h2 =>
      cases hz
      exact ⟨a, us, rfl, .inr ⟨Same.seqT s h1, k _ F H (Ext.refl s) (.tup h1 h2)⟩⟩
/-- list(x): a fresh list -/
def listL : List D → Option (List D)
  | [.lst xs] => some xs
  | [.tup xs] => some xs
  | _ => none
def oList (fa : En → Res (List D)) : En → Res (List D) := fun ρ => (fa ρ).bind fun ds ρ1 => ofO (listL ds) ρ1
theorem PostO.ofO {Z : Fx} {σ : St} {F : Hp} {o : Option (List D)} {ρ : En} {Q : VK} (post : PostO Z Wx σ F (ofO o ρ) Q) : ∃ xs, o = some xs ∧ PostO Z Wx σ F (.ok xs ρ) Q := by
  cases o with
  | none => exact post.elim
  | some a => exact ⟨a, rfl, post⟩
theorem oj_list {p pos : Pos} {e : Expr} {fa : En → Res (List D)} (hm : X.mg "list" = none) (ha : AJ X Wx S [e] fa) (hg : Gl X "list" := by rfl)
    (he : starEach [e] X.env = (false, eval e X.env) :: starEach [] X.env := by rfl) (hpl : (backTo pos (starEach [] X.env)).any (·.1) = false := by rfl) : OJ X Wx S (.Call (.Name "list" p) [e] [] pos) (oList fa) := by
  obtain ⟨t, pa, qa⟩ := ha.ex
  refine ⟨_, pe_callTy call_list_of hg hm (by decide +kernel) pa (by decide) (by decide) he hpl, fun B F0 F H σ ρ Q st post => qa B F0 F H σ ρ _ st (post.bind fun ds ρ1 vs F1 H1 post1 st1 s1 r1 => ?_)⟩
  obtain ⟨xs, hz, k⟩ := post1.ofO
  match ds, hz with
  | [.lst xs], hz =>
    obtain ⟨v, rfl, rv⟩ := repL_1 r1
    cases rv with
    | @lst a us ds h1 h2 =>
      cases hz
      exact ⟨a, us, rfl, .inl (Same.seq st1.fz.fH h1), fun l hl => fresh_lst k st1 h2 hl⟩
  | [.tup xs], hz =>
    obtain ⟨v, rfl, rv⟩ := repL_1 r1
    cases rv with
    | @tup a us ds h1 h2 =>
      cases hz
      exact ⟨a, us, rfl, .inr (Same.seqT st1.fz.fH h1), fun l hl => fresh_lst k st1 h2 hl⟩
/-- list(range(n)), list(range(a, b)) -/
def okL (a b : Int) : Bool := okR a && okR b && decide ((b - a).toNat ≤ 100000)
def oRange1 (f : En → Res D) : En → Res (List D) := fun ρ => (f ρ).bind fun d ρ1 => match d with
  | .int n => if okL 0 n = true then .ok (dRange 0 n.toNat) ρ1 else .bad
  | _ => .bad
theorem okL_ok {a b : Int} (h : okL a b = true) : RgOk a b := by
  unfold okL at h
  rw [Bool.and_eq_true, Bool.and_eq_true] at h
  obtain ⟨h1, h2⟩ := okR_ok h.1.1
  obtain ⟨h3, h4⟩ := okR_ok h.1.2
  have h5 := of_decide_eq_true h.2
  exact ⟨h1, h2, h3, h4, by omega⟩
theorem rgV_rep {K : PySem.W.Frag} {F : Hp} (a b : Int) : RepL K F (rgV a b) (dRange a (b - a).toNat) := by
  unfold rgV dRange
  have : ∀ l : List Nat, RepL K F (l.map fun i => V.int (a + (i : Nat))) (l.map fun i => D.int (a + (i : Nat))) := by
    intro l
    induction l with
    | nil => exact .nil
    | cons x r ih => exact .cons (.int _) ih
  exact this _
theorem oj_listRange {p p2 pos pos2 : Pos} {e : Expr} {f : En → Res D} (hm : X.mg "list" = none) (hm2 : X.mg "range" = none) (he : EJ X Wx S e f) (hg : Gl X "list" := by rfl) (hg2 : Gl X "range" := by rfl) (hc : X.calm = true := by rfl)
    (na : starEach [.Call (.Name "range" p2) [e] [] pos2] X.env = (false, eval (.Call (.Name "range" p2) [e] [] pos2) X.env) :: starEach [] X.env := by rfl) (nb : starEach [e] X.env = (false, eval e X.env) :: starEach [] X.env := by rfl) :
    OJ X Wx S (.Call (.Name "list" p) [.Call (.Name "range" p2) [e] [] pos2] [] pos) (oRange1 f) := by
  obtain ⟨t, pa, qa⟩ := he.ex
  refine ⟨_, pe_listRg hc hg hm (prg_1 hg2 hm2 pa nb) na, fun B F0 F H σ ρ Q st post => qa B F0 F H σ ρ _ st (post.bind fun d ρ1 v F1 H1 post1 st1 s1 r1 => ?_)⟩
  cases r1 <;> (try exact post1.elim)
  rename_i n
  replace post1 : PostO (fx X S B F0) Wx σ F1 (if okL 0 n = true then .ok (dRange 0 n.toNat) ρ1 else .bad) Q := post1
  split at post1
  · rename_i hl
    refine ⟨n, rfl, okL_ok hl, fun q hq => ?_⟩
    have r := rgV_rep (K := X.K) (F := F1) 0 n
    have e0 : (n - 0).toNat = n.toNat := by omega
    rw [e0] at r
    exact fresh_lst post1 st1 r hq
  · exact post1.elim

/-! ### lists of one's own -/
def ownAt (ρ : En) (i : Nat) : Option (List D) := match ρ[i]? with
  | some (.own xs) => some xs
  | _ => none
theorem ownAt_some {ρ : En} {i : Nat} {xs : List D} (h : ownAt ρ i = some xs) : ρ[i]? = some (.own xs) := by
  unfold ownAt at h
  split at h
  · rename_i e
    cases h
    exact e
  · cases h
def sApp (i : Nat) (f : En → Res D) : En → Fl := fun ρ => match ownAt ρ i with
  | none => .bad
  | some _ => (f ρ).fl fun d ρ1 => match ownAt ρ1 i with
    | some xs => if xs.length < lim then .nx (ρ1.set i (.own (xs ++ [d]))) else .bad
    | none => .bad
theorem sj_app (i : Nat) {x : Str} {e : Expr} {f : En → Res D} {p apos cpos pos : Pos} (he : EJ X Wx S e f) (hN : X.N[i]? = some x := by rfl) (hv : Vis X.env.scope x := by first | exact Or.inl rfl | exact Or.inr (Or.inl rfl) | exact Or.inr (Or.inr rfl)) (hd : (x == ("__debug__" : Str)) = false := by decide)
    (hcd : (x == ("__classdict__" : Str)) = false := by decide) (hbase : attributeBase (.Name x p) "append" X.env (eval (.Name x p) X.env) = eval (.Name x p) X.env := by rfl)
    (hfew : ((backTo cpos (starEach [e] X.env)).all (fun x => !x.1) && (backToKw cpos (keywordEach [] X.env)).all (fun x => x.1.isSome)
      && decide (([e] : List Expr).length + ([] : List Keyword).length + (if ([] : List Keyword).isEmpty then 0 else 1) < 30)) = true := by rfl)
    (hline : (apos.endLine == cpos.line) = true := by rfl) (hs : starEach [e] X.env = (false, eval e X.env) :: starEach [] X.env := by rfl) (hplain : (backTo cpos (starEach [] X.env)).any (·.1) = false := by rfl)
    (hsw : swapsWith (.Call (.Attribute (.Name x p) "append" apos) [e] [] cpos) none pos.line X.env = pure false := by rfl) :
    SJ X Wx S (.Expr (.Call (.Attribute (.Name x p) "append" apos) [e] [] cpos) pos) (sApp i f) := by
  obtain ⟨t, pa, qa⟩ := he.ex
  refine ⟨_, ps_expr (pe_bm PySem.F.plainAttrs_list PySem.F.slot_list_append PySem.F.type_list_append mt_append (pe_var hN hv hd hcd) (pa_cons pa pa_nil hs) hbase hfew hline hs hplain) hsw, fun B F0 F H σ ρ E st post => ?_⟩
  unfold sApp at post
  cases e0 : ownAt ρ i with
  | none => rw [e0] at post; exact post.elim
  | some xs0 =>
    simp only [e0] at post
    obtain ⟨p0, vs0, h1, h2, _⟩ := st.atO i xs0 (ownAt_some e0)
    refine ⟨.ref p0, h1, .inl ⟨rfl, vs0, .inl (.inl h2)⟩, qa B F0 F H σ ρ _ st (fl_post post fun d ρ1 v F1 H1 post1 st1 s1 r1 => ?_)⟩
    cases e1 : ownAt ρ1 i with
    | none => simp only [e1] at post1; exact post1.elim
    | some xs =>
      simp only [e1] at post1
      split at post1
      · rename_i hl
        obtain ⟨p1, vs, h3, h4, h5, h6, h7⟩ := st1.atO i xs (ownAt_some e1)
        rw [h1] at h3
        cases h3
        refine ⟨p0, vs, v, rfl, rfl, h4, lim_lt (by rw [h7.length]; exact hl), ?_⟩
        exact post1 σ F1 _ (st1.change (ownAt_some e1) h1 (h7.snoc r1)) (Same.refl _)
      · exact post1.elim
/-- x.pop() -/
def fPop (i : Nat) : En → Res D := fun ρ => match ownAt ρ i with
  | none => .bad
  | some xs => match xs[xs.length - 1]? with
    | some d => .ok d (ρ.set i (.own xs.dropLast))
    | none => .bad
theorem ej_pop (i : Nat) {x : Str} {p apos cpos : Pos} (hN : X.N[i]? = some x := by rfl) (hv : Vis X.env.scope x := by first | exact Or.inl rfl | exact Or.inr (Or.inl rfl) | exact Or.inr (Or.inr rfl)) (hd : (x == ("__debug__" : Str)) = false := by decide)
    (hcd : (x == ("__classdict__" : Str)) = false := by decide) (hbase : attributeBase (.Name x p) "pop" X.env (eval (.Name x p) X.env) = eval (.Name x p) X.env := by rfl) (hline : (apos.endLine == cpos.line) = true := by rfl) :
    EJ X Wx S (.Call (.Attribute (.Name x p) "pop" apos) [] [] cpos) (fPop i) := by
  refine ⟨_, pe_bm0 PySem.F.plainAttrs_list PySem.F.slot_list_pop PySem.F.type_list_pop mt_pop (pe_var hN hv hd hcd) hbase hline, fun B F0 F H σ ρ Q st post => ?_⟩
  unfold fPop at post
  cases e0 : ownAt ρ i with
  | none => rw [e0] at post; exact post.elim
  | some xs =>
    simp only [e0] at post
    obtain ⟨p0, vs, h1, h2, h3, h4, h5⟩ := st.atO i xs (ownAt_some e0)
    cases e1 : xs[xs.length - 1]? with
    | none => simp only [e1] at post; exact post.elim
    | some d =>
      simp only [e1] at post
      obtain ⟨v, h6, h7⟩ := h5.get e1
      refine ⟨.ref p0, h1, .inl ⟨rfl, vs, .inl (.inl h2)⟩, p0, vs, v, rfl, rfl, h2, by rw [h5.length]; exact h6, ?_⟩
      exact post v F _ (st.change (ownAt_some e0) h1 h5.dropLast) (Same.refl _) h7

/-! ### texts -/
/-- sep.join(list of texts) -/
def strsOf : List D → Option (List Str)
  | [] => some []
  | .str i :: r => (strsOf r).map fun l => i :: l
  | _ :: _ => none
theorem strsOf_some {ds : List D} : ∀ {ns : List Str}, strsOf ds = some ns → ds = ns.map D.str := by
  induction ds with
  | nil => intro ns h; cases h; rfl
  | cons d r ih =>
    intro ns h
    cases d <;> (try (cases h; done))
    rename_i i
    unfold strsOf at h
    cases e : strsOf r with
    | none => rw [e] at h; cases h
    | some l =>
      rw [e] at h
      cases h
      rw [ih e]
      rfl
def joinD (a : Str) (e : D) : Option D := (seqOf e).bind fun xs => (strsOf xs).bind fun ys => if (ys.map (·.length)).sum + ys.length * a.length ≤ lim then some (.str (Txt.join a ys)) else none
theorem lim_16 {n : Nat} (h : n ≤ lim) : n ≤ 16777216 := Nat.le_trans h (by decide)
def fJoin (fo fe : En → Res D) : En → Res D := fun ρ => (fo ρ).bind fun d ρ1 => match d with
  | .str a => (fe ρ1).bind fun e ρ2 => ofO (joinD a e) ρ2
  | _ => .bad
theorem ej_join {o e : Expr} {apos cpos : Pos} {fo fe : En → Res D} (ho : EJ X Wx S o fo) (he : EJ X Wx S e fe) (hbase : attributeBase o "join" X.env (eval o X.env) = eval o X.env := by rfl)
    (hline : (apos.endLine == cpos.line) = true := by rfl) (hs : starEach [e] X.env = [(false, eval e X.env)] := by rfl) : EJ X Wx S (.Call (.Attribute o "join" apos) [e] [] cpos) (fJoin fo fe) := by
  obtain ⟨t, pa, qa⟩ := ho.ex
  obtain ⟨u, pb, qb⟩ := he.ex
  refine ⟨_, pe_join pa pb hs hbase hline, fun B F0 F H σ ρ Q st post => qa B F0 F H σ ρ _ st (post.bind fun d ρ1 v F1 H1 post1 st1 s1 r1 => ?_)⟩
  cases r1 <;> (try exact post1.elim)
  rename_i a
  refine ⟨⟨a, rfl⟩, qb B F0 F1 H1 σ ρ1 _ st1 (post1.bind fun e ρ2 w F2 H2 post2 st2 s2 r2 => ?_)⟩
  obtain ⟨z, hz, k⟩ := post2.ofO
  unfold joinD at hz
  cases e1 : seqOf e with
  | none => rw [e1] at hz; cases hz
  | some xs =>
    rw [e1, Option.bind_some] at hz
    cases e2 : strsOf xs with
    | none => rw [e2] at hz; cases hz
    | some ys =>
      rw [e2, Option.bind_some] at hz
      split at hz
      · rename_i hl
        cases hz
        have e3 := strsOf_some e2
        subst e3
        cases r2 <;> (try (cases e1; done)) <;> cases e1
        · rename_i p us h1 h2
          have e4 := RepL.strs_inv h2
          subst e4
          exact ⟨a, p, ys, rfl, rfl, .inl (Same.seq st2.fz.fH h1), lim_16 hl, k _ F2 H2 st2 (Same.refl _) (.str _)⟩
        · rename_i p us h1 h2
          have e4 := RepL.strs_inv h2
          subst e4
          exact ⟨a, p, ys, rfl, rfl, .inr (Same.seqT st2.fz.fH h1), lim_16 hl, k _ F2 H2 st2 (Same.refl _) (.str _)⟩
      · cases hz
end
end PD
set_option Elab.async false
set_option linter.all false
set_option maxRecDepth 100000
set_option maxHeartbeats 4000000
/-! PDE: enumerate of a tuple, of a text. -/
namespace PD
open PySem PySem.Spec PyProof.Rows
section
variable {prog : Program} {w : World} {A : Around} {E : Value → Shared → Prop} {s : Shared}
theorem meets_enum1 {v : Value} {o : Obj} {H : Heap → Prop} (B : Begins v o H) :
    Meets (Builtin.«enumerate.__new__» ⟨[.type "enumerate", v], []⟩) (fun _ R s => H s.heap ∧
      R (.ok (.ret (.ref (s.heap.push o).objs.size))) { s with heap := (s.heap.push o).push { cls := .type "enumerate", data := .fields #[.none, .bool false, .ref s.heap.objs.size, rawInt 0, .none, .none] } }) :=
  .of_wp fun prog w A R s h => by
    obtain ⟨hp, g, d, tk, os⟩ := s
    obtain ⟨h1, h⟩ := h
    have hsub := sub_enumerate
    have q1 : ∀ {A' : Around} {E : Value → Shared → Prop} {Q : Value → Shared → Prop}, Q (.ref hp.objs.size) ⟨hp.push o, g, d, tk, os⟩ → wpAny (model prog w) A' (pyIter v) Q E ⟨hp, g, d, tk, os⟩ :=
      fun q => B.iter prog w _ _ ⟨hp, g, d, tk, os⟩ _ h1 q
    wp_walk
    refine wpAny_stack_any fun st => wpAny_pure ?_
    split
    · rename_i c _ _ _ _ _
      cases (c == Value.type "enumerate")
      · wp_walk using q1
        exact ⟨_, rfl, h⟩
      · wp_walk using q1
        exact ⟨_, rfl, h⟩
    · wp_walk using q1
      exact ⟨_, rfl, h⟩
theorem call_enum1 {v : Value} {o : Obj} {H : Heap → Prop} {Q : Value → Shared → Prop} (B : Begins v o H) (h1 : H s.heap)
    (h : ∀ h', IsEnum h' (s.heap.objs.size + 1) s.heap.objs.size 0 .none → h'.get? s.heap.objs.size = some o → h'.objs.size = s.heap.objs.size + 2 →
      (∀ b o, s.heap.get? b = some o → h'.get? b = some o) → Q (.ref (s.heap.objs.size + 1)) { s with heap := h' }) :
    wpAny (model prog w) A (call (.type "enumerate") [v]) Q E s := by
  refine callType_new F.called_enumerate (by decide) (F.typeCall_enumerate_1 _) (F.newCall_enumerate_1 _) (fun obj => F.args_object_init_2 obj _) F.entry_enumerate_new
    (meets_enum1 B) ⟨h1, ?_⟩
  have hz : (s.heap.push o).objs.size = s.heap.objs.size + 1 := Heap.size_push ..
  show _ ∧ _
  rw [hz]
  have he : IsEnum ((s.heap.push o).push { cls := .type "enumerate", data := .fields #[.none, .bool false, .ref s.heap.objs.size, rawInt 0, .none, .none] }) (s.heap.objs.size + 1) s.heap.objs.size 0 .none := by
    have := Heap.get?_push_size (s.heap.push o) (o := { cls := .type "enumerate", data := .fields #[.none, .bool false, .ref s.heap.objs.size, rawInt 0, .none, .none] }) rfl
    rw [hz] at this; exact this
  refine ⟨⟨_, he, rfl⟩, h _ he (Heap.get?_push_of_some _ (Heap.get?_push_size _ B.free)) (by rw [Heap.size_push, hz]) fun b o x => Heap.get?_push_of_some _ (Heap.get?_push_of_some _ x)⟩
end
end PD
namespace PD
open PySem PySem.Spec L2
/-- pairs of a number and an item that stands for ever -/
def Ites (xs : Nat → Option V) (n : Nat) : It := ⟨fun i _ => i < n, fun i H v H' => ∃ T x, v = .ref T ∧ H T = none ∧ H' = upd H T (.tup [.int (i : Nat), x]) ∧ xs i = some x, fun i _ => n ≤ i⟩
def Itet (K : PySem.W.Frag) (a : Addr) : It :=
  ⟨fun i H => ∃ (xs : List V) (x : V), SqT K H a xs ∧ xs[i]? = some x, fun i H v H' => ∃ T x, v = .ref T ∧ H T = none ∧ H' = upd H T (.tup [.int (i : Nat), x]) ∧ ∀ xs, SqT K H a xs → xs[i]? = some x, fun i H => ∃ xs : List V, SqT K H a xs ∧ xs.length ≤ i⟩
theorem walk_enumS {xs : Nat → Option V} {n : Nat} : Walk (Ites xs n) n (fun _ => True) (YPair (fun i => some (.int (i : Nat))) xs) :=
  ⟨fun _ _ hi _ => hi, fun _ _ => Nat.le_refl _, fun i H v H' _ _ y => by
    obtain ⟨T, x, h1, h2, h3, h4⟩ := y
    exact ⟨T, .int (i : Nat), x, h1, h2, h3, rfl, h4⟩⟩
theorem walk_enumT {K : PySem.W.Frag} {a : Addr} {xs : List V} : Walk (Itet K a) xs.length (fun H => SqT K H a xs) (YPair (fun i => some (.int (i : Nat))) (fun i => xs[i]?)) := by
  refine ⟨fun i _ hi q => ⟨xs, xs[i], q, by simp [hi]⟩, fun _ q => ⟨xs, q, Nat.le_refl _⟩, fun i H v H' _ q y => ?_⟩
  obtain ⟨T, x, h1, h2, h3, h4⟩ := y
  exact ⟨T, .int (i : Nat), x, h1, h2, h3, rfl, h4 xs q⟩
def signV (z : Str) (i : Nat) : Option V := z.cps[i]?.map fun c => V.str ⟨#[c]⟩
theorem turn_enumS {P : Program} {w : World} {K : PySem.W.Frag} {elts : List Expr} {kk : Nat} {tpos : Pos} (z : Str) (t : Tok) (e it : Addr) :
    Turn P w K (.Tuple elts kk tpos) (Ites (signV z) z.cps.size) [e, it] e (fun i h => (∃ old, IsEnum h e it ((i : Nat) : Int) old) ∧ h.IsStrIter it (strIterType z) z t i ∧ e ≠ it ∧ i ≤ z.cps.size) where
  mem := by simp
  obj := fun i h st b hb => by
    obtain ⟨⟨old, he⟩, ⟨o, ho, hc, hd⟩, _, _⟩ := st
    have e' : b = e ∨ b = it := by simpa using hb
    rcases e' with z | z
    · rw [z]; exact ⟨_, he, fun v q => nomatch q⟩
    · rw [z]; exact ⟨o, ho, fun v q => by rw [hd] at q; cases q⟩
  keep := fun i h h' st k => let ⟨⟨old, he⟩, ⟨o, ho, r⟩, hne, hle⟩ := st; ⟨⟨old, k e (by simp) _ he⟩, ⟨o, k it (by simp) o ho, r⟩, hne, hle⟩
  item := by
    intro X hP hw hK hc i pins s σ H E I hf st hg
    subst hP hw hK
    obtain ⟨⟨old, he⟩, hit, hne, hle⟩ := st
    have D0 := PySem.Draws.text (prog := X.prog) (w := X.w) (A := X.A.in1) (I.ok.hd hc) it z t
    have hel : e < s.heap.objs.size := Heap.lt_size he
    have hil : it < s.heap.objs.size := by obtain ⟨_, q, _⟩ := hit; exact Heap.lt_size q
    refine wpAny_pyNext_enum_itemD D0 he hit hg hne (by simpa using hne) fun u h' tk hu ho hit' hT hsz hk => ?_
    obtain ⟨c, tc, hc1, rfl⟩ := hu
    refine ⟨_, rfl, wpAny_letOwnedTupleGo_enum (s := { s with heap := h', toks := tk + 1 }) ho fun h'' he' sb => ?_⟩
    have hT2 : h''.get? s.heap.objs.size = some { cls := .type "tuple", data := .seq #[.int i tk, .str ⟨#[c]⟩ tc] } := (sb.2 _ (Nat.ne_of_gt hel)).trans hT
    have new : ObjOk X.prog X.w (upd H s.heap.objs.size (.tup [.int (i : Nat), .str ⟨#[c]⟩])) h'' s.heap.objs.size (.tup [.int (i : Nat), .str ⟨#[c]⟩]) :=
      ⟨by show 2 ≤ sizeLine; decide, [.int i tk, .str ⟨#[c]⟩ tc], .cons ⟨_, rfl⟩ (.cons ⟨_, rfl⟩ .nil), ⟨_, hT2, rfl, _, rfl⟩⟩
    have I1 : Inv X pins σ (upd H s.heap.objs.size (.tup [.int (i : Nat), .str ⟨#[c]⟩])) { s with heap := h'', toks := tk + 1 } :=
      I.turnedNew (ch := [e, it]) (fun b ob hb q => (sb.2 b (fun z => hb (by simp [z]))).trans (hk b ob (fun z => hb (by simp [z])) (fun z => hb (by simp [z])) q)) hf (Nat.le_refl _) new
    refine ⟨.ref s.heap.objs.size, _, I1, rfl, ⟨_, .str ⟨#[c]⟩, rfl, I.hok.fresh (Nat.le_refl _), rfl, by unfold signV; rw [hc1]; rfl⟩, ⟨⟨.str ⟨#[c]⟩ tc, ?_⟩, ?_, hne, hg⟩, fun b hb => ?_⟩
    · have e1 : ((i + 1 : Nat) : Int) = (i : Int) + 1 := by omega
      rw [e1]; exact he'
    · obtain ⟨o, ho2, r⟩ := hit'
      exact ⟨o, (sb.2 it (Ne.symm hne)).trans ho2, r⟩
    · have hb' : b < s.heap.objs.size := by
        have e' : b = e ∨ b = it := by simpa using hb
        rcases e' with z | z
        · rw [z]; exact hel
        · rw [z]; exact hil
      rw [upd_ne (Nat.ne_of_lt hb')]
      exact (hf b hb).1
  done := by
    intro X hP hw hK hc i pins s σ H E I hf st hg
    subst hP hw hK
    obtain ⟨⟨old, he⟩, hit, hne, hle⟩ := st
    obtain ⟨f0, f1, f2, f3, f4, f5⟩ := hf it (by simp)
    have D0 := PySem.Draws.text (prog := X.prog) (w := X.w) (A := X.A.in1) (I.ok.hd hc) it z t
    have hi : i = z.cps.size := Nat.le_antisymm hle hg
    rw [hi] at hit
    exact PySem.wpAny_pyNext_enum_endD D0 he hit fun h' eb => ⟨rfl, I.turned (t' := s.toks) (fun b o hb q => eb b o hb q) f0 f1 f3 f4 f5⟩
  self := fun A i s Q E st h => let ⟨⟨_, he⟩, _⟩ := st; wpAny_pyIter_enum he h
theorem drawsEnd {prog : Program} {w : World} {A : Around} (hh : A.handled = none) (it t : Addr) (items : Array Value) (i : Nat) (hi : items.size ≤ i) :
    Draws prog w A it [it, t] i (fun i v => items[i]? = some v) (fun j h => j = i ∧ h.IsTupleIter it t j ∧ h.IsTuple t items) where
  live := fun _ _ st => let ⟨o, ho, _⟩ := st.2.1; ⟨o, ho⟩
  frame := fun _ _ _ st hk => ⟨st.1, st.2.1.at fun o e => hk it (by simp) o e, st.2.2.at fun o e => hk t (by simp) o e⟩
  item := fun j s Q E hj st hQ => absurd st.1 (by omega)
  done := fun s Q E st hE => wpAny_nextOf_tuple_end hh st.2.1 st.2.2 (by simp; omega) hE
theorem turn_enumT {P : Program} {w : World} {K : PySem.W.Frag} {elts : List Expr} {kk : Nat} {tpos : Pos} (a e it : Addr) :
    Turn P w K (.Tuple elts kk tpos) (Itet K a) [e, it] e (fun i h => (∃ old, IsEnum h e it ((i : Nat) : Int) old) ∧ h.IsTupleIter it a i ∧ e ≠ it ∧ a ≠ it ∧ a ≠ e) where
  mem := by simp
  obj := fun i h st b hb => by
    obtain ⟨⟨old, he⟩, ⟨o, ho, hc, hd⟩, _, _, _⟩ := st
    have e' : b = e ∨ b = it := by simpa using hb
    rcases e' with z | z
    · rw [z]; exact ⟨_, he, fun v q => nomatch q⟩
    · rw [z]; exact ⟨o, ho, fun v q => by rw [hd] at q; cases q⟩
  keep := fun i h h' st k => let ⟨⟨old, he⟩, hi, hne⟩ := st; ⟨⟨old, k e (by simp) _ he⟩, hi.at fun o q => k it (by simp) o q, hne⟩
  item := by
    intro X hP hw hK hc i pins s σ H E I hf st hg
    subst hP hw hK
    obtain ⟨⟨old, he⟩, hit, hne, hai, hae⟩ := st
    obtain ⟨xs, x, hq, hx⟩ := hg
    obtain ⟨its, rv, p, hz⟩ := I.tuple hq
    obtain ⟨u, hu, ru⟩ := rv.get hx
    have hel : e < s.heap.objs.size := Heap.lt_size he
    have hil : it < s.heap.objs.size := by obtain ⟨_, q, _⟩ := hit; exact Heap.lt_size q
    have pt : s.heap.IsTuple a its.toArray := p
    have D0 := PySem.Draws.tuple (prog := X.prog) (w := X.w) (A := X.A.in1) (I.ok.hd hc) it a hai its.toArray
    have hlt : i < its.toArray.size := by
      obtain ⟨h1, _⟩ := List.getElem?_eq_some_iff.mp hu
      simpa using h1
    refine wpAny_pyNext_enum_itemD D0 he ⟨hit, pt⟩ hlt hne (by simp [hne, hae.symm]) fun u2 h' tk hu2 ho hit' hT hsz hk => ?_
    have hu3 : u2 = u := by
      have : its[i]? = some u2 := by simpa using hu2
      rw [hu] at this
      exact (Option.some.inj this).symm
    subst hu3
    refine ⟨_, rfl, wpAny_letOwnedTupleGo_enum (s := { s with heap := h', toks := tk + 1 }) ho fun h'' he' sb => ?_⟩
    have hT2 : h''.get? s.heap.objs.size = some { cls := .type "tuple", data := .seq #[.int i tk, u2] } := (sb.2 _ (Nat.ne_of_gt hel)).trans hT
    have new : ObjOk X.prog X.w (upd H s.heap.objs.size (.tup [.int (i : Nat), x])) h'' s.heap.objs.size (.tup [.int (i : Nat), x]) :=
      ⟨by show 2 ≤ sizeLine; decide, [.int i tk, u2], .cons ⟨_, rfl⟩ (.cons ru .nil), ⟨_, hT2, rfl, _, rfl⟩⟩
    have I1 : Inv X pins σ (upd H s.heap.objs.size (.tup [.int (i : Nat), x])) { s with heap := h'', toks := tk + 1 } :=
      I.turnedNew (ch := [e, it]) (fun b ob hb q => (sb.2 b (fun z => hb (by simp [z]))).trans (hk b ob (fun z => hb (by simp [z])) (fun z => hb (by simp [z])) q)) hf (Nat.le_refl _) new
    refine ⟨.ref s.heap.objs.size, _, I1, rfl, ⟨_, x, rfl, I.hok.fresh (Nat.le_refl _), rfl, fun ys hy => ?_⟩, ⟨⟨u2, ?_⟩, hit'.1.at fun o q => (sb.2 it (Ne.symm hne)).trans q, hne, hai, hae⟩, fun b hb => ?_⟩
    · rw [I.tuple_inj hy hq]
      exact hx
    · have e1 : ((i + 1 : Nat) : Int) = (i : Int) + 1 := by omega
      rw [e1]; exact he'
    · have hb' : b < s.heap.objs.size := by
        have e' : b = e ∨ b = it := by simpa using hb
        rcases e' with z | z
        · rw [z]; exact hel
        · rw [z]; exact hil
      rw [upd_ne (Nat.ne_of_lt hb')]
      exact (hf b hb).1
  done := by
    intro X hP hw hK hc i pins s σ H E I hf st hg
    subst hP hw hK
    obtain ⟨⟨old, he⟩, hit, hne, hai, hae⟩ := st
    obtain ⟨xs, hq, hx⟩ := hg
    obtain ⟨its, rv, p, hz⟩ := I.tuple hq
    obtain ⟨f0, f1, f2, f3, f4, f5⟩ := hf it (by simp)
    have hl := rv.length
    have D0 := drawsEnd (prog := X.prog) (w := X.w) (A := X.A.in1) (I.ok.hd hc) it a its.toArray i (by simp; omega)
    exact wpAny_pyNext_enum_endD D0 he ⟨rfl, hit, p⟩ fun h' eb => ⟨rfl, I.turned (t' := s.toks) (fun b o hb q => eb b o hb q) f0 f1 f3 f4 f5⟩
  self := fun A i s Q E st h => let ⟨⟨_, he⟩, _⟩ := st; wpAny_pyIter_enum he h
/-- enumerate(x), x a list, a tuple, a text -/
def iEnumA (K : PySem.W.Frag) (ta : TA) : TI := fun σ H R => ta σ H fun vs H1 => (∃ a xs, vs = [.ref a] ∧ SqL K H1 a xs ∧ R (Ite K a) H1) ∨ (∃ a xs, vs = [.ref a] ∧ SqT K H1 a xs ∧ R (Itet K a) H1) ∨ ∃ z, vs = [.str z] ∧ R (Ites (signV z) z.cps.size) H1
theorem pi_enumA {X : Cx} {e : Expr} {ta : TA} {p pos tpos : Pos} {elts : List Expr} {kk : Nat} (hg : Gl X "enumerate") (hm : X.mg "enumerate" = none) (ha : PA X [e] ta) (hs : starEach [e] X.env = [(false, eval e X.env)] := by rfl) :
    PI X (.Tuple elts kk tpos) (.Call (.Name "enumerate" p) [e] [] pos) (iEnumA X.K ta) := by
  refine ⟨fun pins s σ H R I h => ?_⟩
  refine PyProof.Rows.Call_ (ld_blt I hg hm (show bootBuiltins "enumerate" = some (.type "enumerate") by decide +kernel) (PyProof.Rows.callWith_type1 (thn (ha.run pos pins s σ H _ I h) fun us s1 ⟨vs, H1, I1, r1, q1⟩ => ?_) hs rfl))
  have fp2 : ∀ b ∈ [s1.heap.objs.size + 1, s1.heap.objs.size], FpOk X pins H1 b := fun b hb => by
    have e' : b = s1.heap.objs.size + 1 ∨ b = s1.heap.objs.size := by simpa using hb
    have hle : s1.heap.objs.size ≤ b := by
      rcases e' with z | z
      · rw [z]; exact Nat.le_add_right _ _
      · rw [z]; exact Nat.le_refl _
    exact I1.fpOk hle (I1.hok.fresh hle)
  rcases q1 with ⟨a, xs, ex, hq, q⟩ | ⟨a, xs, ex, hq, q⟩ | ⟨z, ex, q⟩
  · subst ex
    cases r1 with
    | cons r rr =>
      cases rr
      cases r
      obtain ⟨its, rv, p', hz⟩ := I1.list hq
      refine call_enumerate_list p'.isList fun h' he hit hsz hk => wpAny_pyIter_enum he ?_
      have I2 : Inv X pins σ H1 { s1 with heap := h' } := I1.kept (t' := s1.toks) hk
      exact ⟨s1.heap.objs.size + 1, [s1.heap.objs.size + 1, s1.heap.objs.size], _, _, H1, rfl, I2, turn_enum a (s1.heap.objs.size + 1) s1.heap.objs.size, ⟨⟨.none, he⟩, hit, Nat.succ_ne_self _⟩, fp2, q⟩
  · subst ex
    cases r1 with
    | cons r rr =>
      cases rr
      cases r
      obtain ⟨its, rv, p', hz⟩ := I1.tuple hq
      have hal : a < s1.heap.objs.size := p'.lt
      refine call_enum1 (begins_tuple a its.toArray) p' fun h' he hit hsz hk => wpAny_pyIter_enum he ?_
      have I2 : Inv X pins σ H1 { s1 with heap := h' } := I1.kept (t' := s1.toks) hk
      exact ⟨s1.heap.objs.size + 1, [s1.heap.objs.size + 1, s1.heap.objs.size], _, _, H1, rfl, I2, turn_enumT a (s1.heap.objs.size + 1) s1.heap.objs.size, ⟨⟨.none, he⟩, ⟨_, hit, rfl, rfl⟩, Nat.succ_ne_self _, Nat.ne_of_lt hal, Nat.ne_of_lt (Nat.lt_succ_of_lt hal)⟩, fp2, q⟩
  · subst ex
    cases r1 with
    | cons r rr =>
      cases rr
      obtain ⟨t, rfl⟩ := r
      refine call_enumerate_str fun h' he hit hsz hk => wpAny_pyIter_enum he ?_
      have I2 : Inv X pins σ H1 { s1 with heap := h' } := I1.kept (t' := s1.toks) hk
      exact ⟨s1.heap.objs.size + 1, [s1.heap.objs.size + 1, s1.heap.objs.size], _, _, H1, rfl, I2, turn_enumS z t (s1.heap.objs.size + 1) s1.heap.objs.size, ⟨⟨.none, he⟩, hit, Nat.succ_ne_self _, Nat.zero_le _⟩, fp2, q⟩

section
variable {X : Cx} {Wx : WX} {S : Sx}
def dEnumAux : Nat → List D → List D
  | _, [] => []
  | n, d :: r => .tup [.int (n : Nat), d] :: dEnumAux (n + 1) r
def dEnum (xs : List D) : List D := dEnumAux 0 xs
theorem dEnumAux_len : ∀ (n : Nat) (xs : List D), (dEnumAux n xs).length = xs.length
  | _, [] => rfl
  | n, d :: r => by
    unfold dEnumAux
    rw [List.length_cons, List.length_cons, dEnumAux_len]
theorem dEnumAux_get : ∀ (n : Nat) (xs : List D) (i : Nat) (d : D), xs[i]? = some d → (dEnumAux n xs)[i]? = some (.tup [.int ((n + i : Nat) : Int), d])
  | _, [], i, d, h => by simp at h
  | n, a :: r, 0, d, h => by
    simp at h
    subst h
    rfl
  | n, a :: r, i + 1, d, h => by
    have := dEnumAux_get (n + 1) r i d (by simpa using h)
    unfold dEnumAux
    rw [List.getElem?_cons_succ, this]
    congr 4
    have : n + 1 + i = n + (i + 1) := by omega
    rw [this]
def iEnum1 (f : En → Res (List D)) : En → Res (List D) := fun ρ => (f ρ).bind fun ds ρ1 => match ds with
  | [.lst xs] => .ok (dEnum xs) ρ1
  | [.tup xs] => .ok (dEnum xs) ρ1
  | [.str z] => .ok (dEnum (chars z)) ρ1
  | _ => .bad
theorem enum_yield {K : PySem.W.Frag} {F1 : Hp} {xs : List D} {vx : Nat → Option V} (hv : ∀ i v, vx i = some v → ∃ d, xs[i]? = some d ∧ Rep K F1 v d) :
    ∀ i Fi Hi x Hi', i < (dEnum xs).length → Same F1 Fi → Same Fi Hi → YPair (fun i => some (.int (i : Nat))) vx i Hi x Hi' → ∃ Fj d, Ext Fi Hi Fj Hi' ∧ (dEnum xs)[i]? = some d ∧ Rep K Fj x d := by
  intro i Fi Hi x Hi' hi sF sH y
  obtain ⟨T, a, b, rfl, hT, rfl, e1, e2⟩ := y
  cases e1
  obtain ⟨d, hd, rd⟩ := hv i b e2
  have ex := Ext.laid (o := .tup [.int (i : Nat), b]) sH hT
  refine ⟨_, .tup [.int (i : Nat), d], ex, ?_, .tup (.inl (.inl upd_same)) (.cons (.int _) (.cons (rd.mono (sF.trans ex.ff)) .nil))⟩
  have := dEnumAux_get 0 xs i d hd
  rw [Nat.zero_add] at this
  exact this
theorem ij_enum {elts : List Expr} {kk : Nat} {tpos : Pos} {e : Expr} {f : En → Res (List D)} {p pos : Pos} (hm : X.mg "enumerate" = none) (ha : AJ X Wx S [e] f) (hg : Gl X "enumerate" := by rfl) (hs : starEach [e] X.env = [(false, eval e X.env)] := by rfl) :
    IJ X Wx S (.Tuple elts kk tpos) (.Call (.Name "enumerate" p) [e] [] pos) (iEnum1 f) := by
  obtain ⟨t, pa, qa⟩ := ha.ex
  refine ⟨_, pi_enumA hg hm pa hs, fun B F0 F H σ ρ R st post => qa B F0 F H σ ρ _ st ?_⟩
  unfold iEnum1 at post
  cases ef : f ρ with
  | bad => rw [ef] at post; exact post
  | exc x ρ1 => rw [ef] at post; exact post
  | ok ds ρ1 =>
    rw [ef, Res.bind_ok] at post
    intro vs F1 H1 st1 s1 r1
    match ds, post, r1 with
    | [.lst xs], post, r1 =>
      obtain ⟨v, rfl, rv⟩ := repL_1 r1
      cases rv with
      | @lst a us ds h1 h2 =>
        refine .inl ⟨a, us, rfl, Same.seq st1.fz.fH h1, ?_⟩
        have hl : us.length = (dEnum xs).length := by rw [h2.length]; exact (dEnumAux_len 0 xs).symm
        refine post _ (fun H => SqL X.K H a us) (YPair (fun i => some (.int (i : Nat))) (fun i => us[i]?)) F1 H1 st1 s1 (by rw [← hl]; exact walk_enum) (fun H'' s _ => Same.seq s h1) (enum_yield fun i v e => ?_)
        exact h2.get' e
    | [.tup xs], post, r1 =>
      obtain ⟨v, rfl, rv⟩ := repL_1 r1
      cases rv with
      | @tup a us ds h1 h2 =>
        refine .inr (.inl ⟨a, us, rfl, Same.seqT st1.fz.fH h1, ?_⟩)
        have hl : us.length = (dEnum xs).length := by rw [h2.length]; exact (dEnumAux_len 0 xs).symm
        refine post _ (fun H => SqT X.K H a us) (YPair (fun i => some (.int (i : Nat))) (fun i => us[i]?)) F1 H1 st1 s1 (by rw [← hl]; exact walk_enumT) (fun H'' s _ => Same.seqT s h1) (enum_yield fun i v e => ?_)
        exact h2.get' e
    | [.str z], post, r1 =>
      obtain ⟨v, rfl, rv⟩ := repL_1 r1
      cases rv
      refine .inr (.inr ⟨z, rfl, ?_⟩)
      have hl : z.cps.size = (dEnum (chars z)).length := by rw [show (dEnum (chars z)).length = (chars z).length from dEnumAux_len 0 _]; simp [chars]
      refine post _ (fun _ => True) (YPair (fun i => some (.int (i : Nat))) (signV z)) F1 H1 st1 s1 (by rw [← hl]; exact walk_enumS) (fun _ _ _ => trivial) (enum_yield fun i v e => ?_)
      unfold signV at e
      cases ec : z.cps[i]? with
      | none => rw [ec] at e; cases e
      | some c =>
        rw [ec] at e
        cases e
        refine ⟨.str ⟨#[c]⟩, ?_, .str _⟩
        have hc' : z.cps.toList[i]? = some c := by rw [Array.getElem?_toList]; exact ec
        simp [chars, List.getElem?_map, hc']
end
end PD
set_option Elab.async false
set_option linter.all false
set_option maxRecDepth 100000
set_option maxHeartbeats 4000000
/-! PDX0: own exceptions whose __init__ is super().__init__(msg); self.f = f. -/
namespace PySem
namespace PDX
open PySem.W PySem.Calls PyProof.Rows PySem.HandSPX
def iA (f : Str) (p1 p2 : Pos) : Arguments := { posonlyargs := [], args := [{ arg := "self", annotation := none, pos := p1 }, { arg := f, annotation := none, pos := p2 }], vararg := none, kwonlyargs := [], kw_defaults := [], kwarg := none, defaults := [] }
def iB (m f : Str) (j : Nat) (p1 p2 p3 p4 p5 p6 p7 p8 p9 p10 : Pos) : List Stmt :=
  [.Expr (.Call (.Attribute (.Call (.Name "super" p1) [] [] p2) "__init__" p3) [.Constant (.str m) j p4] [] p5) p6, .Assign [.Attribute (.Name "self" p7) f p8] (.Name f p9) p10]
def iS (f : Str) : Scope := { kind := .function, names := [(PySem.Str.ofString "self", .local), (f, .local), (PySem.Str.ofString "__class__", .free), (PySem.Str.ofString "super", .globalImplicit)], isGenerator := false, isCoroutine := false, more := [] }

section
variable {prog : Program} {w : World} {A : Around} {E : Value → Shared → Prop} {h : Heap} {g : Array GenState} {d : Drawn} {tk : Nat} {os : OsState} {B i newId : String} {bmB : List Value}
theorem init_super {nm q : Str} {C N : Addr} {bs bm : List Value} {hdct : Bool} {sn : List Str} {sub : List Value} {ab : Bool} {col : Option Bool} {dd : Option Addr} {k0 k1 k2 k3 k5 : Option Value} {u x t0 : Addr} {rest : List Value} {Q : Value → Shared → Prop} (FB : ExcBaseFacts B newId i bmB)
    (hC : h.get? C = some (excClassObj nm q C N bs bm hdct sn sub ab col dd k0 k1 k2 k3 k5 newId)) (hu : h.get? u = some (kxs_mw i x)) (he : h.get? x = some (excO C t0)) (hz : rest.length ≤ sizeLine)
    (fin : ∀ h', (∀ b o, b ≠ x → h.get? b = some o → h'.get? b = some o) → h'.get? x = some (excO C h.objs.size) → h'.get? h.objs.size = some (excTup rest) → Q .none ⟨h', g, d, tk, os⟩) :
    wpAny (model prog w) A (call (.ref u) rest) Q E ⟨h, g, d, tk, os⟩ := by
  refine wpAny_call (codeAny_of_tree ?_)
  show wpAny _ A.in1 (callAny (.ref u) ⟨rest, []⟩) _ _ _
  simp only [callAny]
  refine wpAny_bind (wpAny_load hu ?_)
  simp only [kxs_mw, show (Value.type "method-wrapper" == Value.type "method" || Value.type "method-wrapper" == Value.type "builtin_function_or_method" || Value.type "method-wrapper" == Value.type "method-wrapper") = true by decide, if_true]
  refine KFB.if_so (by decide) ?_
  refine wpAny_bind (check_bound_init FB.toExcCallFacts hC he rfl ?_)
  refine wpAny_bind (wpAny_pure (wpAny_pure ?_))
  refine ⟨plainId_quiet FB.init.plain _, codeAny_builtin FB.initEntry ?_⟩
  exact exc_init_tree (cls := .ref C) (t0 := t0) (dv := none) (c2 := .none) (c3 := .none) (b4 := .bool false) he hz fin
end
/-- what the written part says of an own exception class at C, its __init__ at fI -/
structure SupTxt (prog : Program) (K : Frag) (mg : Str → Option Value) (C fI : Addr) (m f : Str) : Prop where
  cls : ∃ nm q N bs bm sn sub ab col dd k0 k1 k2 k3 k5, K.lookup C = some (excClassObj nm q C N bs bm true sn sub ab col dd k0 k1 k2 k3 k5 "ValueError.__new__") ∧ refsVE bm = true
  sa : findIn K (.ref C) "__setattr__" = some (some (.builtin "object.__setattr__"))
  noF : findIn K (.ref C) f = some none
  iC : findIn K (.ref C) "__init__" = some (some (.ref fI))
  tI : typeIn K (.ref fI) = some (.type "function")
  kC : keepIn K (.ref C) = true
  exC : subIn K (.ref C) (.type "BaseException") = some true
  veC : subIn K (.ref C) (.type "ValueError") = some true
  tyC : typeIn K (.ref C) = some (.type "type")
  up : ks_superIn K C C "__init__" = some (some (.builtin "ValueError.__init__"))
  sub : mroIn K C (.ref C) = some true
  any : nsIn K cStatics "thirdparty.any" = some none
  sup : mg "super" = none
  fn : ∃ (oc : Value) (od : Option Addr) (qual : Str) (doc pm : Value) (an : Option Addr) (ct : Value) (osl : Array (Option Value)) (cda cc : Addr) (pa pb : Pos) (j : Nat) (p1 p2 p3 p4 p5 p6 p7 p8 p9 p10 : Pos),
    K.lookup fI = some ⟨oc, od, .func (ksFn "__init__" qual (iA f pa pb) (iB m f j p1 p2 p3 p4 p5 p6 p7 p8 p9 p10) (iS f) .none .none doc pm an (.ref cda) ct cc), osl⟩ ∧ codeIn K (.ref cda) qual = true ∧
    (∃ cl cld csl, K.lookup cc = some ⟨cl, cld, .cell (some (.ref C)), csl⟩) ∧ ∃ ccl cdd vs ccs file tf, K.lookup cda = some ⟨ccl, cdd, .fields vs, ccs⟩ ∧ vs[2]? = some (.str file tf) ∧ ((prog.main.file : Str) == file) = true ∧
    ∀ env, ∃ pl, eval (.Call (.Attribute (.Call (.Name "super" p1) [] [] p2) "__init__" p3) [.Constant (.str m) j p4] [] p5) env = (do
      let ov ← attributeBase (.Call (.Name "super" p1) [] [] p2) "__init__" env (eval (.Call (.Name "super" p1) [] [] p2) env)
      standAt p3.atName
      let (f, first) ← holding [ov] (getMethod ov "__init__" pl)
      callWith p5 f first (backTo p5 (starEach [.Constant (.str m) j p4] env)) [])
  bnd : ∀ (qual : Str) (pa pb : Pos) (body : List Stmt) (doc pm : Value) (an : Option Addr) (cdv ct : Value) (cc : Addr) (a b : Value), bindArgs (ksFn "__init__" qual (iA f pa pb) body (iS f) .none .none doc pm an cdv ct cc) ⟨[a, b], []⟩ = pure ([("self", a), (f, b)] : List (Str × Value))
  ne : ("self" : Str) ≠ f ∧ f ≠ "__class__" ∧ f ≠ "super"
  db : (f == ("__debug__" : Str)) = false
  top : (prog.main.scope.names.lookup ("super" : Str)).isSome = false
structure InitEnd (h h' : Heap) (x C dx t1 : Addr) (f : Str) (v : Value) : Prop where
  keep : ∀ b o, b ≠ x → h.get? b = some o → h'.get? b = some o
  obj : h'.get? x = some { cls := .ref C, dict := some dx, data := .fields #[.ref t1, .none, .none, .none, .bool false, .none] }
  dbig : h.objs.size ≤ dx
  dne : dx ≠ x
  ns : h'.Ns1 dx (fun y => if y = f then some v else none)
section
variable {prog : Program} {w : World} {A : Around} {E : Value → Shared → Prop} {R : Result → Shared → Prop} {s : Shared} {K : Frag} {mg mb : Str → Option Value} {C fI : Addr} {m f : Str}
theorem names_f (hf : ("self" : Str) ≠ f ∧ f ≠ "__class__" ∧ f ≠ "super") : (iS f).names.lookup f = some .local := by
  unfold iS
  have e : (f == (PySem.Str.ofString "self")) = false := by
    simpa using fun z : f = PySem.Str.ofString "self" => hf.1 z.symm
  simp [List.lookup, e]
theorem names_cls (hf : ("self" : Str) ≠ f ∧ f ≠ "__class__" ∧ f ≠ "super") : (iS f).names.lookup ("__class__" : Str) = some .free := by
  unfold iS
  have e : (("__class__" : Str) == f) = false := by simpa using fun z : "__class__" = f => hf.2.1 z.symm
  have e2 : (("__class__" : Str) == PySem.Str.ofString "self") = false := by decide
  have e3 : (("__class__" : Str) == PySem.Str.ofString "__class__") = true := by decide
  simp only [List.lookup, e, e2, e3]
theorem names_sup (hf : ("self" : Str) ≠ f ∧ f ≠ "__class__" ∧ f ≠ "super") : (iS f).names.lookup ("super" : Str) = some .globalImplicit := by
  unfold iS
  have e : (("super" : Str) == f) = false := by simpa using fun z : "super" = f => hf.2.2 z.symm
  have e2 : (("super" : Str) == PySem.Str.ofString "self") = false := by decide
  have e3 : (("super" : Str) == PySem.Str.ofString "__class__") = false := by decide
  have e4 : (("super" : Str) == PySem.Str.ofString "super") = true := by decide
  simp only [List.lookup, e, e2, e3, e4]
theorem sup_init (T : SupTxt prog K mg C fI m f) {x t0 : Addr} {v : Value} (X : K.In s.heap) (G : s.heap.Ns mainGlobals mg) (B : s.heap.Ns builtinsNs mb) (hmb : ∀ y : Str, y ≠ "__name__" → mb y = bootBuiltins y) (hlim : s.heap.NoLimit) (hx : s.heap.get? x = some (excO C t0)) (hnx : K.lookup x = none) (hroom : A.depth < recursionLimit)
    (hq : ∀ h' tk dx t1, InitEnd s.heap h' x C dx t1 f v → R (.ok (.ret .none)) { s with heap := h', toks := tk }) :
    codeAny (model prog w) A (.call (.ref fI) ⟨[.ref x, v], []⟩) R s := by
  obtain ⟨oc, od, qual, doc, pm, an, ct, osl, cda, cc, pa, pb, j, p1, p2, p3, p4, p5, p6, p7, p8, p9, p10, ho, hcd, ⟨cl, cld, csl, hcell⟩, ccl, cdd, vs, ccs, file, tf, hcode, hvs, hfile, hev⟩ := T.fn
  obtain ⟨nm, q, N, bs, bm, sn, sub, ab, col, dd, k0, k1, k2, k3, k5, hC, hbm⟩ := T.cls
  have hcl : clsIn K C = some { name := nm, bases := bs, mro := .ref C :: bm, ns := N, qualname := q, hasDict := true, slotNames := sn, subclasses := sub, abstract := ab, collection := col, hasDel := false } := by unfold clsIn; rw [hC] <;> rfl
  have hne : (f == ("self" : Str)) = false := by simpa using fun z : f = "self" => T.ne.1 z.symm
  have l1 : ([("self", Value.ref x), (f, v)] : List (Str × Value)).reverse.lookup f = some v := by simp [List.lookup]
  have hne2 : (("self" : Str) == f) = false := by simpa using T.ne.1
  have l2 : ([("self", Value.ref x), (f, v)] : List (Str × Value)).reverse.lookup ("self" : Str) = some (.ref x) := by
    show ([(f, v), ("self", Value.ref x)] : List (Str × Value)).lookup ("self" : Str) = _
    simp [List.lookup, hne2]
  refine ks_codeAny_call_defAt (fd := ksFn "__init__" qual (iA f pa pb) (iB m f j p1 p2 p3 p4 p5 p6 p7 p8 p9 p10) (iS f) .none .none doc pm an (.ref cda) ct cc) (body := iB m f j p1 p2 p3 p4 p5 p6 p7 p8 p9 p10) (binds := [("self", .ref x), (f, v)]) hroom (X _ _ ho) rfl hlim (codeRec_of X hcd) rfl
    (BindsTo.of_eq (T.bnd _ _ _ _ _ _ _ _ _ _ _ _)) (fun y hy => ?_) (fun y hy => ?_) (fun h₁ hn k => ?_)
  · have hy' : y ∈ (iS f).names := hy
    unfold iS at hy'
    simp only [List.mem_cons, List.not_mem_nil, or_false] at hy'
    rcases hy' with rfl | rfl | rfl | rfl <;> simp
  · simp only [List.mem_cons, List.not_mem_nil, or_false] at hy
    rcases hy with rfl | rfl
    · show (iS f).names.lookup ("self" : Str) = _
      unfold iS
      simp [List.lookup]
    · exact names_f T.ne
  have X₁ : K.In h₁ := X.keeps k
  have hx₁ := k _ _ hx
  have G₁ := G.keeps k
  have B₁ := B.keeps k
  let env : Env := ksEnv qual (iS f) s.heap.objs.size fI (.ref cda) cc
  have hk : env.scope.kind = .function := rfl
  have hks : env.kindOf "super" = some .globalImplicit := names_sup T.ne
  have hkc : env.kindOf "__class__" = some .free := names_cls T.ne
  have hka : env.kindOf "self" = some .local := by
    show (iS f).names.lookup ("self" : Str) = _
    unfold iS
    simp [List.lookup]
  have hkf : env.kindOf f = some .local := names_f T.ne
  show wpAt (model prog w) (A.deeper env) (.func _ env) (execs (iB m f j p1 p2 p3 p4 p5 p6 p7 p8 p9 p10) env) _ _ _
  obtain ⟨pl, hev⟩ := hev env
  refine ks_wpAt_execs_cons (ks_wpAt_Expr_any (ks_wpAt_MethodCall (he := hev) ?_))
  refine ks_wpAt_super_base (env := env) hks hkc (by decide) rfl (X₁ _ _ ho) rfl rfl rfl (X₁ _ _ hcode) rfl hvs hfile T.top ?_
  refine ks_loadName_global hk hks (loadGlobal_builtin (env := env) G₁ T.sup B₁ ((hmb _ (by decide)).trans (by first | boot_by_name | rfl | kernel_rfl)) ⟨rfl, ?_⟩)
  refine wpAny_loadName_free hk hkc rfl ⟨_, X₁ _ _ hcell, rfl⟩ ?_
  refine wpAny_loadName_local hk hka hn l2 ?_
  refine ks_wpAny_isType_cls (X₁ _ _ hC) rfl ⟨rfl, ?_⟩
  have hxC : x ≠ C := fun z => by
    rw [z] at hnx
    have hC' : K.lookup C = some _ := hC
    rw [hnx] at hC'
    cases hC'
  have xlt := Heap.lt_size hx₁
  refine ks_wpAny_call_super (X₁ _ _ hC) rfl hx₁ rfl (fun c e => by cases e) (looks_mroIn X₁ T.sub) (fun h2 hso k2 => ?_)
  have hup := T.up
  unfold ks_superIn at hup
  rw [hcl] at hup
  have X₂ := X₁.keeps k2
  have hx₂ := k2 _ _ hx₁
  have I2 : InstAt h2 x (excO C t0) C none := ⟨hx₂, rfl, rfl, trivial⟩
  refine kxs_getMethod kxs_ValueError hso (looks_opaque X₂ T.any) (l₀ := .ref C :: bm) (fun A Q E s k q => wpAny_bind ((looks_clsIn X₂ hcl) A _ E s k (wpAny_pure q))) rfl X₂ hup (I2.type.andThen (looks_subIn X₂ T.veC)) hxC (by decide) ?_
  have k3 : ∀ b o, h2.get? b = some o → (h2.push (kxs_mw "ValueError.__init__" x)).get? b = some o := fun b o e => Heap.get?_push_of_some _ e
  have hu : (h2.push (kxs_mw "ValueError.__init__" x)).get? h2.objs.size = some (kxs_mw "ValueError.__init__" x) := Heap.get?_push_at rfl rfl
  have he' : starEach [.Constant (.str m) j p4] env = (false, eval (.Constant (.str m) j p4) env) :: starEach [] env := by rfl
  have hspl : ∀ {Q : List Value → Shared → Prop} {E : Value → Shared → Prop} {s1 : Shared}, Q [.str m s1.toks] { s1 with toks := s1.toks + 1 } → wpAny (model prog w) (A.deeper env) (spliced (backTo p5 (starEach [.Constant (.str m) j p4] env))) Q E s1 := fun q =>
    spliced_more (wpAny_Constant_str (spliced_none q)) he'
  show wpAny _ _ (callWith p5 (.ref h2.objs.size) [] (backTo p5 (starEach [.Constant (.str m) j p4] env)) []) _ _ _
  refine kxs_callWith (i := "ValueError.__init__") (x := x) (by rw [he']; rfl) ?_
  rw [he'] at hspl ⊢
  refine evalArgs_plain (hspl ⟨hu, ?_⟩)
  have n1 : [Value.str m (s.toks + [(("self" : Str), Value.ref x), (f, v)].length + 1)].length ≤ sizeLine := by
    rw [sizeLine_eq]
    exact (by decide : 1 ≤ 16777216)
  refine init_super PySem.F.excBase_ValueError (k3 _ _ (k2 _ _ (k _ _ (X _ _ hC)))) hu (k3 _ _ hx₂) n1 (fun h4 k4 hx4 _ => ?_)
  have nL : s.heap.objs.size ≠ x := Nat.ne_of_gt (Heap.lt_size hx)
  have nC : C ≠ x := fun z => hxC z.symm
  have kx : ∀ b o, b ≠ x → s.heap.get? b = some o → h4.get? b = some o := fun b o hb e => k4 b o hb (k3 _ _ (k2 _ _ (k _ _ e)))
  have X₄ : K.In h4 := fun b o e => kx b o (fun z => by rw [z, hnx] at e; cases e) (X b o e)
  obtain ⟨oL, es, ep, hL, r⟩ := hn
  have hn4 : h4.Ns s.heap.objs.size (fun y => ([("self", Value.ref x), (f, v)] : List (Str × Value)).reverse.lookup y) := ⟨oL, es, ep, k4 _ _ nL (k3 _ _ (k2 _ _ hL)), r⟩
  have z1 : s.heap.objs.size < h₁.objs.size := Heap.lt_size hL
  have z4 : s.heap.objs.size < h4.objs.size := Heap.lt_size (k4 _ _ nL (k3 _ _ (k2 _ _ hL)))
  show wpAt _ _ _ (execs [.Assign [.Attribute (.Name "self" p7) f p8] (.Name f p9) p10] env) _ _ _
  refine wpAt_of_wpAny (wpAny_execs_cons (plainObj_wpAny_Assign_Attribute ?_))
  refine wpAny_Name (wpAny_loadName_local hk hkf hn4 l1 ?_) T.db
  refine wpAny_Name (wpAny_loadName_local hk hka hn4 l2 ?_)
  refine set_plain X₄ (ox := excO C _) (od := none) ⟨hx4, rfl, rfl, trivial⟩ T.sa ?_
  refine exc_osa X₄ hx4 hcl (show refsVE (.ref C :: bm) = true from hbm) rfl T.noF (fun h₅ tk₅ dx k₅ dn dne hx₅ hn₅ => ?_)
  show wpAny _ _ (execs _ _) _ _ _
  exact wpAny_execs_nil (hq h₅ tk₅ dx _ ⟨fun b o hb e => k₅ b o hb (kx b o hb e), hx₅, Nat.le_of_lt (Nat.lt_of_lt_of_le z4 dn), dne, hn₅⟩)
structure OwnMade (h h' : Heap) (e C d : Addr) (f : Str) (v : Value) : Prop where
  keep : ∀ b o, h.get? b = some o → h'.get? b = some o
  new : h.objs.size ≤ e
  obj : ∃ oe vs, h'.get? e = some oe ∧ oe.cls = .ref C ∧ oe.dict = some d ∧ oe.data = .fields vs ∧ vs[1]? = some .none
  dbig : h.objs.size ≤ d
  dne : d ≠ e
  ns : h'.Ns1 d (fun y => if y = f then some v else none)
theorem one_size (v : Value) : [v].length ≤ sizeLine := by
  rw [sizeLine_eq]
  exact (by decide : 1 ≤ 16777216)
theorem sup_made (T : SupTxt prog K mg C fI m f) {v : Value} (X : K.In s.heap) (G : s.heap.Ns mainGlobals mg) (B : s.heap.Ns builtinsNs mb) (hmb : ∀ y : Str, y ≠ "__name__" → mb y = bootBuiltins y) (hlim : s.heap.NoLimit) (hroom : A.depth + 1 < recursionLimit)
    (hq : ∀ h' tk e d, OwnMade s.heap h' e C d f v → R (.ok (.ret (.ref e))) { s with heap := h', toks := tk }) :
    codeAny (model prog w) A (.call (.ref C) ⟨[v], []⟩) R s := by
  obtain ⟨nm, q, N, bs, bm, sn, sub, ab, col, dd, k0, k1, k2, k3, k5, hC, hbm⟩ := T.cls
  obtain ⟨hp, g, dr, tk, os⟩ := s
  have k : ∀ b o, hp.get? b = some o → ((hp.push (kdv_tup [v])).push (excO C hp.objs.size)).get? b = some o := fun b o e => Heap.get?_push_of_some _ (Heap.get?_push_of_some _ e)
  have hget : ((hp.push (kdv_tup [v])).push (excO C hp.objs.size)).get? (hp.objs.size + 1) = some (excO C hp.objs.size) := by heap_get
  have hnx : K.lookup (hp.objs.size + 1) = none := by
    cases e : K.lookup (hp.objs.size + 1) with
    | none => rfl
    | some o =>
      have z : hp.get? (hp.objs.size + 1) = some o := X _ _ e
      exact absurd (Nat.lt_of_succ_lt (Heap.lt_size z)) (Nat.lt_irrefl _)
  refine call_own F.excBase_ValueError (fun X => refsVE_contains X bm hbm) (X _ _ hC) (looks_findIn X T.iC) (fun self => bind_fn X self T.tI) (one_size v) ?_
  refine sup_init (s := ⟨(hp.push (kdv_tup [v])).push (excO C hp.objs.size), g, dr, tk, os⟩) T (X.keeps k) (G.keeps k) (B.keeps k) hmb (hlim.keeps k) hget hnx ?_ fun h' tk' dx t1 ⟨k', hx, dn, dne, hns⟩ => ?_
  · show A.depth + 1 < recursionLimit
    exact hroom
  · have old : ∀ b o, hp.get? b = some o → h'.get? b = some o := fun b o e => k' b o (Nat.ne_of_lt (Nat.lt_succ_of_lt (Heap.lt_size e))) (k b o e)
    have z : hp.objs.size + 1 + 1 ≤ dx := by
      first
        | (simpa only [Heap.size_push] using dn)
        | exact dn
        | (have q := dn; rw [Heap.size_push, Heap.size_push] at q; exact q)
    exact ⟨rfl, hq h' tk' (hp.objs.size + 1) dx ⟨old, Nat.le_succ _, ⟨_, _, hx, rfl, rfl, rfl, rfl⟩, Nat.le_trans (Nat.le_trans (Nat.le_succ _) (Nat.le_succ _)) z, dne, hns⟩⟩
end
end PDX
end PySem
namespace PD
open PySem PySem.Spec L2
theorem relO_one {v : V} {v' : Value} {n : Str} (r : RelV v v') (f : Str) : RelO (List.lookup f [(n, v)]) (if f = n then some v' else none) := by
  by_cases hw : f = n
  · subst hw
    rw [if_pos rfl]
    have q : List.lookup f [(f, v)] = some v := by simp [List.lookup]
    rw [q]
    exact r
  · rw [if_neg hw]
    have qw : (f == n) = false := by simpa using hw
    have q2 : List.lookup f [(n, v)] = none := by simp [List.lookup, qw]
    rw [q2]
    trivial
section
variable {X : Cx} {C fI : Addr} {m n : Str}
/-- C(e) -/
def tMkSup (C : Addr) (n : Str) (ta : TA) : St → Hp → XK → Prop := fun σ H Q => ta σ H fun vs H1 => ∃ v, vs = [v] ∧ ∀ d, H1 d = none → Q (.ref C) (some d) (upd H1 d (.xd [(n, v)]))
theorem pmk_sup {x : Str} {a : Expr} {ta : TA} {p pos : Pos} {k : Nat} (T : PySem.PDX.SupTxt X.prog X.K X.mg C fI m n) (gC : X.mg x = some (.ref C)) (hr : Room k X.A) (hk : 1 ≤ k) (ha : PA X [a] ta) (hg : Gl X x := by rfl) (hdb : (x == ("__debug__" : Str)) = false := by decide)
    (he : starEach (a :: []) X.env = (false, eval a X.env) :: starEach [] X.env := by rfl) (hpl : (backTo pos (starEach [] X.env)).any (·.1) = false := by rfl) :
    PMk X (.Call (.Name x p) [a] [] pos) (tMkSup C n ta) := by
  intro pins s σ H Q I h
  refine PySem.wpAny_Call_Name_kw (ld_glob I hg gC ?_ hdb)
  refine PySem.W.callWith_K (h₀ := X.base) I.ok.mod.kin T.kC (thn (ha.run pos pins s σ H _ I h) fun us s1 hh => ?_) he hpl
  obtain ⟨vs, H1, I1, r1, v, ev, q1⟩ := hh
  subst ev
  refine ⟨I1.kIn, ?_⟩
  cases r1 with
  | cons rv rn =>
    rename_i v' us'
    cases rn
    show wpAny _ _ (call (.ref C) [v']) _ _ _
    have hlim := I1.nolimit
    obtain ⟨mb, hB, hmb⟩ := I1.mod.blt
    have hB1 := hB.keeps I1.bk
    have hG1 := I1.mod.glob.keeps I1.bk
    obtain ⟨hp, g, dr, tk, os⟩ := s1
    refine wpAny_call (PySem.PDX.sup_made T I1.kIn hG1 hB1 hmb hlim (by have := hr.dp; omega) fun h' tk' e d M => ?_)
    show MkP X pins σ Q (.ref e) ⟨h', g, dr, tk', os⟩
    obtain ⟨oe, fv, hoe, hc, hd, hdat, h1⟩ := M.obj
    have hns := M.ns
    obtain ⟨G', g1, g2⟩ := restrict h' fun b => decide (b ≠ e)
    have gk : ∀ b, b ≠ e → G'.get? b = h'.get? b := fun b hb => g1 b (decide_eq_true hb)
    have ge : G'.get? e = none := g2 e (by simp)
    have old : ∀ b o, hp.get? b = some o → G'.get? b = some o := fun b o q => (gk b (Nat.ne_of_lt (Nat.lt_of_lt_of_le (Heap.lt_size q) M.new))).trans (M.keep b o q)
    have ob : ObjOk X.prog X.w (upd H1 d (.xd [(n, v)])) G' d (.xd [(n, v)]) :=
      ⟨_, hns.at (fun o q => (gk d M.dne).trans q), fun f => relO_one rv f⟩
    have J : Inv X pins σ (upd H1 d (.xd [(n, v)])) ⟨G', g, dr, tk', os⟩ := I1.laid (t' := tk') old M.dbig ob
    refine ⟨e, oe, fv, ⟨G', g, dr, tk', os⟩, _, .ref C, some d, rfl, J, fun b o q => ?_, ge, hoe, ⟨hc, hd⟩, hdat, h1, ?_, rfl, I1.bare, raises_own T.exC T.tyC, q1 d (I1.hok.fresh M.dbig)⟩
    · by_cases hb : b = e
      · have q' : G'.get? b = some o := q
        rw [hb, ge] at q'; cases q'
      · exact (gk b hb).symm.trans q
    · rw [upd_ne (Ne.symm M.dne)]
      exact I1.hok.fresh M.new
end

/-! ### raise, as a rule -/
section
variable {X : Cx} {Wx : WX} {S : Sx}
def fRaise1 (x n : Str) (f : En → Res (List D)) : En → Fl := fun ρ => (f ρ).fl fun ds ρ1 => match ds with | [d] => .exc ⟨x, [(n, d)]⟩ ρ1 | _ => .bad
theorem sj_raise1 {C fI : Addr} {m n x : Str} {a : Expr} {fa : En → Res (List D)} {p pos pos2 : Pos} {k : Nat} (hc : X.calm = true) (tk : Takes X Wx) (T : PySem.PDX.SupTxt X.prog X.K X.mg C fI m n) (gC : X.mg x = some (.ref C)) (nC : PySem.W.nsIn X.K mainGlobals x = some (some (.ref C))) (hr : Room k X.A) (hk : 1 ≤ k) (ha : AJ X Wx S [a] fa) (hg : Gl X x := by rfl) (hdb : (x == ("__debug__" : Str)) = false := by decide)
    (he : starEach (a :: []) X.env = (false, eval a X.env) :: starEach [] X.env := by rfl) (hpl : (backTo pos (starEach [] X.env)).any (·.1) = false := by rfl) :
    SJ X Wx S (.Raise (some (.Call (.Name x p) [a] [] pos)) none pos2) (fRaise1 x n fa) := by
  obtain ⟨t, pa, qa⟩ := ha.ex
  refine ⟨_, ps_raise hc tk (pmk_sup T gC hr hk pa hg hdb he hpl), fun B F0 F H σ ρ E st post => ?_⟩
  refine qa B F0 F H σ ρ _ st ?_
  unfold fRaise1 at post
  cases e : fa ρ with
  | bad => rw [e] at post; exact post
  | exc x ρ1 => rw [e] at post; exact fun cls dd F' H' st' s rx => post cls dd σ F' H' st' s rx
  | ok ds ρ1 =>
    rw [e] at post
    intro vs F' H' st' sm rv
    match ds, rv, post with
    | [], _, post => exact post.elim
    | _ :: _ :: _, _, post => exact post.elim
    | [d], .cons rv .nil, post =>
      refine ⟨_, rfl, fun dd hdd => post (.ref C) (some dd) σ (upd F' dd (.xd [(n, _)])) _ (st'.ext (Ext.laid st'.fz.fH hdd)) (sm.trans (same_upd (none_of_same st'.fz.fH hdd))) ⟨⟨C, nC, rfl⟩, .inr ⟨dd, _, rfl, upd_same, ?_⟩⟩⟩
      exact .cons (rv.mono (same_upd (none_of_same st'.fz.fH hdd))) .nil
end
end PD
set_option Elab.async false
set_option linter.all false
set_option maxRecDepth 100000
set_option maxHeartbeats 4000000
/-! PDX1: try, except X as e, the suite: e.f, isinstance(e, C); raise of a class without fields. -/
namespace PD
open PySem PySem.Spec L2

def unX : Sl → Sl
  | .ex _ => .un
  | s => s
def noX (ρ : En) : En := ρ.map unX
theorem noX_d {ρ : En} {i : Nat} {d : D} (h : (noX ρ)[i]? = some (.d d)) : ρ[i]? = some (.d d) := by
  unfold noX at h
  rw [List.getElem?_map] at h
  cases e : ρ[i]? with
  | none => rw [e] at h; cases h
  | some s =>
    rw [e] at h
    cases s <;> simp [unX] at h
    rw [h]
theorem noX_own {ρ : En} {i : Nat} {d : List D} (h : (noX ρ)[i]? = some (.own d)) : ρ[i]? = some (.own d) := by
  unfold noX at h
  rw [List.getElem?_map] at h
  cases e : ρ[i]? with
  | none => rw [e] at h; cases h
  | some s =>
    rw [e] at h
    cases s <;> simp [unX] at h
    rw [h]
theorem noX_mt {ρ : En} {i : Nat} {d : M} (h : (noX ρ)[i]? = some (.mt d)) : ρ[i]? = some (.mt d) := by
  unfold noX at h
  rw [List.getElem?_map] at h
  cases e : ρ[i]? with
  | none => rw [e] at h; cases h
  | some s =>
    rw [e] at h
    cases s <;> simp [unX] at h
    rw [h]
theorem noX_ln {ρ : En} {i : Nat} {d : List D} (h : (noX ρ)[i]? = some (.ln d)) : ρ[i]? = some (.ln d) := by
  unfold noX at h
  rw [List.getElem?_map] at h
  cases e : ρ[i]? with
  | none => rw [e] at h; cases h
  | some s =>
    rw [e] at h
    cases s <;> simp [unX] at h
    rw [h]
theorem noX_ex {ρ : En} {i : Nat} {d : Exc} (h : (noX ρ)[i]? = some (.ex d)) : False := by
  unfold noX at h
  rw [List.getElem?_map] at h
  cases e : ρ[i]? with
  | none => rw [e] at h; cases h
  | some s =>
    rw [e] at h
    cases s <;> simp [unX] at h
section
variable {K : PySem.W.Frag} {S S' : Sx} {B F0 F H : Hp} {σ : St} {ρ : En}
theorem St2.noX (hL : S'.L = S.L) (hm : S'.me = S.me) (s : St2 ⟨K, S, B, F0⟩ F H σ ρ) : St2 ⟨K, S', B, F0⟩ F H σ (noX ρ) where
  fz := ⟨s.fz.f01, s.fz.fH, s.fz.bH, s.fz.new, by show Same S'.L B; rw [hL]; exact s.fz.lB⟩
  len := by
    have := s.len
    unfold PD.noX
    rw [List.length_map]
    exact this
  atD := fun i d h => s.atD i d (noX_d h)
  atO := fun i d h => s.atO i d (noX_own h)
  atX := fun i d h => (noX_ex h).elim
  dis := fun i j p xs ys hij h1 h2 => s.dis i j p xs ys hij (noX_own h1) (noX_own h2)
  atM := fun i m h => by
    obtain ⟨v, ps, h1, h2, h3, h4, h5⟩ := s.atM i m (noX_mt h)
    exact ⟨v, ps, h1, h2, h3, h4, fun j xs q hj hq => h5 j xs q (noX_own hj) hq⟩
  oneM := fun i j m n h1 h2 => s.oneM i j m n (noX_mt h1) (noX_mt h2)
  atL := fun i xs h => by
    have := s.atL i xs (noX_ln h)
    show ∃ p vs, σ[i]? = some (some (.ref p)) ∧ SqL K S'.L p vs ∧ RepL K F vs xs
    rw [hL]
    exact this
  pin := fun v m e h => s.pin v m (by rw [← hm]; exact e) (noX_mt h)
theorem St2.storeX {i : Nat} {a : Addr} {cls : Value} {dd : Option Addr} {x : Exc} (s : St2 ⟨K, S.suite a cls dd, B, F0⟩ F H σ ρ) (hi : i < ρ.length) (r : RepX K F cls dd x) : St2 ⟨K, S.suite a cls dd, B, F0⟩ F H (σ.set i (some (.ref a))) (ρ.set i (.ex x)) where
  fz := s.fz
  len := by rw [List.length_set, List.length_set]; exact s.len
  atD := fun j e hj => by
    by_cases hij : i = j
    · subst hij
      rw [List.getElem?_set_self hi] at hj
      cases hj
    · rw [List.getElem?_set_ne hij] at hj ⊢
      exact s.atD j e hj
  atO := fun j e hj => by
    by_cases hij : i = j
    · subst hij
      rw [List.getElem?_set_self hi] at hj
      cases hj
    · rw [List.getElem?_set_ne hij] at hj ⊢
      exact s.atO j e hj
  atX := fun j e hj => by
    by_cases hij : i = j
    · subst hij
      rw [List.getElem?_set_self hi] at hj
      cases hj
      exact ⟨List.getElem?_set_self (by rw [s.len]; exact hi), r⟩
    · rw [List.getElem?_set_ne hij] at hj ⊢
      exact s.atX j e hj
  dis := fun a b p xs ys hab h1 h2 h3 => by
    by_cases ha : i = a
    · subst ha
      rw [List.getElem?_set_self hi] at h1
      cases h1
    · by_cases hb : i = b
      · subst hb
        rw [List.getElem?_set_self hi] at h2
        cases h2
      · rw [List.getElem?_set_ne ha] at h1 h3
        rw [List.getElem?_set_ne hb] at h2 ⊢
        exact s.dis a b p xs ys hab h1 h2 h3
  atM := s.keepM (fun j m h => by
      obtain ⟨h1, h2⟩ := set_inv h (by intro z; cases z)
      exact ⟨h2, List.getElem?_set_ne h1⟩) fun j xs q h hq => by
      obtain ⟨h1, h2⟩ := set_inv h (by intro z; cases z)
      rw [List.getElem?_set_ne h1] at hq
      exact .inl ⟨⟨xs, h2⟩, hq⟩
  oneM := fun a b m n h1 h2 => s.oneM a b m n (set_inv h1 (by intro z; cases z)).2 (set_inv h2 (by intro z; cases z)).2
  atL := s.keepL fun j m h => ⟨(set_inv h (fun z => by cases z)).2, List.getElem?_set_ne (set_inv h (fun z => by cases z)).1⟩
  pin := s.keepP fun j m h => ⟨(set_inv h (fun z => by cases z)).2, List.getElem?_set_ne (set_inv h (fun z => by cases z)).1⟩
theorem St2.unset {Z : Fx} (i : Nat) (s : St2 Z F H σ ρ) : St2 Z F H (σ.set i none) (ρ.set i .un) where
  fz := s.fz
  len := by rw [List.length_set, List.length_set]; exact s.len
  atD := fun j e hj => by
    by_cases hij : i = j
    · subst hij
      rw [List.getElem?_set] at hj
      simp only [↓reduceIte] at hj
      split at hj <;> cases hj
    · rw [List.getElem?_set_ne hij] at hj ⊢
      exact s.atD j e hj
  atO := fun j e hj => by
    by_cases hij : i = j
    · subst hij
      rw [List.getElem?_set] at hj
      simp only [↓reduceIte] at hj
      split at hj <;> cases hj
    · rw [List.getElem?_set_ne hij] at hj ⊢
      exact s.atO j e hj
  atX := fun j e hj => by
    by_cases hij : i = j
    · subst hij
      rw [List.getElem?_set] at hj
      simp only [↓reduceIte] at hj
      split at hj <;> cases hj
    · rw [List.getElem?_set_ne hij] at hj ⊢
      exact s.atX j e hj
  dis := fun a b p xs ys hab h1 h2 h3 => by
    by_cases ha : i = a
    · subst ha
      rw [List.getElem?_set] at h1
      simp only [↓reduceIte] at h1
      split at h1 <;> cases h1
    · by_cases hb : i = b
      · subst hb
        rw [List.getElem?_set] at h2
        simp only [↓reduceIte] at h2
        split at h2 <;> cases h2
      · rw [List.getElem?_set_ne ha] at h1 h3
        rw [List.getElem?_set_ne hb] at h2 ⊢
        exact s.dis a b p xs ys hab h1 h2 h3
  atM := s.keepM (fun j m h => by
      obtain ⟨h1, h2⟩ := set_inv h (by intro z; cases z)
      exact ⟨h2, List.getElem?_set_ne h1⟩) fun j xs q h hq => by
      obtain ⟨h1, h2⟩ := set_inv h (by intro z; cases z)
      rw [List.getElem?_set_ne h1] at hq
      exact .inl ⟨⟨xs, h2⟩, hq⟩
  oneM := fun a b m n h1 h2 => s.oneM a b m n (set_inv h1 (by intro z; cases z)).2 (set_inv h2 (by intro z; cases z)).2
  atL := s.keepL fun j m h => ⟨(set_inv h (fun z => by cases z)).2, List.getElem?_set_ne (set_inv h (fun z => by cases z)).1⟩
  pin := s.keepP fun j m h => ⟨(set_inv h (fun z => by cases z)).2, List.getElem?_set_ne (set_inv h (fun z => by cases z)).1⟩
end
/-- behind a suite -/
def Fl.out (i : Nat) : Fl → Fl
  | .nx ρ => .nx ((noX ρ).set i .un)
  | .bk ρ => .bk ((noX ρ).set i .un)
  | .ct ρ => .ct ((noX ρ).set i .un)
  | .rt d => .rt d
  | _ => .bad
def fTry (i : Nat) (tbl : Str → Option Bool) (f g : En → Fl) : En → Fl := fun ρ => match f ρ with
  | .exc x ρ1 => match tbl x.n with
    | some true => if i < ρ1.length then (g ((noX ρ1).set i (.ex x))).out i else .bad
    | some false => .exc x ρ1
    | none => .bad
  | r => r
/-- what an except clause's class says of the classes that come -/
def ExT (K : PySem.W.Frag) (c : Value) (tbl : Str → Option Bool) : Prop := ∀ n b, tbl n = some b → ∀ C, PySem.W.nsIn K mainGlobals n = some (some (.ref C)) → PySem.W.exmOne K (.ref C) c = some b
abbrev WF : WX := fun _ _ _ _ => False
section
variable {X : Cx} {Wx : WX} {S : Sx}
theorem sj_try {x n : Str} {c : Value} {i : Nat} {body suite : List Stmt} {b₀ : Stmt} {np pos pos' : Pos} {tbl : Str → Option Bool} {f g : En → Fl} (tk : Takes X Wx) (hc : Names X x c) (ht : ExT X.K c tbl)
    (hb : ∀ (W : WX) (pn : List (Addr × Obj)) (xe : Value → Shared → Prop), Takes (X.tr pn xe) W → PassesOwn (model X.prog X.w) X.A X.env xe → BJ (X.tr pn xe) W S body f)
    (hsu : ∀ (a : Addr) (oe : Obj) (cls : Value) (d : Option Addr) (pn : List (Addr × Obj)), Zc cls d oe → (∃ vs, oe.data = .fields vs) → BJ (X.suite a ((a, oe) :: pn)) WF (S.suite a cls d) (b₀ :: suite) g)
    (hN : X.N.Nodup) (hi : X.N[i]? = some n := by rfl) (hs : X.stack = X.env :: X.outer := by rfl) (hf : X.env.frame = some X.env.locals := by rfl) (hln : X.env.kindOf n = some .local := by rfl) :
    SJ X Wx S (.Try body [.ExceptHandler (some (.Name x np)) (some n) (b₀ :: suite) pos'] [] [] pos) (fTry i tbl f g) := by
  have hb' := fun W pn xe tk po => (hb W pn xe tk po).ex
  have hsu' := fun a oe cls d pn hz hf => (hsu a oe cls d pn hz hf).ex
  let tb : WX → TS := fun W E σ H => ∀ pn xe tk po, Classical.choose (hb' W pn xe tk po) E σ H
  let ts : Addr → Value → Option Addr → TS := fun a cls d E σ H => ∀ oe pn hz hf, Classical.choose (hsu' a oe cls d pn hz hf) E σ H
  refine ⟨_, ps_try_as (i := i) (tb := tb) (ts := ts) (Wout := Wx) hs hf hN hi hln hc tk (fun W pn xe tk po => ⟨fun pins s σ H D I h => (Classical.choose_spec (hb' W pn xe tk po)).1.run pins s σ H D I (h pn xe tk po)⟩)
    (fun a oe cls d pn hz hf => ⟨fun pins s σ H D I h => (Classical.choose_spec (hsu' a oe cls d pn hz hf)).1.run pins s σ H D I (h oe pn hz hf)⟩), fun B F0 F H σ ρ E st post => ?_⟩
  intro pn xe tk' po
  refine (Classical.choose_spec (hb' _ pn xe tk' po)).2 B F0 F H σ ρ E st ?_
  unfold fTry at post
  cases ef : f ρ with
  | bad => rw [ef] at post; exact post
  | nx ρ1 => rw [ef] at post; exact post
  | rt d => rw [ef] at post; exact post
  | bk ρ1 => rw [ef] at post; exact post
  | ct ρ1 => rw [ef] at post; exact post
  | exc x1 ρ1 =>
    rw [ef] at post
    replace post : SPost (fx X S B F0) Wx F (match tbl x1.n with
      | some true => if i < ρ1.length then (g ((noX ρ1).set i (.ex x1))).out i else .bad
      | some false => .exc x1 ρ1
      | none => .bad) E := post
    cases et : tbl x1.n with
    | none => rw [et] at post; exact post.elim
    | some b =>
      rw [et] at post
      intro cls dd σ' F' H' st' sm rx
      obtain ⟨⟨C, hC, rfl⟩, rx2⟩ := id rx
      refine ⟨b, ht _ _ et C hC, fun hbt a na => ?_, fun hbf => ?_⟩
      · subst hbt
        replace post : SPost (fx X S B F0) Wx F (if i < ρ1.length then (g ((noX ρ1).set i (.ex x1))).out i else .bad) E := post
        split at post
        · rename_i hil
          intro oe pn2 hz hf2
          have st2 : St2 (fx X (S.suite a (.ref C) dd) B F0) F' H' σ' (noX ρ1) := St2.noX (S := S) (S' := (S.suite a (.ref C) dd)) rfl rfl st'
          have hl : i < (noX ρ1).length := by unfold noX; rw [List.length_map]; exact hil
          have st3 := St2.storeX st2 hl rx
          refine (Classical.choose_spec (hsu' a oe (.ref C) dd pn2 hz hf2)).2 B F0 F' H' _ _ _ st3 ?_
          have hm : SPost (fx X S B F0) Wx F ((g ((noX ρ1).set i (.ex x1))).out i) E := post
          cases eg : g ((noX ρ1).set i (.ex x1)) with
          | bad => rw [eg] at hm; exact hm.elim
          | exc x2 ρ2 => rw [eg] at hm; exact hm.elim
          | nx ρ2 =>
            rw [eg] at hm
            exact fun σ2 F2 H2 st4 s4 => hm _ F2 H2 ((St2.noX (S := S.suite a (.ref C) dd) (S' := S) rfl rfl st4).unset i) (sm.trans s4)
          | bk ρ2 =>
            rw [eg] at hm
            exact fun σ2 F2 H2 st4 s4 => hm _ F2 H2 ((St2.noX (S := S.suite a (.ref C) dd) (S' := S) rfl rfl st4).unset i) (sm.trans s4)
          | ct ρ2 =>
            rw [eg] at hm
            exact fun σ2 F2 H2 st4 s4 => hm _ F2 H2 ((St2.noX (S := S.suite a (.ref C) dd) (S' := S) rfl rfl st4).unset i) (sm.trans s4)
          | rt d =>
            rw [eg] at hm
            exact fun v F2 H2 z rv => hm v F2 H2 ⟨z.f01, z.fH, z.bH, z.new, z.lB⟩ rv
        · exact post.elim
      · subst hbf
        exact post (.ref C) dd σ' F' H' st' sm rx

/-! ### in the suite -/
/-- e.f -/
def fXf (i : Nat) (okn : Str → Bool) (f : Str) : En → Res D := fun ρ => match ρ[i]? with
  | some (.ex x) => if okn x.n = true then ofO (x.fs.lookup f) ρ else .bad
  | _ => .bad
def XfT (K : PySem.W.Frag) (okn : Str → Bool) (f : Str) : Prop := ∀ n, okn n = true → ∀ C, PySem.W.nsIn K mainGlobals n = some (some (.ref C)) → XfC K C ∧ PySem.W.findIn K (.ref C) f = some none
theorem repF_lookup {K : PySem.W.Frag} {F : Hp} {f : Str} : ∀ {fs : List (Str × V)} {ds : List (Str × D)}, RepF K F fs ds → ∀ {d : D}, ds.lookup f = some d → ∃ v, fs.lookup f = some v ∧ Rep K F v d
  | _, _, .nil, d, h => by cases h
  | _, _, @RepF.cons _ _ g v e vs ds h r, d, l => by
    by_cases hg : f = g
    · subst hg
      simp [List.lookup] at l
      subst l
      exact ⟨v, by simp [List.lookup], h⟩
    · have hb : (f == g) = false := by simpa using hg
      simp only [List.lookup, hb] at l ⊢
      exact repF_lookup r l
section
variable {a : Addr} {oe : Obj} {cls : Value} {dd : Option Addr} {pn : List (Addr × Obj)}
theorem ej_xf (i : Nat) {okn : Str → Bool} {f n : Str} {p pos : Pos} (T : XfT X.K okn f) (hz : Zc cls dd oe) (hf : ∃ vs, oe.data = .fields vs) (hN : X.N[i]? = some n := by rfl) (hv : Vis X.env.scope n := by first | exact Or.inl rfl | exact Or.inr (Or.inl rfl) | exact Or.inr (Or.inr rfl))
    (hd : (n == ("__debug__" : Str)) = false := by decide) (hcd : (n == ("__classdict__" : Str)) = false := by decide) (hb : attributeBase (.Name n p) f X.env (eval (.Name n p) X.env) = eval (.Name n p) X.env := by rfl) :
    EJ (X.suite a ((a, oe) :: pn)) Wx (S.suite a cls dd) (.Attribute (.Name n p) f pos) (fXf i okn f) := by
  let t : TE := fun σ H Q => ∃ C, (XfC X.K C ∧ PySem.W.findIn X.K (.ref C) f = some none) ∧ tXf a cls dd C f (tVar i) σ H Q
  refine ⟨t, ⟨fun pins s σ H Q I ⟨C, ⟨h1, h2⟩, h3⟩ => (pe_xf h1 h2 hz hf (pe_var (X := X.suite a ((a, oe) :: pn)) hN hv hd hcd) hb).run pins s σ H Q I h3⟩, fun B F0 F H σ ρ Q st post => ?_⟩
  unfold fXf at post
  split at post
  · rename_i x e
    split at post
    · rename_i hk
      obtain ⟨d, hd2, k⟩ := post.ofO
      obtain ⟨h1, ⟨C, hC, hcls⟩, h2⟩ := st.atX i x e
      rcases h2 with ⟨_, h2⟩ | ⟨da, fs, h2, h3, h4⟩
      · rw [h2] at hd2
        cases hd2
      · obtain ⟨v, l, rv⟩ := repF_lookup h4 hd2
        exact ⟨C, T _ hk C hC, .ref a, h1, rfl, hcls, da, fs, v, h2, st.fz.fH _ _ h3, l, k v F H st (Same.refl _) rv⟩
    · exact post.elim
  · exact post.elim
/-- isinstance(e, C) -/
def fIsE (i : Nat) (tbl : Str → Option Bool) : En → Res D := fun ρ => match ρ[i]? with
  | some (.ex x) => ofO ((tbl x.n).map D.bl) ρ
  | _ => .bad
def IsT (K : PySem.W.Frag) (c : Value) (tbl : Str → Option Bool) : Prop := ∀ n b, tbl n = some b → ∀ C, PySem.W.nsIn K mainGlobals n = some (some (.ref C)) → ExcC K C ∧ PySem.W.kitOne K (.ref C) c = some b
def rIsX (K : PySem.W.Frag) (a : Addr) (cls : Value) (cv : Value) : List V → Hp → VK → Prop := fun xs H Q => ∃ (C : Addr) (dd' : Option Addr) (c : V) (b : Bool), cls = .ref C ∧ ExcC K C ∧ xs = [.ref a, c] ∧ (∀ u, RelV c u → u = cv) ∧ PySem.W.kitOne K (.ref C) cv = some b ∧ Q (.bl b) H
theorem call_isX {cv : Value} (hz : Zc cls dd oe) (hf : ∃ vs, oe.data = .fields vs) (hdd : ∀ d, dd = some d → True) : CallR (X.suite a ((a, oe) :: pn)) (.builtin "isinstance") (fun xs H Q => (dd = none ∨ ∃ d fs, dd = some d ∧ H d = some (.xd fs)) ∧ rIsX X.K a cls cv xs H Q) := by
  intro pins s σ H xs us Q I r h
  obtain ⟨hdict, C, dd', c, b, ec, T, rfl, hcv, e, q⟩ := h
  subst ec
  cases r with
  | cons rx rr =>
    cases rr with
    | cons rt rr =>
      cases rr
      cases rx
      have ec := hcv _ rt
      subst ec
      obtain ⟨hget, _⟩ := I.pin (a, oe) (List.mem_append.mpr (.inl List.mem_cons_self))
      obtain ⟨vs, hv⟩ := hf
      have J : ∃ od, PySem.W.InstAt s.heap a oe C od := by
        obtain ⟨oc, od, oda, osl⟩ := oe
        obtain ⟨h1, h2⟩ := hz
        dsimp only at h1 h2 hv
        subst h1 h2 hv
        rcases hdict with h | ⟨d, fs, h, hd⟩
        · subst h
          exact ⟨none, hget, rfl, rfl, trivial⟩
        · subst h
          have hx : ObjOk X.prog X.w H s.heap d (.xd fs) := I.hok d _ hd
          obtain ⟨mA, ⟨o, _, _, ho, _⟩, _⟩ := hx
          exact ⟨some o, hget, rfl, rfl, ho⟩
      obtain ⟨od, J⟩ := J
      obtain ⟨cdD, hcD, _⟩ := PySem.W.any_some T.hd
      exact PySem.W.kia_one (PySem.W.kitx_exc (by rw [hcD]; rfl) T.hg T.hk T.hs T.ha T.hn T.ht T.hm) I.kIn J e (fun z => nomatch z) fun tk => ⟨.bl b, H, I.kept (t' := tk) fun _ _ z => z, rfl, q⟩
theorem ej_isE (i : Nat) {tbl : Str → Option Bool} {n cn : Str} {c : V} {cv : Value} {p p1 p2 pos : Pos} (T : IsT X.K cv tbl) (hm : X.mg "isinstance" = none) (hz : Zc cls dd oe) (hf : ∃ vs, oe.data = .fields vs) (hc : PE (X.suite a ((a, oe) :: pn)) (.Name cn p2) (tC c)) (hcv : ∀ u, RelV c u → u = cv) (hN : X.N[i]? = some n := by rfl) (hv : Vis X.env.scope n := by first | exact Or.inl rfl | exact Or.inr (Or.inl rfl) | exact Or.inr (Or.inr rfl))
    (hd : (n == ("__debug__" : Str)) = false := by decide) (hcd : (n == ("__classdict__" : Str)) = false := by decide) (hg : Gl X "isinstance" := by rfl)
    (he : starEach [.Name n p1, .Name cn p2] X.env = (false, eval (.Name n p1) X.env) :: starEach [.Name cn p2] X.env := by rfl) (he2 : starEach [.Name cn p2] X.env = (false, eval (.Name cn p2) X.env) :: starEach [] X.env := by rfl) (hpl : (backTo pos (starEach [.Name cn p2] X.env)).any (·.1) = false := by rfl) :
    EJ (X.suite a ((a, oe) :: pn)) Wx (S.suite a cls dd) (.Call (.Name "isinstance" p) [.Name n p1, .Name cn p2] [] pos) (fIsE i tbl) := by
  refine ⟨_, pe_callB (X := X.suite a ((a, oe) :: pn)) (call_isX (cv := cv) hz hf (fun _ _ => trivial)) hg hm PyProof.Rows.boot_isinstance (pa_cons (pe_var (X := X.suite a ((a, oe) :: pn)) hN hv hd hcd) (pa_cons hc pa_nil he2) he) (by decide) (by decide) he hpl, fun B F0 F H σ ρ Q st post => ?_⟩
  unfold fIsE at post
  split at post
  · rename_i x e
    obtain ⟨d, hd2, k⟩ := post.ofO
    obtain ⟨h1, ⟨C, hC, hcls⟩, h2⟩ := st.atX i x e
    cases et : tbl x.n with
    | none => rw [et] at hd2; cases hd2
    | some b =>
      rw [et] at hd2
      cases hd2
      obtain ⟨t1, t2⟩ := T _ _ et C hC
      refine ⟨.ref a, h1, ?_⟩
      refine ⟨?_, C, dd, c, b, hcls, t1, rfl, hcv, t2, k _ F H st (Same.refl _) (.bl b)⟩
      rcases h2 with ⟨h2, _⟩ | ⟨da, fs, h2, h3, _⟩
      · exact .inl h2
      · exact .inr ⟨da, fs, h2, st.fz.fH _ _ h3⟩
  · exact post.elim
end
end
end PD
set_option Elab.async false
set_option linter.all false
set_option maxRecDepth 100000
set_option maxHeartbeats 4000000
/-! PDF: minus, chains of comparisons; a def with defaults; what is taken and passed on. -/
namespace PD
open PySem PySem.Spec L2
section
variable {X : Cx} {Wx : WX} {S : Sx}
def negD : D → Option D
  | .int i => some (.int (-i))
  | _ => none
def fUn (g : D → Option D) (f : En → Res D) : En → Res D := fun ρ => (f ρ).bind fun d ρ1 => ofO (g d) ρ1
theorem ej_neg {a : Expr} {pos : Pos} {f : En → Res D} (ha : EJ X Wx S a f) : EJ X Wx S (.UnaryOp .USub a pos) (fUn negD f) := by
  obtain ⟨t, pa, qa⟩ := ha.ex
  refine ⟨_, pe_un un_neg pa, fun B F0 F H σ ρ Q st post => qa B F0 F H σ ρ _ st (post.bind fun d ρ1 v F1 H1 post1 st1 s1 r1 => ?_)⟩
  obtain ⟨z, hz, k⟩ := post1.ofO
  cases r1 <;> (try (cases hz; done))
  rename_i i
  cases hz
  exact ⟨i, rfl, k _ F1 H1 st1 (Same.refl _) (.int _)⟩
/-- a op b op' c, the middle one seen once -/
def fChain (g g' : D → D → Option D) (fa fb fc : En → Res D) : En → Res D := fun ρ => (fa ρ).bind fun x ρ1 => (fb ρ1).bind fun y ρ2 => match g x y with
  | some (.bl true) => (fc ρ2).bind fun z ρ3 => ofO (g' y z) ρ3
  | some (.bl false) => .ok (.bl false) ρ2
  | _ => .bad
def fChainB (g g' : D → D → Option D) (fa fb fc : En → Res D) : En → Res Bool := fun ρ => (fChain g g' fa fb fc ρ).bind fun d ρ1 => ofO (boolD d) ρ1
theorem chain_core {op op' : CmpOp} {g g' : D → D → Option D} {a b c : Expr} {fa fb fc : En → Res D} (ho : OpJ X (compareOp op) g) (ho' : OpJ X (compareOp op') g') (ha : EJ X Wx S a fa) (hb : EJ X Wx S b fb) (hc : EJ X Wx S c fc) :
    ∃ r r' ta tb tc, OpR X (compareOp op) r ∧ OpR X (compareOp op') r' ∧ PE X a ta ∧ PE X b tb ∧ PE X c tc ∧
      ∀ B F0 F H σ ρ Q, St2 (fx X S B F0) F H σ ρ → Post (Rep X.K) (fx X S B F0) Wx σ F (fChain g g' fa fb fc ρ) Q → tChain r r' ta tb tc σ H Q := by
  obtain ⟨r, p, q⟩ := ho
  obtain ⟨r', p', q'⟩ := ho'
  obtain ⟨ta, pa, qa⟩ := ha.ex
  obtain ⟨tb, pb, qb⟩ := hb.ex
  obtain ⟨tc, pc, qc⟩ := hc.ex
  refine ⟨r, r', ta, tb, tc, p, p', pa, pb, pc, fun B F0 F H σ ρ Q st post => ?_⟩
  refine qa B F0 F H σ ρ _ st (post.bind fun x ρ1 v F1 H1 post1 st1 s1 r1 => ?_)
  refine qb B F0 F1 H1 σ ρ1 _ st1 (post1.bind fun y ρ2 u F2 H2 post2 st2 s2 r2 => ?_)
  cases e : g x y with
  | none => rw [e] at post2; exact post2.elim
  | some z =>
    refine q F2 H2 v u x y z _ st2.fz.fH (r1.mono s2) r2 e fun zv F3 H3 ex rz => ?_
    rw [e] at post2
    cases z <;> (try (exact post2.elim))
    rename_i k
    cases rz
    refine ⟨k, rfl, ?_⟩
    cases k with
    | true =>
      rw [if_pos rfl]
      replace post2 : Post (Rep X.K) (fx X S B F0) Wx σ F2 ((fc ρ2).bind fun z ρ3 => ofO (g' y z) ρ3) Q := post2
      refine qc B F0 F3 H3 σ ρ2 _ (st2.ext ex) ((Post.mono post2 ex.ff).bind fun c ρ3 w F4 H4 post4 st4 s4 r4 => ?_)
      obtain ⟨zz, hz, k⟩ := post4.ofO
      exact q' F4 H4 u w y c zz _ st4.fz.fH (r2.mono (ex.ff.trans s4)) r4 hz fun v5 F5 H5 ex5 r5 => k v5 F5 H5 (st4.ext ex5) ex5.ff r5
    | false =>
      rw [if_neg Bool.false_ne_true]
      exact post2 (.bl false) F3 H3 (st2.ext ex) ex.ff (.bl false)
theorem ej_chain {op op' : CmpOp} {g g' : D → D → Option D} {a b c : Expr} {pos : Pos} {fa fb fc : En → Res D} (ho : OpJ X (compareOp op) g) (ho' : OpJ X (compareOp op') g') (ha : EJ X Wx S a fa) (hb : EJ X Wx S b fb) (hc : EJ X Wx S c fc)
    (hm : lastMarks [op, op'] [b, c] = false := by with_unfolding_all rfl) : EJ X Wx S (.Compare a [op, op'] [b, c] pos) (fChain g g' fa fb fc) := by
  obtain ⟨r, r', ta, tb, tc, p, p', pa, pb, pc, k⟩ := chain_core ho ho' ha hb hc
  exact ⟨_, pe_chain p p' pa pb pc hm, k⟩
theorem tj_chain {op op' : CmpOp} {g g' : D → D → Option D} {a b c : Expr} {pos : Pos} {fa fb fc : En → Res D} (ho : OpJ X (compareOp op) g) (ho' : OpJ X (compareOp op') g') (ha : EJ X Wx S a fa) (hb : EJ X Wx S b fb) (hc : EJ X Wx S c fc)
    (hm : lastMarks [op, op'] [b, c] = false := by with_unfolding_all rfl) : TJ X Wx S (.Compare a [op, op'] [b, c] pos) (fChainB g g' fa fb fc) := by
  obtain ⟨r, r', ta, tb, tc, p, p', pa, pb, pc, k⟩ := chain_core ho ho' ha hb hc
  refine ⟨_, pt_chain p p' pa pb pc hm, fun B F0 F H σ ρ Q st post => k B F0 F H σ ρ _ st (post.bind fun d ρ1 v F1 H1 post1 st1 s1 r1 => ?_)⟩
  obtain ⟨z, hz, kk⟩ := post1.ofO
  cases r1 <;> (try (cases hz; done))
  cases hz
  exact ⟨_, rfl, kk _ F1 H1 st1 (Same.refl _) rfl⟩
end
/-! ### defs -/
theorem hu64 {k : Nat} {A : Around} (hr : Room k A) : A.units + 64 < cLine := by
  have := hr.un
  omega
section
variable {P : Program} {w : World} {K : PySem.W.Frag} {mg : Str → Option Value} {base : Heap} {N : List Str} {qual : Str} {sc : Scope} {f : Addr} {cdv : Value} {A : Around} {outer : List Env} {s : Shared} {H : Hp} {E : XK}
theorem takes_cx : Takes (cxOf (L2.CX P w) P w K mg base N qual sc f cdv A outer s H E) (wE E) := takes_of rfl rfl rfl rfl
theorem owns_cx : PassesOwn (model P w) (cxOf (L2.CX P w) P w K mg base N qual sc f cdv A outer s H E).A (cxOf (L2.CX P w) P w K mg base N qual sc f cdv A outer s H E).env (cxOf (L2.CX P w) P w K mg base N qual sc f cdv A outer s H E).xe :=
  passes_of (X := cxOf (L2.CX P w) P w K mg base N qual sc f cdv A outer s H E) (K := fun e s'' => L2.CX P w outer H s E e s'') rfl
end
theorem fnj_ofD {P : Program} {w : World} {K : PySem.W.Frag} {mg : Str → Option Value} {base : Heap} {x qual : Str} {params : Arguments} {bd : List Stmt} {sc : Scope} {dvs : List V} {kws : List (Str × V)} {f : Addr} {fd : FuncData} {N ps : List Str} {k : Nat} {body : En → Fl} (Fn : FunD K x qual params bd sc dvs kws f fd) (Sc : FnScope N ps sc)
    (hb : ∀ (cdv : Value) (A : Around) (outer : List Env) (s : Shared) (H : Hp) (E : XK), Room k (A.deeper (PyProof.Rows.envOfC qual sc s.heap.objs.size f cdv)) →
      BJ (cxOf (L2.CX P w) P w K mg base N qual sc f cdv A outer s H E) (wE E) S0 bd body) : FnJ P w K mg base (k + 1) f fd ps (fnD ps.length N.length body) := by
  refine ⟨Fn.ok Sc (fun vs H Q E h => h.1) fun cdv A outer s H vs Q E hr h => ?_, fun ds h => ?_⟩
  · obtain ⟨hl, F, ds, sF, r, post⟩ := h
    obtain ⟨t, p, q⟩ := (hb cdv A outer s H E hr).ex
    refine ⟨t, p, q H F F H _ _ _ (st2_start (fun _ _ z => by cases z) sF r) ?_⟩
    have hdl : ds.length = ps.length := by rw [← r.length]; exact hl
    unfold fnD at post
    rw [if_pos hdl] at post
    have ext : ∀ {F' H' : Hp}, Fz ⟨K, S0, H, F⟩ F' H' → Ext F H F' H' := fun z => ⟨z.f01, z.fH, z.bH, z.new⟩
    cases e : body (startE N.length ds) with
    | nx ρ =>
      rw [e] at post
      exact fun σ' F' H' st' _ => post .non F' H' (ext st'.fz) .non
    | rt d =>
      rw [e] at post
      exact fun v F' H' z rv => post v F' H' (ext z) rv
    | exc x ρ =>
      rw [e] at post
      exact fun cls dd σ' F' H' st' _ rx => post cls dd F' H' (ext st'.fz) rx
    | bk ρ =>
      rw [e] at post
      exact post.elim
    | ct ρ =>
      rw [e] at post
      exact post.elim
    | bad =>
      rw [e] at post
      exact post.elim
  · unfold fnD at h
    split at h
    · assumption
    · exact absurd rfl h
end PD
set_option Elab.async false
set_option linter.all false
set_option maxRecDepth 100000
set_option maxHeartbeats 4000000
/-! PDZ: the end: tables of classes, the law's head. -/
namespace PD
open PySem PySem.Spec L2
section
variable {K : PySem.W.Frag}
theorem ext_nil {c : Value} : ExT K c (fun n => List.lookup n []) := fun n b h => by cases h
theorem ext_cons {c : Value} {n0 : Str} {b : Bool} {C : Addr} {l : List (Str × Bool)} (h1 : PySem.W.nsIn K mainGlobals n0 = some (some (.ref C))) (h2 : PySem.W.exmOne K (.ref C) c = some b) (h3 : ExT K c (fun n => List.lookup n l)) : ExT K c (fun n => List.lookup n ((n0, b) :: l)) := fun n b' h C' hC => by
  by_cases e : n = n0
  · subst e
    simp [List.lookup] at h
    subst h
    rw [h1] at hC
    cases hC
    exact h2
  · have e' : (n == n0) = false := by simpa using e
    simp only [List.lookup, e'] at h
    exact h3 n b' h C' hC
theorem ist_nil {c : Value} : IsT K c (fun n => List.lookup n []) := fun n b h => by cases h
theorem ist_cons {c : Value} {n0 : Str} {b : Bool} {C : Addr} {l : List (Str × Bool)} (h1 : PySem.W.nsIn K mainGlobals n0 = some (some (.ref C))) (h0 : ExcC K C) (h2 : PySem.W.kitOne K (.ref C) c = some b) (h3 : IsT K c (fun n => List.lookup n l)) : IsT K c (fun n => List.lookup n ((n0, b) :: l)) := fun n b' h C' hC => by
  by_cases e : n = n0
  · subst e
    simp [List.lookup] at h
    subst h
    rw [h1] at hC
    cases hC
    exact ⟨h0, h2⟩
  · have e' : (n == n0) = false := by simpa using e
    simp only [List.lookup, e'] at h
    exact h3 n b' h C' hC
theorem xft_nil {f : Str} : XfT K (fun n => List.contains [] n) f := fun n h => by cases h
theorem xft_cons {f n0 : Str} {C : Addr} {l : List Str} (h1 : PySem.W.nsIn K mainGlobals n0 = some (some (.ref C))) (h0 : XfC K C) (h2 : PySem.W.findIn K (.ref C) f = some none) (h3 : XfT K (fun n => List.contains l n) f) : XfT K (fun n => List.contains (n0 :: l) n) f := fun n h C' hC => by
  by_cases e : n = n0
  · subst e
    rw [h1] at hC
    cases hC
    exact ⟨h0, h2⟩
  · have e' : (n == n0) = false := by simpa using e
    refine h3 n ?_ C' hC
    replace h : List.elem n (n0 :: l) = true := h
    show List.elem n l = true
    simp only [List.elem, e'] at h
    exact h
end
/-- no default stands, or one int -/
theorem dfl_none {K : PySem.W.Frag} : DflV K .none [] := .inl ⟨rfl, rfl⟩
theorem dfl_int {K : PySem.W.Frag} {T : Addr} {oc : Value} {od : Option Addr} {i : Int} {t : Tok} {n : Nat} {sl : Array (Option Value)} (h : K.lookup T = some ⟨oc, od, .seq [Value.int i t].toArray n, sl⟩) : DflV K (.ref T) [.int i] :=
  .inr ⟨by simp, T, _, [.int i t], n, rfl, h, rfl, .cons ⟨t, rfl⟩ .nil⟩
theorem bnd_none {K : PySem.W.Frag} {fd : FuncData} {ps : List Str} (h : Binds K fd ps []) : ∃ us, DfJ K us [] ∧ Binds K fd ps us := ⟨[], dfj_nil, h⟩
theorem bnd_int {K : PySem.W.Frag} {fd : FuncData} {ps : List Str} {i : Int} (h : ∃ ds, Vals ([.int i] : List V) ds ∧ Binds K fd ps ds) : ∃ us, DfJ K us [.int i] ∧ Binds K fd ps us := by
  obtain ⟨ds, h1, h2⟩ := h
  exact ⟨ds, ⟨_, h1, fun F => .cons (.int i) .nil⟩, h2⟩
/-- the law's own head -/
theorem walk_pd {l : PySem.W.OpenLaw} {k : Nat} {q : Program} {loose : List Str} {XP : (Str → Option Value) → Heap → Prop} {YP : World → Heap → Prop} {d : DefRec} {K : Params → PySem.W.Frag} (den : List D → FR) (hden : ∀ ns : List Int, ns.length ≤ 63 → den [.lst (ns.map D.int)] = .ok (.bl true))
    (hn : l.most = some 63) (hdf : d.params.defaults = []) (hr : Room k callerA) (hY : ∀ (w : World) (h : Heap), YP w h → (K w.params).In h)
    (F : ∀ (w : World) (mg : Str → Option Value) (fa : Addr) (h : Heap), (K w.params).In h → h.Ns mainGlobals mg → mg d.name = some (.ref fa) →
      ∃ fd : FuncData, (∀ (s : Shared) (u : Value), BindsTo s fd ⟨[u], []⟩ [("script", u)]) ∧ ∀ base : Heap, (K w.params).In base → base.Ns mainGlobals mg → FnOk l.prog w (K w.params) mg base (L2.CX l.prog w) k fa fd ["script"] (spD (K w.params) 1 den)) :
    PySem.W.WalkO q loose XP YP l.row.toRowW d [] (fun f vs => PySem.call f vs) := by
  refine L2.walk_of (n := 63) (k := k) (x := "script") (CX := fun w => L2.CX l.prog w) (sp := fun w => spD (K w.params) 1 den) hn (by decide) hdf hr hY F (fun w H a ns hl hO hS => ?_) fun w H s e s' z => ?_
  · refine ⟨rfl, H, [.lst (ns.map D.int)], Same.refl _, .cons (.lst hS (RepL.ints ns)) .nil, ?_⟩
    rw [hden ns hl]
    intro v F' H' _ r
    cases r
    rfl
  · obtain ⟨_, _, _, _, _, _, _, _, _, _, _, _, z⟩ := z
    exact z.elim
end PD
set_option Elab.async false
set_option linter.all false
set_option maxRecDepth 100000
set_option maxHeartbeats 4000000
/-! PM1: places within what is still to be changed: paths, what stands there, the whole when the part is exchanged. -/
namespace PD
open PySem PySem.Spec L2

/-! ### association lists -/
section
variable {κ β γ : Type} [DecidableEq κ]
def aGet (kvs : List (κ × β)) (k : κ) : Option β := (kvs.find? fun kv => decide (kv.1 = k)).map (·.2)
def aPut (kvs : List (κ × β)) (k : κ) (v : β) : List (κ × β) :=
  if kvs.any fun kv => decide (kv.1 = k) then kvs.map fun kv => if kv.1 = k then (kv.1, v) else kv else kvs ++ [(k, v)]
@[simp] theorem aGet_nil {k : κ} : aGet ([] : List (κ × β)) k = none := rfl
theorem aGet_cons {k : κ} {p : κ × β} {r : List (κ × β)} : aGet (p :: r) k = if p.1 = k then some p.2 else aGet r k := by
  unfold aGet
  rw [List.find?_cons]
  by_cases h : p.1 = k
  · simp [h]
  · simp [h]
end
theorem aGet_val {κ : Type} [DecidableEq κ] (kvs : List (κ × V)) (k : κ) : aGet kvs k = valV kvs k := rfl

/-- a step: a field, a place of a list, an entry of a dict -/
inductive Stp where
  | fld (f : Str) | idx (i : Nat) | key (k : Key) | kt (k : List Key)
def M.get1 : Stp → M → Option M
  | .fld f, .ins _ fs => fs.lookup f
  | .idx i, .lst xs => xs[i]?
  | .key k, .dK kvs => aGet kvs k
  | .kt k, .dT kvs => aGet kvs k
  | _, _ => none
def lkSet (f : Str) (v : M) : List (Str × M) → List (Str × M)
  | [] => []
  | (g, x) :: r => if f = g then (g, v) :: r else (g, x) :: lkSet f v r
def akSet {κ : Type} [DecidableEq κ] (k : κ) (v : M) : List (κ × M) → List (κ × M)
  | [] => []
  | (g, x) :: r => if g = k then (g, v) :: r else (g, x) :: akSet k v r
/-- the part exchanged (it stands there) -/
def M.set1 : Stp → M → M → M
  | .fld f, .ins n fs, y => .ins n (lkSet f y fs)
  | .idx i, .lst xs, y => .lst (xs.set i y)
  | .key k, .dK kvs, y => .dK (akSet k y kvs)
  | .kt k, .dT kvs, y => .dT (akSet k y kvs)
  | _, m, _ => m
def M.at : List Stp → M → Option M
  | [], m => some m
  | s :: π, m => (m.get1 s).bind (M.at π)
def M.put : List Stp → M → M → M
  | [], _, y => y
  | s :: π, m, y => match m.get1 s with
    | some m' => m.set1 s (M.put π m' y)
    | none => m
/-- what is read at a step -/
inductive Rd1 (H : Hp) : V → Stp → V → Prop
  | fld {a C dx : Addr} {fs : List (Str × V)} {f : Str} {v : V} : H a = some (.ins C dx fs) → fs.lookup f = some v → Rd1 H (.ref a) (.fld f) v
  | idx {a : Addr} {vs : List V} {i : Nat} {v : V} : H a = some (.lst vs) → vs[i]? = some v → Rd1 H (.ref a) (.idx i) v
  | key {a : Addr} {kvs : List (Key × V)} {k : Key} {v : V} : H a = some (.dK kvs) → valV kvs k = some v → Rd1 H (.ref a) (.key k) v
  | kt {a : Addr} {kvs : List (List Key × V)} {k : List Key} {v : V} : H a = some (.dT kvs) → valV kvs k = some v → Rd1 H (.ref a) (.kt k) v
inductive RdP (H : Hp) : V → List Stp → V → Prop
  | nil {v : V} : RdP H v [] v
  | cons {v w u : V} {s : Stp} {π : List Stp} : Rd1 H v s w → RdP H w π u → RdP H v (s :: π) u
theorem Rd1.det {H : Hp} {v w u : V} {s : Stp} (h : Rd1 H v s w) (h' : Rd1 H v s u) : w = u := by
  cases h with
  | fld a b =>
    cases h' with
    | fld a' b' => rw [a] at a'; cases a'; rw [b] at b'; cases b'; rfl
  | idx a b =>
    cases h' with
    | idx a' b' => rw [a] at a'; cases a'; rw [b] at b'; cases b'; rfl
  | key a b =>
    cases h' with
    | key a' b' => rw [a] at a'; cases a'; rw [b] at b'; cases b'; rfl
  | kt a b =>
    cases h' with
    | kt a' b' => rw [a] at a'; cases a'; rw [b] at b'; cases b'; rfl
theorem RdP.det {H : Hp} : ∀ {π : List Stp} {v w u : V}, RdP H v π w → RdP H v π u → w = u
  | [], _, _, _, .nil, .nil => rfl
  | _ :: _, _, _, _, .cons a b, .cons a' b' => by
    cases Rd1.det a a'
    exact RdP.det b b'
theorem RdP.snoc {H : Hp} : ∀ {π : List Stp} {v w u : V} {s : Stp}, RdP H v π w → Rd1 H w s u → RdP H v (π ++ [s]) u
  | [], _, _, _, _, .nil, h => .cons h .nil
  | _ :: _, _, _, _, _, .cons a b, h => .cons a (RdP.snoc b h)
theorem Rd1.mono {H H' : Hp} {v w : V} {s : Stp} (e : Same H H') (h : Rd1 H v s w) : Rd1 H' v s w := by
  cases h with
  | fld a b => exact .fld (e _ _ a) b
  | idx a b => exact .idx (e _ _ a) b
  | key a b => exact .key (e _ _ a) b
  | kt a b => exact .kt (e _ _ a) b
theorem RdP.mono {H H' : Hp} (e : Same H H') : ∀ {π : List Stp} {v w : V}, RdP H v π w → RdP H' v π w
  | [], _, _, .nil => .nil
  | _ :: _, _, _, .cons a b => .cons (a.mono e) (RdP.mono e b)

section
variable {K : PySem.W.Frag} {F H : Hp}
/-- the part at a step, and how the whole stands when it is exchanged -/
def Part (K : PySem.W.Frag) (F H : Hp) (v : V) (ps : List Addr) (v' : V) (m' : M) (put : M → M) : Prop :=
  ∃ pre ps' post, ps = pre ++ (ps' ++ post) ∧ RepM K F H v' m' ps' ∧
    ∀ (F1 H1 : Hp) (m1 : M) (ps1 : List Addr), Same F F1 → RepM K F1 H1 v' m1 ps1 → (∀ p, p ∈ pre ∨ p ∈ post → H1 p = H p) → RepM K F1 H1 v (put m1) (pre ++ (ps1 ++ post))
def PartL (K : PySem.W.Frag) (F H : Hp) (vs : List V) (ps : List Addr) (v' : V) (m' : M) (put : M → List M) : Prop :=
  ∃ pre ps' post, ps = pre ++ (ps' ++ post) ∧ RepM K F H v' m' ps' ∧
    ∀ (F1 H1 : Hp) (m1 : M) (ps1 : List Addr), Same F F1 → RepM K F1 H1 v' m1 ps1 → (∀ p, p ∈ pre ∨ p ∈ post → H1 p = H p) → RepML K F1 H1 vs (put m1) (pre ++ (ps1 ++ post))
theorem RepML.part : ∀ {vs : List V} {ms : List M} {ps : List Addr}, RepML K F H vs ms ps → ∀ {i : Nat} {m' : M}, ms[i]? = some m' → ∃ v', vs[i]? = some v' ∧ PartL K F H vs ps v' m' fun y => ms.set i y
  | _, _, _, .nil, i, m', h => by simp at h
  | _, _, _, .cons (v := v) (ps := p1) (qs := p2) r1 r2, 0, m', h => by
    simp at h
    subst h
    exact ⟨v, rfl, [], p1, p2, rfl, r1, fun F1 H1 m1 ps1 s r e => show RepML K F1 H1 _ _ (ps1 ++ p2) from .cons r (r2.move s fun p hp => e p (.inr hp))⟩
  | _, _, _, .cons (v := v) (ps := p1) (qs := p2) r1 r2, i + 1, m', h => by
    obtain ⟨v', e1, pre, ps', post, e2, r, k⟩ := RepML.part r2 (i := i) (m' := m') (by simpa using h)
    refine ⟨v', by simpa using e1, p1 ++ pre, ps', post, by rw [e2, List.append_assoc], r, fun F1 H1 m1 ps1 s r' e => ?_⟩
    have := k F1 H1 m1 ps1 s r' fun p hp => e p (hp.imp (fun z => List.mem_append_right _ z) id)
    rw [List.append_assoc]
    exact .cons (r1.move s fun p hp => e p (.inl (List.mem_append_left _ hp))) this
def PartF (K : PySem.W.Frag) (F H : Hp) (vs : List (Str × V)) (ps : List Addr) (v' : V) (m' : M) (put : M → List (Str × M)) : Prop :=
  ∃ pre ps' post, ps = pre ++ (ps' ++ post) ∧ RepM K F H v' m' ps' ∧
    ∀ (F1 H1 : Hp) (m1 : M) (ps1 : List Addr), Same F F1 → RepM K F1 H1 v' m1 ps1 → (∀ p, p ∈ pre ∨ p ∈ post → H1 p = H p) → RepMF K F1 H1 vs (put m1) (pre ++ (ps1 ++ post))
theorem RepMF.part {f : Str} : ∀ {vs : List (Str × V)} {ms : List (Str × M)} {ps : List Addr}, RepMF K F H vs ms ps → ∀ {m' : M}, ms.lookup f = some m' → ∃ v', vs.lookup f = some v' ∧ PartF K F H vs ps v' m' fun y => lkSet f y ms
  | _, _, _, .nil, m', h => by simp at h
  | _, _, _, .cons (k := g) (v := v) (m := m) (ms := ms) (vs := vs) (ps := p1) (qs := p2) r1 r2, m', h => by
    rw [List.lookup_cons] at h ⊢
    by_cases hg : f = g
    · have hb : (f == g) = true := by simp [hg]
      simp only [hb] at h ⊢
      cases h
      refine ⟨v, rfl, [], p1, p2, rfl, r1, fun F1 H1 m1 ps1 s r e => ?_⟩
      show RepMF K F1 H1 _ (lkSet f m1 ((g, m) :: ms)) (ps1 ++ p2)
      unfold lkSet
      rw [if_pos hg]
      exact .cons r (r2.move s fun p hp => e p (.inr hp))
    · have hb : (f == g) = false := by simp [hg]
      simp only [hb] at h ⊢
      obtain ⟨v', e1, pre, ps', post, e2, r, k⟩ := RepMF.part r2 h
      refine ⟨v', e1, p1 ++ pre, ps', post, by rw [e2, List.append_assoc], r, fun F1 H1 m1 ps1 s r' e => ?_⟩
      have := k F1 H1 m1 ps1 s r' fun p hp => e p (hp.imp (fun z => List.mem_append_right _ z) id)
      show RepMF K F1 H1 _ (lkSet f m1 ((g, m) :: ms)) _
      unfold lkSet
      rw [if_neg hg, List.append_assoc]
      exact .cons (r1.move s fun p hp => e p (.inl (List.mem_append_left _ hp))) this
def PartK (K : PySem.W.Frag) (F H : Hp) (vs : List (Key × V)) (ps : List Addr) (v' : V) (m' : M) (put : M → List (Key × M)) : Prop :=
  ∃ pre ps' post, ps = pre ++ (ps' ++ post) ∧ RepM K F H v' m' ps' ∧
    ∀ (F1 H1 : Hp) (m1 : M) (ps1 : List Addr), Same F F1 → RepM K F1 H1 v' m1 ps1 → (∀ p, p ∈ pre ∨ p ∈ post → H1 p = H p) → RepMK K F1 H1 vs (put m1) (pre ++ (ps1 ++ post))
theorem RepMK.part {f : Key} : ∀ {vs : List (Key × V)} {ms : List (Key × M)} {ps : List Addr}, RepMK K F H vs ms ps → ∀ {m' : M}, aGet ms f = some m' → ∃ v', valV vs f = some v' ∧ PartK K F H vs ps v' m' fun y => akSet f y ms
  | _, _, _, .nil, m', h => by simp at h
  | _, _, _, .cons (k := g) (v := v) (m := m) (ms := ms) (vs := vs) (ps := p1) (qs := p2) r1 r2, m', h => by
    rw [aGet_cons] at h
    by_cases hg : g = f
    · rw [if_pos hg] at h
      cases h
      refine ⟨v, by rw [valV_pos hg], [], p1, p2, rfl, r1, fun F1 H1 m1 ps1 s r e => ?_⟩
      show RepMK K F1 H1 _ (akSet f m1 ((g, m) :: ms)) (ps1 ++ p2)
      unfold akSet
      rw [if_pos hg]
      exact .cons r (r2.move s fun p hp => e p (.inr hp))
    · rw [if_neg hg] at h
      obtain ⟨v', e1, pre, ps', post, e2, r, k⟩ := RepMK.part r2 h
      refine ⟨v', by rw [valV_neg hg]; exact e1, p1 ++ pre, ps', post, by rw [e2, List.append_assoc], r, fun F1 H1 m1 ps1 s r' e => ?_⟩
      have := k F1 H1 m1 ps1 s r' fun p hp => e p (hp.imp (fun z => List.mem_append_right _ z) id)
      show RepMK K F1 H1 _ (akSet f m1 ((g, m) :: ms)) _
      unfold akSet
      rw [if_neg hg, List.append_assoc]
      exact .cons (r1.move s fun p hp => e p (.inl (List.mem_append_left _ hp))) this
def PartT (K : PySem.W.Frag) (F H : Hp) (vs : List (List Key × V)) (ps : List Addr) (v' : V) (m' : M) (put : M → List (List Key × M)) : Prop :=
  ∃ pre ps' post, ps = pre ++ (ps' ++ post) ∧ RepM K F H v' m' ps' ∧
    ∀ (F1 H1 : Hp) (m1 : M) (ps1 : List Addr), Same F F1 → RepM K F1 H1 v' m1 ps1 → (∀ p, p ∈ pre ∨ p ∈ post → H1 p = H p) → RepMT K F1 H1 vs (put m1) (pre ++ (ps1 ++ post))
theorem RepMT.part {f : List Key} : ∀ {vs : List (List Key × V)} {ms : List (List Key × M)} {ps : List Addr}, RepMT K F H vs ms ps → ∀ {m' : M}, aGet ms f = some m' → ∃ v', valV vs f = some v' ∧ PartT K F H vs ps v' m' fun y => akSet f y ms
  | _, _, _, .nil, m', h => by simp at h
  | _, _, _, .cons (k := g) (v := v) (m := m) (ms := ms) (vs := vs) (ps := p1) (qs := p2) r1 r2, m', h => by
    rw [aGet_cons] at h
    by_cases hg : g = f
    · rw [if_pos hg] at h
      cases h
      refine ⟨v, by rw [valV_pos hg], [], p1, p2, rfl, r1, fun F1 H1 m1 ps1 s r e => ?_⟩
      show RepMT K F1 H1 _ (akSet f m1 ((g, m) :: ms)) (ps1 ++ p2)
      unfold akSet
      rw [if_pos hg]
      exact .cons r (r2.move s fun p hp => e p (.inr hp))
    · rw [if_neg hg] at h
      obtain ⟨v', e1, pre, ps', post, e2, r, k⟩ := RepMT.part r2 h
      refine ⟨v', by rw [valV_neg hg]; exact e1, p1 ++ pre, ps', post, by rw [e2, List.append_assoc], r, fun F1 H1 m1 ps1 s r' e => ?_⟩
      have := k F1 H1 m1 ps1 s r' fun p hp => e p (hp.imp (fun z => List.mem_append_right _ z) id)
      show RepMT K F1 H1 _ (akSet f m1 ((g, m) :: ms)) _
      unfold akSet
      rw [if_neg hg, List.append_assoc]
      exact .cons (r1.move s fun p hp => e p (.inl (List.mem_append_left _ hp))) this
theorem RepM.part1 {v : V} {m m' : M} {ps : List Addr} {s : Stp} (r : RepM K F H v m ps) (h : m.get1 s = some m') : ∃ v', Rd1 H v s v' ∧ Part K F H v ps v' m' fun y => m.set1 s y := by
  cases r with
  | fz r => cases s <;> simp [M.get1] at h
  | lst e r =>
    cases s <;> simp [M.get1] at h
    obtain ⟨v', e1, pre, ps', post, e2, r', k⟩ := r.part h
    refine ⟨v', .idx e e1, _ :: pre, ps', post, by rw [e2]; rfl, r', fun F1 H1 m1 ps1 s r'' he => ?_⟩
    exact .lst ((he _ (.inl (List.mem_cons_self ..))).trans e) (k F1 H1 m1 ps1 s r'' fun p hp => he p (hp.imp (fun z => List.mem_cons_of_mem _ z) id))
  | dK e r =>
    cases s <;> simp [M.get1] at h
    obtain ⟨v', e1, pre, ps', post, e2, r', k⟩ := r.part h
    refine ⟨v', .key e e1, _ :: pre, ps', post, by rw [e2]; rfl, r', fun F1 H1 m1 ps1 s r'' he => ?_⟩
    exact .dK ((he _ (.inl (List.mem_cons_self ..))).trans e) (k F1 H1 m1 ps1 s r'' fun p hp => he p (hp.imp (fun z => List.mem_cons_of_mem _ z) id))
  | dT e r =>
    cases s <;> simp [M.get1] at h
    obtain ⟨v', e1, pre, ps', post, e2, r', k⟩ := r.part h
    refine ⟨v', .kt e e1, _ :: pre, ps', post, by rw [e2]; rfl, r', fun F1 H1 m1 ps1 s r'' he => ?_⟩
    exact .dT ((he _ (.inl (List.mem_cons_self ..))).trans e) (k F1 H1 m1 ps1 s r'' fun p hp => he p (hp.imp (fun z => List.mem_cons_of_mem _ z) id))
  | ins e e' e'' r =>
    cases s <;> simp [M.get1] at h
    obtain ⟨v', e1, pre, ps', post, e2, r', k⟩ := r.part h
    refine ⟨v', .fld e e1, _ :: _ :: pre, ps', post, by rw [e2]; rfl, r', fun F1 H1 m1 ps1 s r'' he => ?_⟩
    exact .ins ((he _ (.inl (List.mem_cons_self ..))).trans e) ((he _ (.inl (List.mem_cons_of_mem _ (List.mem_cons_self ..)))).trans e') e'' (k F1 H1 m1 ps1 s r'' fun p hp => he p (hp.imp (fun z => List.mem_cons_of_mem _ (List.mem_cons_of_mem _ z)) id))
theorem RepM.part : ∀ {π : List Stp} {v : V} {m m' : M} {ps : List Addr}, RepM K F H v m ps → m.at π = some m' → ∃ v', RdP H v π v' ∧ Part K F H v ps v' m' fun y => m.put π y
  | [], v, m, m', ps, r, h => by
    unfold M.at at h
    cases h
    exact ⟨v, .nil, [], ps, [], by simp, r, fun F1 H1 m1 ps1 s r' _ => by simpa [M.put] using r'⟩
  | s :: π, v, m, m', ps, r, h => by
    unfold M.at at h
    cases e : m.get1 s with
    | none => rw [e] at h; cases h
    | some m1 =>
      rw [e] at h
      obtain ⟨v1, h1, pre, p1, post, e1, r1, k1⟩ := r.part1 e
      obtain ⟨v', h2, pre2, p2, post2, e2, r2, k2⟩ := RepM.part (π := π) r1 h
      refine ⟨v', .cons h1 h2, pre ++ pre2, p2, post2 ++ post, by rw [e1, e2]; simp [List.append_assoc], r2, fun F1 H1 m3 ps3 sf r3 he => ?_⟩
      have q := k2 F1 H1 m3 ps3 sf r3 fun p hp => he p (hp.imp (fun z => List.mem_append_right _ z) fun z => List.mem_append_left _ z)
      have q1 := k1 F1 H1 _ _ sf q fun p hp => he p (hp.imp (fun z => List.mem_append_left _ z) fun z => List.mem_append_right _ z)
      have ep : m.put (s :: π) m3 = m.set1 s (m1.put π m3) := by
        show (match m.get1 s with | some m' => m.set1 s (M.put π m' m3) | none => m) = _
        rw [e]
      show RepM K F1 H1 v (m.put (s :: π) m3) _
      rw [ep]
      simpa [List.append_assoc] using q1
end
theorem M.at_snoc : ∀ {π : List Stp} {m m' m'' : M} {s : Stp}, m.at π = some m' → m'.get1 s = some m'' → m.at (π ++ [s]) = some m''
  | [], m, m', m'', s, h, e => by
    unfold M.at at h
    cases h
    show (m.get1 s).bind _ = _
    rw [e]
    rfl
  | t :: π, m, m', m'', s, h, e => by
    unfold M.at at h
    show (m.get1 t).bind _ = _
    cases e1 : m.get1 t with
    | none => rw [e1] at h; cases h
    | some m1 =>
      rw [e1] at h
      exact M.at_snoc (π := π) h e
end PD
set_option Elab.async false
set_option linter.all false
set_option maxRecDepth 100000
set_option maxHeartbeats 4000000
/-! PM2: a part of a slot is changed; quiet readings; what is fresh. -/
namespace PD
open PySem PySem.Spec L2

section
variable {Z : Fx} {F H F1 H1 : Hp} {σ : St} {ρ : En}
/-- an address that belongs to no slot and is not frozen -/
structure Free (Z : Fx) (F H : Hp) (σ : St) (ρ : En) (p : Addr) : Prop where
  nf : F p = none
  nb : Z.B p = none
  no : ∀ (j : Nat) (xs : List D), ρ[j]? = some (.own xs) → σ[j]? ≠ some (some (.ref p))
  ap : Apart Z F H σ ρ p
theorem St2.newFree (s : St2 Z F H σ ρ) {p : Addr} (hp : H p = none) : Free Z F H σ ρ p where
  nf := none_of_same s.fz.fH hp
  nb := none_of_same s.fz.bH hp
  no := fun j xs h e => by
    obtain ⟨q, ws, h1, h2, _⟩ := s.atO j xs h
    rw [e] at h1
    cases h1
    rw [hp] at h2
    cases h2
  ap := fun i m v ps e1 e2 r hm => by
    obtain ⟨o, ho⟩ := RepM.there r p hm
    rw [hp] at ho
    cases ho
/-- what the part owns -/
structure Own (Z : Fx) (F H F1 H1 : Hp) (σ : St) (ρ : En) (ps' ps1 : List Addr) : Prop where
  nd : ps1.Nodup
  fr : ∀ p ∈ ps1, p ∈ ps' ∨ Free Z F H σ ρ p
  nf : ∀ p ∈ ps1, F1 p = none
/-- the part at π of slot i is exchanged -/
theorem St2.putM {i : Nat} {m m' m1 : M} {w v' : V} {π : List Stp} (s : St2 Z F H σ ρ) (hi : ρ[i]? = some (.mt m)) (hw : σ[i]? = some (some w)) (ha : m.at π = some m') (hv : RdP H w π v')
    {ps' ps1 : List Addr} (hp' : RepM Z.K F H v' m' ps') (hr : RepM Z.K F1 H1 v' m1 ps1) (sf : Same F F1) (sh : Same F1 H1) (keep : ∀ a o, H a = some o → a ∉ ps' → H1 a = some o) (new : ∀ a o, H a = some o → a ∉ ps1 → F1 a = F a) (ow : Own Z F H F1 H1 σ ρ ps' ps1) : St2 Z F1 H1 σ (ρ.set i (.mt (m.put π m1))) := by
  obtain ⟨w0, ps, q1, q2, q3, q4, q5⟩ := s.atM i m hi
  rw [hw] at q1
  cases q1
  obtain ⟨v2, hv2, pre, ps2, post, e1, r2, k⟩ := RepM.part q2 ha
  cases RdP.det hv hv2
  cases RepM.uni hp' r2
  have th := RepM.there q2
  have hl : i < ρ.length := get_lt hi
  have inv : ∀ (j : Nat) (x : Sl), (ρ.set i (.mt (m.put π m1)))[j]? = some x → (∀ y, x ≠ .mt y) → i ≠ j ∧ ρ[j]? = some x := fun j x h hx => set_inv h fun z => hx _ z.symm
  have nd := q3
  rw [e1] at nd
  have nd1 := List.nodup_append.mp nd
  have nd2 := List.nodup_append.mp nd1.2.1
  have inP : ∀ p ∈ ps', p ∈ ps := fun p hp => by rw [e1]; exact List.mem_append_right _ (List.mem_append_left _ hp)
  have preP : ∀ p, p ∈ pre ∨ p ∈ post → p ∈ ps ∧ p ∉ ps' := fun p hp => by
    rcases hp with hp | hp
    · exact ⟨by rw [e1]; exact List.mem_append_left _ hp, fun z => nd1.2.2 p hp p (List.mem_append_left _ z) rfl⟩
    · exact ⟨by rw [e1]; exact List.mem_append_right _ (List.mem_append_right _ hp), fun z => nd2.2.2 p z p hp rfl⟩
  have pre1 : ∀ p, p ∈ pre ∨ p ∈ post → p ∉ ps1 := fun p hp h => by
    obtain ⟨a, b⟩ := preP p hp
    rcases ow.fr p h with z | z
    · exact b z
    · exact z.ap i m w ps hi hw q2 a
  have bs : ∀ a o, Z.B a = some o → a ∉ ps' ∧ a ∉ ps1 := fun a o e => by
    have n' : a ∉ ps' := fun z => by
      have := (q4 a (inP a z)).2
      rw [this] at e
      cases e
    refine ⟨n', fun z => ?_⟩
    rcases ow.fr a z with y | y
    · exact n' y
    · rw [y.nb] at e
      cases e
  have heq : ∀ p, p ∈ pre ∨ p ∈ post → H1 p = H p := fun p hp => by
    obtain ⟨a, b⟩ := preP p hp
    obtain ⟨o, ho⟩ := th p a
    rw [ho, keep p o ho b]
  have hM := k F1 H1 m1 ps1 sf hr heq
  have fneq : ∀ p, p ∈ pre ∨ p ∈ post → F1 p = none ∧ Z.B p = none := fun p hp => by
    obtain ⟨a, b⟩ := preP p hp
    obtain ⟨o, ho⟩ := th p a
    exact ⟨(new p o ho (pre1 p hp)).trans (q4 p a).1, (q4 p a).2⟩
  have ndn : (pre ++ (ps1 ++ post)).Nodup := List.nodup_append.mpr ⟨nd1.1, List.nodup_append.mpr ⟨ow.nd, nd2.2.1, fun a ha b hb z => pre1 b (.inr hb) (by rw [← z]; exact ha)⟩, fun a ha b hb z => by
    rcases List.mem_append.mp hb with hb | hb
    · exact pre1 a (.inl ha) (by rw [z]; exact hb)
    · exact nd1.2.2 a ha b (List.mem_append_right _ hb) z⟩
  have ownN : ∀ (j : Nat) (xs : List D) (q : Addr), ρ[j]? = some (.own xs) → σ[j]? = some (some (.ref q)) → q ∉ ps ∧ q ∉ ps1 := fun j xs q h1 h2 => by
    have n := q5 j xs q h1 h2
    refine ⟨n, fun z => ?_⟩
    rcases ow.fr q z with y | y
    · exact n (inP q y)
    · exact y.no j xs h1 h2
  refine ⟨⟨s.fz.f01.trans sf, sh, fun a o e => keep a o (s.fz.bH a o e) (bs a o e).1, fun a o e => (new a o (s.fz.bH a o e) (bs a o e).2).trans (s.fz.new a o e), s.fz.lB⟩, by rw [List.length_set]; exact s.len, fun j d h => ?_, fun j xs h => ?_, fun j x h => ?_, fun a b p xs ys hab h1 h2 => ?_, fun j n h => ?_, fun a b n1 n2 h1 h2 => ?_, fun j xs h => ?_, fun v n e h => ?_⟩
  · obtain ⟨_, h'⟩ := inv j _ h fun y z => by cases z
    obtain ⟨v, h1, h2⟩ := s.atD j d h'
    exact ⟨v, h1, h2.mono sf⟩
  · obtain ⟨_, h'⟩ := inv j _ h fun y z => by cases z
    obtain ⟨p, vs, h1, h2, h3, h4, h5⟩ := s.atO j xs h'
    obtain ⟨n1, n2⟩ := ownN j xs p h' h1
    exact ⟨p, vs, h1, keep p _ h2 fun z => n1 (inP p z), (new p _ h2 n2).trans h3, h4, h5.mono sf⟩
  · obtain ⟨_, h'⟩ := inv j _ h fun y z => by cases z
    obtain ⟨h1, h2⟩ := s.atX j x h'
    exact ⟨h1, h2.mono sf⟩
  · exact s.dis a b p xs ys hab (inv a _ h1 fun y z => by cases z).2 (inv b _ h2 fun y z => by cases z).2
  · have hji : j = i := by
      by_cases hij : i = j
      · exact hij.symm
      · rw [List.getElem?_set_ne hij] at h
        exact s.oneM j i n m h hi
    subst hji
    rw [List.getElem?_set_self hl] at h
    cases h
    refine ⟨w, _, hw, hM, ndn, fun p hp => ?_, fun j' xs q h1 h2 => ?_⟩
    · rcases List.mem_append.mp hp with z | z
      · exact fneq p (.inl z)
      · rcases List.mem_append.mp z with z | z
        · refine ⟨ow.nf p z, ?_⟩
          rcases ow.fr p z with y | y
          · exact (q4 p (inP p y)).2
          · exact y.nb
        · exact fneq p (.inr z)
    · obtain ⟨_, h'⟩ := inv j' _ h1 fun y z => by cases z
      obtain ⟨n1, n2⟩ := ownN j' xs q h' h2
      intro z
      rcases List.mem_append.mp z with z | z
      · exact n1 (preP q (.inl z)).1
      · rcases List.mem_append.mp z with z | z
        · exact n2 z
        · exact n1 (preP q (.inr z)).1
  · have g : ∀ (c : Nat) (n : M), (ρ.set i (.mt (m.put π m1)))[c]? = some (.mt n) → c = i := fun c n h => by
      by_cases hij : i = c
      · exact hij.symm
      · rw [List.getElem?_set_ne hij] at h
        exact s.oneM c i n m h hi
    rw [g a n1 h1, g b n2 h2]
  · obtain ⟨_, h'⟩ := inv j _ h fun y z => by cases z
    obtain ⟨p, vs, h1, h2, h3⟩ := s.atL j xs h'
    exact ⟨p, vs, h1, h2, h3.mono sf⟩
  · by_cases hij : i = 0
    · subst hij
      exact s.pin v m e hi
    · rw [List.getElem?_set_ne hij] at h
      exact s.pin v n e h

/-! ### quiet readings: nothing that stands is changed -/
def unM : Sl → Sl
  | .own _ => .un
  | .mt _ => .un
  | s => s
def calm (ρ : En) : En := ρ.map unM
theorem calm_get {i : Nat} {x : Sl} (h : (calm ρ)[i]? = some x) (hx : x ≠ .un) : ρ[i]? = some x := by
  unfold calm at h
  rw [List.getElem?_map] at h
  cases e : ρ[i]? with
  | none => rw [e] at h; cases h
  | some y =>
    rw [e] at h
    cases y <;> simp [unM] at h <;> first | (rw [h]) | (exact absurd h.symm hx)
theorem calm_own {i : Nat} {xs : List D} (h : (calm ρ)[i]? = some (.own xs)) : False := by
  unfold calm at h
  rw [List.getElem?_map] at h
  cases e : ρ[i]? with
  | none => rw [e] at h; cases h
  | some y =>
    rw [e] at h
    cases y <;> simp [unM] at h
theorem calm_mt {i : Nat} {xs : M} (h : (calm ρ)[i]? = some (.mt xs)) : False := by
  unfold calm at h
  rw [List.getElem?_map] at h
  cases e : ρ[i]? with
  | none => rw [e] at h; cases h
  | some y =>
    rw [e] at h
    cases y <;> simp [unM] at h
theorem St2.calm {K : PySem.W.Frag} {S : Sx} {B F0 : Hp} (s : St2 ⟨K, S, B, F0⟩ F H σ ρ) : St2 ⟨K, S, H, F⟩ F H σ (calm ρ) where
  fz := ⟨Same.refl _, s.fz.fH, Same.refl _, fun _ _ _ => rfl, s.fz.lB.trans s.fz.bH⟩
  len := by
    unfold PD.calm
    rw [List.length_map]
    exact s.len
  atD := fun i d h => s.atD i d (calm_get h fun z => by cases z)
  atO := fun i xs h => (calm_own h).elim
  atX := fun i d h => s.atX i d (calm_get h fun z => by cases z)
  dis := fun i j p xs ys hij h1 h2 => (calm_own h1).elim
  atM := fun i m h => (calm_mt h).elim
  oneM := fun i j m n h1 h2 => (calm_mt h1).elim
  atL := fun i d h => s.atL i d (calm_get h fun z => by cases z)
  pin := fun v m e h => (calm_mt h).elim
/-- behind a quiet reading: it has grown -/
theorem St2.grown {K : PySem.W.Frag} {S : Sx} {F' H' : Hp} {σ' : St} {ρ' : En} (s : St2 ⟨K, S, H, F⟩ F' H' σ' ρ') : Ext F H F' H' := ⟨s.fz.f01, s.fz.fH, s.fz.bH, s.fz.new⟩
end
end PD
set_option Elab.async false
set_option linter.all false
set_option maxRecDepth 100000
set_option maxHeartbeats 4000000
/-! PM3: places as a judgement; fresh things; e.g = v, e[k] = v, e.append(v). -/
namespace PD
open PySem PySem.Spec L2

def plc (ρ : En) (i : Nat) (π : List Stp) : Option M := match ρ[i]? with
  | some (.mt m) => m.at π
  | _ => none
def setP (ρ : En) (i : Nat) (π : List Stp) (y : M) : En := match ρ[i]? with
  | some (.mt m) => ρ.set i (.mt (m.put π y))
  | _ => ρ
def IsAt (ρ : En) (i : Nat) (σ : St) (H : Hp) (π : List Stp) (v : V) (m' : M) : Prop := ∃ m w, ρ[i]? = some (.mt m) ∧ m.at π = some m' ∧ σ[i]? = some (some w) ∧ RdP H w π v
theorem plc_some {ρ : En} {i : Nat} {π : List Stp} {m' : M} (h : plc ρ i π = some m') : ∃ m, ρ[i]? = some (.mt m) ∧ m.at π = some m' := by
  unfold plc at h
  split at h
  · rename_i m e
    exact ⟨m, e, h⟩
  · cases h
theorem IsAt.plc {ρ : En} {i : Nat} {σ : St} {H : Hp} {π : List Stp} {v : V} {m' : M} (h : IsAt ρ i σ H π v m') : PD.plc ρ i π = some m' := by
  obtain ⟨m, w, h1, h2, _⟩ := h
  unfold PD.plc
  rw [h1]
  exact h2
theorem IsAt.mono {ρ : En} {i : Nat} {σ : St} {H H' : Hp} {π : List Stp} {v : V} {m' : M} (h : IsAt ρ i σ H π v m') (e : Same H H') : IsAt ρ i σ H' π v m' := by
  obtain ⟨m, w, h1, h2, h3, h4⟩ := h
  exact ⟨m, w, h1, h2, h3, h4.mono e⟩
section
variable {Z : Fx} {F H F1 H1 F' H' : Hp} {σ : St} {ρ : En}
/-- at a place: the value stands for the part -/
theorem St2.at_ {i : Nat} {π : List Stp} {m' : M} (s : St2 Z F H σ ρ) (h : PD.plc ρ i π = some m') : ∃ v, IsAt ρ i σ H π v m' := by
  obtain ⟨m, h1, h2⟩ := plc_some h
  obtain ⟨w, ps, q1, q2, _⟩ := s.atM i m h1
  obtain ⟨v, hv, _⟩ := RepM.part q2 h2
  exact ⟨v, m, w, h1, h2, q1, hv⟩
theorem St2.part {i : Nat} {π : List Stp} {v : V} {m' : M} (s : St2 Z F H σ ρ) (h : IsAt ρ i σ H π v m') : ∃ ps', RepM Z.K F H v m' ps' ∧ ps'.Nodup ∧ (∀ p ∈ ps', F p = none ∧ Z.B p = none) ∧ (∀ q, Free Z F H σ ρ q → q ∉ ps') ∧
    ∀ (j : Nat) (xs : List D) (q : Addr), ρ[j]? = some (.own xs) → σ[j]? = some (some (.ref q)) → q ∉ ps' := by
  obtain ⟨m, w, h1, h2, h3, h4⟩ := h
  obtain ⟨w0, ps, q1, q2, q3, q4, q5⟩ := s.atM i m h1
  rw [h3] at q1
  cases q1
  obtain ⟨v2, hv2, pre, ps2, post, e1, r2, _⟩ := RepM.part q2 h2
  cases RdP.det h4 hv2
  have sub : ∀ p ∈ ps2, p ∈ ps := fun p hp => by rw [e1]; exact List.mem_append_right _ (List.mem_append_left _ hp)
  rw [e1] at q3
  have nd1 := List.nodup_append.mp q3
  exact ⟨ps2, r2, (List.nodup_append.mp nd1.2.1).1, fun p hp => q4 p (sub p hp), fun q hq hp => hq.ap i m w ps h1 h3 q2 (sub q hp), fun j xs q e1 e2 hq => q5 j xs q e1 e2 (sub q hq)⟩
theorem St2.setP {i : Nat} {π : List Stp} {v : V} {m' m1 : M} (s : St2 Z F H σ ρ) (h : IsAt ρ i σ H π v m') {ps' ps1 : List Addr} (hp' : RepM Z.K F H v m' ps') (hr : RepM Z.K F1 H1 v m1 ps1) (sf : Same F F1) (sh : Same F1 H1)
    (keep : ∀ a o, H a = some o → a ∉ ps' → H1 a = some o) (new : ∀ a o, H a = some o → a ∉ ps1 → F1 a = F a) (ow : Own Z F H F1 H1 σ ρ ps' ps1) : St2 Z F1 H1 σ (PD.setP ρ i π m1) := by
  obtain ⟨m, w, h1, h2, h3, h4⟩ := h
  unfold PD.setP
  rw [h1]
  exact s.putM h1 h3 h2 h4 hp' hr sf sh keep new ow
theorem Free.ext {p : Addr} (f : Free Z F H σ ρ p) (s : St2 Z F H σ ρ) {o : HO} (hp : H p = some o) (e : Ext F H F' H') : Free Z F' H' σ ρ p where
  nf := (e.new p o hp).trans f.nf
  nb := f.nb
  no := f.no
  ap := f.ap.ext s e
/-- one object of a part is written, nothing else -/
theorem St2.write1 {i : Nat} {π : List Stp} {a : Addr} {m' m1 : M} {o' : HO} {ps' ps1 : List Addr} (s : St2 Z F H σ ρ) (h : IsAt ρ i σ H π (.ref a) m') (hp' : RepM Z.K F H (.ref a) m' ps') (ha : a ∈ ps')
    (hr : RepM Z.K F (upd H a o') (.ref a) m1 ps1) (nd : ps1.Nodup) (fr : ∀ p ∈ ps1, p ∈ ps' ∨ Free Z F H σ ρ p) : St2 Z F (upd H a o') σ (PD.setP ρ i π m1) := by
  obtain ⟨ps2, r2, _, n2, _, _⟩ := s.part h
  cases RepM.uni hp' r2
  refine s.setP h hp' hr (Same.refl _) (fun b u e => ?_) (fun b u e hb => ?_) (fun b u e hb => rfl) ⟨nd, fr, fun p hp => ?_⟩
  · rw [upd_ne (fun z => by rw [z, (n2 a ha).1] at e; cases e)]
    exact s.fz.fH b u e
  · rw [upd_ne (fun z => hb (by rw [z]; exact ha))]
    exact e
  · rcases fr p hp with z | z
    · exact (n2 p z).1
    · exact z.nf
end

/-! ### containers -/
def putFM (f : Str) (v : M) : List (Str × M) → List (Str × M)
  | [] => [(f, v)]
  | (g, x) :: r => if g = f then (g, v) :: r else (g, x) :: putFM f v r
section
variable {K : PySem.W.Frag} {F H : Hp}
theorem RepML.snoc : ∀ {vs : List V} {ms : List M} {ps qs : List Addr} {v : V} {m : M}, RepML K F H vs ms ps → RepM K F H v m qs → RepML K F H (vs ++ [v]) (ms ++ [m]) (ps ++ qs)
  | _, _, _, qs, v, m, .nil, h => by
    have : RepML K F H [v] [m] (qs ++ []) := .cons h .nil
    simpa using this
  | _, _, _, qs, v, m, .cons r1 r2, h => by
    have := RepML.cons r1 (RepML.snoc r2 h)
    simpa [List.append_assoc] using this
theorem RepML.length : ∀ {vs : List V} {ms : List M} {ps : List Addr}, RepML K F H vs ms ps → vs.length = ms.length
  | _, _, _, .nil => rfl
  | _, _, _, .cons _ r => by rw [List.length_cons, List.length_cons, RepML.length r]
theorem RepMF.length : ∀ {vs : List (Str × V)} {ms : List (Str × M)} {ps : List Addr}, RepMF K F H vs ms ps → vs.length = ms.length
  | _, _, _, .nil => rfl
  | _, _, _, .cons _ r => by rw [List.length_cons, List.length_cons, RepMF.length r]
theorem RepMK.length : ∀ {vs : List (Key × V)} {ms : List (Key × M)} {ps : List Addr}, RepMK K F H vs ms ps → vs.length = ms.length
  | _, _, _, .nil => rfl
  | _, _, _, .cons _ r => by rw [List.length_cons, List.length_cons, RepMK.length r]
theorem RepMT.length : ∀ {vs : List (List Key × V)} {ms : List (List Key × M)} {ps : List Addr}, RepMT K F H vs ms ps → vs.length = ms.length
  | _, _, _, .nil => rfl
  | _, _, _, .cons _ r => by rw [List.length_cons, List.length_cons, RepMT.length r]
theorem RepMF.put {g : Str} {y : V} {m1 : M} {qs : List Addr} (hy : RepM K F H y m1 qs) : ∀ {vs : List (Str × V)} {ms : List (Str × M)} {ps : List Addr}, RepMF K F H vs ms ps →
    ∃ ps2, RepMF K F H (putF g y vs) (putFM g m1 ms) ps2 ∧ (∀ p ∈ ps2, p ∈ ps ∨ p ∈ qs) ∧ (ps.Nodup → qs.Nodup → (∀ p ∈ ps, p ∉ qs) → ps2.Nodup)
  | _, _, _, .nil => by
    refine ⟨qs ++ [], .cons hy .nil, fun p hp => .inr (by simpa using hp), fun _ h _ => by simpa using h⟩
  | _, _, _, .cons (k := k) (v := v) (m := m) (vs := vs) (ms := ms) (ps := p1) (qs := p2) r1 r2 => by
    by_cases hk : k = g
    · refine ⟨qs ++ p2, ?_, fun p hp => ?_, fun h1 h2 h3 => ?_⟩
      · show RepMF K F H (if k = g then (k, y) :: vs else (k, v) :: putF g y vs) (if k = g then (k, m1) :: ms else (k, m) :: putFM g m1 ms) _
        rw [if_pos hk, if_pos hk]
        exact .cons hy r2
      · rcases List.mem_append.mp hp with z | z
        · exact .inr z
        · exact .inl (List.mem_append_right _ z)
      · have := List.nodup_append.mp h1
        exact List.nodup_append.mpr ⟨h2, this.2.1, fun a ha b hb z => h3 b (List.mem_append_right _ hb) (by rw [← z]; exact ha)⟩
    · obtain ⟨ps2, q1, q2, q3⟩ := RepMF.put hy r2
      refine ⟨p1 ++ ps2, ?_, fun p hp => ?_, fun h1 h2 h3 => ?_⟩
      · show RepMF K F H (if k = g then (k, y) :: vs else (k, v) :: putF g y vs) (if k = g then (k, m1) :: ms else (k, m) :: putFM g m1 ms) _
        rw [if_neg hk, if_neg hk]
        exact .cons r1 q1
      · rcases List.mem_append.mp hp with z | z
        · exact .inl (List.mem_append_left _ z)
        · rcases q2 p z with w | w
          · exact .inl (List.mem_append_right _ w)
          · exact .inr w
      · have nd := List.nodup_append.mp h1
        refine List.nodup_append.mpr ⟨nd.1, q3 nd.2.1 h2 (fun p hp => h3 p (List.mem_append_right _ hp)), fun a ha b hb z => ?_⟩
        rcases q2 b hb with w | w
        · exact nd.2.2 a ha b w z
        · exact h3 a (List.mem_append_left _ ha) (by rw [z]; exact w)
theorem RepMK.keys : ∀ {vs : List (Key × V)} {ms : List (Key × M)} {ps : List Addr}, RepMK K F H vs ms ps → ∀ k : Key, (vs.any fun kv => decide (kv.1 = k)) = ms.any fun kv => decide (kv.1 = k)
  | _, _, _, .nil, k => rfl
  | _, _, _, .cons _ r, k => by rw [List.any_cons, List.any_cons, RepMK.keys r k]
theorem RepMT.keys : ∀ {vs : List (List Key × V)} {ms : List (List Key × M)} {ps : List Addr}, RepMT K F H vs ms ps → ∀ k : List Key, (vs.any fun kv => decide (kv.1 = k)) = ms.any fun kv => decide (kv.1 = k)
  | _, _, _, .nil, k => rfl
  | _, _, _, .cons _ r, k => by rw [List.any_cons, List.any_cons, RepMT.keys r k]
theorem RepMK.snoc {k : Key} : ∀ {vs : List (Key × V)} {ms : List (Key × M)} {ps qs : List Addr} {v : V} {m : M}, RepMK K F H vs ms ps → RepM K F H v m qs → RepMK K F H (vs ++ [(k, v)]) (ms ++ [(k, m)]) (ps ++ qs)
  | _, _, _, qs, v, m, .nil, h => by
    have : RepMK K F H [(k, v)] [(k, m)] (qs ++ []) := .cons h .nil
    simpa using this
  | _, _, _, qs, v, m, .cons r1 r2, h => by
    rw [List.append_assoc]
    exact .cons r1 (RepMK.snoc (k := k) r2 h)
theorem RepMT.snoc {k : List Key} : ∀ {vs : List (List Key × V)} {ms : List (List Key × M)} {ps qs : List Addr} {v : V} {m : M}, RepMT K F H vs ms ps → RepM K F H v m qs → RepMT K F H (vs ++ [(k, v)]) (ms ++ [(k, m)]) (ps ++ qs)
  | _, _, _, qs, v, m, .nil, h => by
    have : RepMT K F H [(k, v)] [(k, m)] (qs ++ []) := .cons h .nil
    simpa using this
  | _, _, _, qs, v, m, .cons r1 r2, h => by
    rw [List.append_assoc]
    exact .cons r1 (RepMT.snoc (k := k) r2 h)
theorem RepMK.mapv {k : Key} {y : V} {d : D} (hy : Rep K F y d) : ∀ {vs : List (Key × V)} {ms : List (Key × M)} {ps : List Addr}, RepMK K F H vs ms ps →
    ∃ ps2, RepMK K F H (vs.map fun kv => if kv.1 = k then (kv.1, y) else kv) (ms.map fun kv => if kv.1 = k then (kv.1, .fz d) else kv) ps2 ∧ ps2.Sublist ps
  | _, _, _, .nil => ⟨[], .nil, .slnil⟩
  | _, _, _, .cons (k := g) (v := v) (m := m) (ps := p1) (qs := p2) r1 r2 => by
    obtain ⟨ps2, q1, q2⟩ := RepMK.mapv (k := k) hy r2
    rw [List.map_cons, List.map_cons]
    by_cases hk : g = k
    · refine ⟨[] ++ ps2, ?_, q2.trans (List.sublist_append_right _ _)⟩
      show RepMK K F H ((if g = k then (g, y) else (g, v)) :: _) ((if g = k then (g, .fz d) else (g, m)) :: _) _
      rw [if_pos hk, if_pos hk]
      exact .cons (.fz hy) q1
    · refine ⟨p1 ++ ps2, ?_, (List.append_sublist_append_left _).mpr q2⟩
      show RepMK K F H ((if g = k then (g, y) else (g, v)) :: _) ((if g = k then (g, .fz d) else (g, m)) :: _) _
      rw [if_neg hk, if_neg hk]
      exact .cons r1 q1
theorem RepMT.mapv {k : List Key} {y : V} {d : D} (hy : Rep K F y d) : ∀ {vs : List (List Key × V)} {ms : List (List Key × M)} {ps : List Addr}, RepMT K F H vs ms ps →
    ∃ ps2, RepMT K F H (vs.map fun kv => if kv.1 = k then (kv.1, y) else kv) (ms.map fun kv => if kv.1 = k then (kv.1, .fz d) else kv) ps2 ∧ ps2.Sublist ps
  | _, _, _, .nil => ⟨[], .nil, .slnil⟩
  | _, _, _, .cons (k := g) (v := v) (m := m) (ps := p1) (qs := p2) r1 r2 => by
    obtain ⟨ps2, q1, q2⟩ := RepMT.mapv (k := k) hy r2
    rw [List.map_cons, List.map_cons]
    by_cases hk : g = k
    · refine ⟨[] ++ ps2, ?_, q2.trans (List.sublist_append_right _ _)⟩
      show RepMT K F H ((if g = k then (g, y) else (g, v)) :: _) ((if g = k then (g, .fz d) else (g, m)) :: _) _
      rw [if_pos hk, if_pos hk]
      exact .cons (.fz hy) q1
    · refine ⟨p1 ++ ps2, ?_, (List.append_sublist_append_left _).mpr q2⟩
      show RepMT K F H ((if g = k then (g, y) else (g, v)) :: _) ((if g = k then (g, .fz d) else (g, m)) :: _) _
      rw [if_neg hk, if_neg hk]
      exact .cons r1 q1
theorem RepMK.put {k : Key} {y : V} {d : D} (hy : Rep K F y d) {vs : List (Key × V)} {ms : List (Key × M)} {ps : List Addr} (r : RepMK K F H vs ms ps) :
    ∃ ps2, RepMK K F H (putK vs k y) (aPut ms k (.fz d)) ps2 ∧ ps2.Sublist ps := by
  unfold putK aPut
  rw [r.keys k]
  split
  · exact RepMK.mapv hy r
  · exact ⟨ps ++ [], r.snoc (.fz hy), by simp⟩
theorem RepMT.put {k : List Key} {y : V} {d : D} (hy : Rep K F y d) {vs : List (List Key × V)} {ms : List (List Key × M)} {ps : List Addr} (r : RepMT K F H vs ms ps) :
    ∃ ps2, RepMT K F H (putK vs k y) (aPut ms k (.fz d)) ps2 ∧ ps2.Sublist ps := by
  unfold putK aPut
  rw [r.keys k]
  split
  · exact RepMT.mapv hy r
  · exact ⟨ps ++ [], r.snoc (.fz hy), by simp⟩
end
end PD
set_option Elab.async false
set_option linter.all false
set_option maxRecDepth 100000
set_option maxHeartbeats 4000000
/-! PM4: rules over places. -/
namespace PD
open PySem PySem.Spec L2

theorem nodup1 (a : Addr) : [a].Nodup := List.nodup_cons.mpr ⟨List.not_mem_nil, List.nodup_nil⟩
/-! ### keys -/
inductive KD where
  | k (k : Key) | t (ks : List Key)
def KRep (H : Hp) (y : V) : KD → Prop
  | .k k => y = kV k
  | .t ks => ∃ b, y = .ref b ∧ H b = some (.tup (ks.map kV))
theorem KRep.mono {H H' : Hp} {y : V} {kd : KD} (e : Same H H') (h : KRep H y kd) : KRep H' y kd := by
  cases kd with
  | k k => exact h
  | t ks =>
    obtain ⟨b, h1, h2⟩ := h
    exact ⟨b, h1, e _ _ h2⟩
def toKey : D → Option Key
  | .int i => some (.inl i)
  | .str x => some (.inr x)
  | _ => none
def toKeys : List D → Option (List Key)
  | [] => some []
  | d :: r => match toKey d with
    | some k => (toKeys r).map (k :: ·)
    | none => none
theorem toKey_rep {K : PySem.W.Frag} {F : Hp} {v : V} {d : D} {k : Key} (r : Rep K F v d) (h : toKey d = some k) : v = kV k := by
  cases r <;> simp [toKey] at h <;> (subst h; rfl)
theorem toKeys_rep {K : PySem.W.Frag} {F : Hp} : ∀ {vs : List V} {ds : List D} {ks : List Key}, RepL K F vs ds → toKeys ds = some ks → vs = ks.map kV
  | _, _, ks, .nil, h => by
    simp [toKeys] at h
    subst h
    rfl
  | _, _, ks, .cons (d := d) (ds := ds) r1 r2, h => by
    unfold toKeys at h
    cases e : toKey d with
    | none => rw [e] at h; cases h
    | some k =>
      simp only [e] at h
      cases e2 : toKeys ds with
      | none => rw [e2] at h; cases h
      | some ks' =>
        rw [e2] at h
        cases h
        rw [toKey_rep r1 e, toKeys_rep r2 e2]
        rfl
/-- what stands at a key -/
def kGet {β : Type} : List (Key × β) → Key → Option β := aGet
def mGet : M → KD → Option (Option M)
  | .dK kvs, .k k => some (aGet kvs k)
  | .dT kvs, .t ks => some (aGet kvs ks)
  | _, _ => none
def mPut : M → KD → M → Option M
  | .dK kvs, .k k, y => if kvs.length < lim then some (.dK (aPut kvs k y)) else none
  | .dT kvs, .t ks, y => if kvs.length < lim then some (.dT (aPut kvs ks y)) else none
  | _, _, _ => none
def dGet : D → KD → Option (Option D)
  | .dic kvs, .k k => some (aGet kvs k)
  | .dit kvs, .t ks => some (aGet kvs ks)
  | _, _ => none
section
variable {K : PySem.W.Frag} {F H : Hp}
theorem RepMK.get {k : Key} : ∀ {vs : List (Key × V)} {ms : List (Key × M)} {ps : List Addr}, RepMK K F H vs ms ps → (aGet ms k = none → valV vs k = none) ∧ ∀ m, aGet ms k = some m → ∃ v qs, valV vs k = some v ∧ RepM K F H v m qs
  | _, _, _, .nil => ⟨fun _ => rfl, fun m h => by simp at h⟩
  | _, _, _, .cons (k := g) (v := v) r1 r2 => by
    obtain ⟨i1, i2⟩ := RepMK.get (k := k) r2
    by_cases hg : g = k
    · refine ⟨fun h => ?_, fun m h => ?_⟩
      · rw [aGet_cons, if_pos hg] at h; cases h
      · rw [aGet_cons, if_pos hg] at h
        cases h
        exact ⟨v, _, valV_pos hg, r1⟩
    · refine ⟨fun h => ?_, fun m h => ?_⟩
      · rw [aGet_cons, if_neg hg] at h
        rw [valV_neg hg]
        exact i1 h
      · rw [aGet_cons, if_neg hg] at h
        rw [valV_neg hg]
        exact i2 m h
theorem RepMT.get {k : List Key} : ∀ {vs : List (List Key × V)} {ms : List (List Key × M)} {ps : List Addr}, RepMT K F H vs ms ps → (aGet ms k = none → valV vs k = none) ∧ ∀ m, aGet ms k = some m → ∃ v qs, valV vs k = some v ∧ RepM K F H v m qs
  | _, _, _, .nil => ⟨fun _ => rfl, fun m h => by simp at h⟩
  | _, _, _, .cons (k := g) (v := v) r1 r2 => by
    obtain ⟨i1, i2⟩ := RepMT.get (k := k) r2
    by_cases hg : g = k
    · refine ⟨fun h => ?_, fun m h => ?_⟩
      · rw [aGet_cons, if_pos hg] at h; cases h
      · rw [aGet_cons, if_pos hg] at h
        cases h
        exact ⟨v, _, valV_pos hg, r1⟩
    · refine ⟨fun h => ?_, fun m h => ?_⟩
      · rw [aGet_cons, if_neg hg] at h
        rw [valV_neg hg]
        exact i1 h
      · rw [aGet_cons, if_neg hg] at h
        rw [valV_neg hg]
        exact i2 m h
theorem RepK.get {k : Key} : ∀ {vs : List (Key × V)} {ms : List (Key × D)}, RepK K F vs ms → (aGet ms k = none → valV vs k = none) ∧ ∀ m, aGet ms k = some m → ∃ v, valV vs k = some v ∧ Rep K F v m
  | _, _, .nil => ⟨fun _ => rfl, fun m h => by simp at h⟩
  | _, _, .cons (f := g) (v := v) r1 r2 => by
    obtain ⟨i1, i2⟩ := RepK.get (k := k) r2
    by_cases hg : g = k
    · refine ⟨fun h => ?_, fun m h => ?_⟩
      · rw [aGet_cons, if_pos hg] at h; cases h
      · rw [aGet_cons, if_pos hg] at h
        cases h
        exact ⟨v, valV_pos hg, r1⟩
    · refine ⟨fun h => ?_, fun m h => ?_⟩
      · rw [aGet_cons, if_neg hg] at h
        rw [valV_neg hg]
        exact i1 h
      · rw [aGet_cons, if_neg hg] at h
        rw [valV_neg hg]
        exact i2 m h
theorem RepT.get {k : List Key} : ∀ {vs : List (List Key × V)} {ms : List (List Key × D)}, RepT K F vs ms → (aGet ms k = none → valV vs k = none) ∧ ∀ m, aGet ms k = some m → ∃ v, valV vs k = some v ∧ Rep K F v m
  | _, _, .nil => ⟨fun _ => rfl, fun m h => by simp at h⟩
  | _, _, .cons (f := g) (v := v) r1 r2 => by
    obtain ⟨i1, i2⟩ := RepT.get (k := k) r2
    by_cases hg : g = k
    · refine ⟨fun h => ?_, fun m h => ?_⟩
      · rw [aGet_cons, if_pos hg] at h; cases h
      · rw [aGet_cons, if_pos hg] at h
        cases h
        exact ⟨v, valV_pos hg, r1⟩
    · refine ⟨fun h => ?_, fun m h => ?_⟩
      · rw [aGet_cons, if_neg hg] at h
        rw [valV_neg hg]
        exact i1 h
      · rw [aGet_cons, if_neg hg] at h
        rw [valV_neg hg]
        exact i2 m h
theorem mGet_rep {v y : V} {m : M} {ps : List Addr} {kd : KD} {o : Option M} (r : RepM K F H v m ps) (h : mGet m kd = some o) (hy : KRep H y kd) :
    ∃ a o', v = .ref a ∧ IsD H a ∧ DGet H a y o' ∧ (o = none → o' = none) ∧ ∀ m', o = some m' → ∃ v' qs, o' = some v' ∧ RepM K F H v' m' qs := by
  cases r with
  | fz r => cases kd <;> simp [mGet] at h
  | lst e r => cases kd <;> simp [mGet] at h
  | ins e1 e2 e3 r => cases kd <;> simp [mGet] at h
  | dK e r =>
    cases kd with
    | t ks => simp [mGet] at h
    | k k =>
      simp [mGet] at h
      cases (show y = kV k from hy)
      obtain ⟨i1, i2⟩ := r.get (k := k)
      refine ⟨_, _, rfl, .inl ⟨_, .inl e⟩, .k e, fun z => i1 (by rw [h, z]), fun m' z => ?_⟩
      obtain ⟨v', qs, h1, h2⟩ := i2 m' (by rw [h, z])
      exact ⟨v', qs, h1, h2⟩
  | dT e r =>
    cases kd with
    | k k => simp [mGet] at h
    | t k =>
      simp [mGet] at h
      obtain ⟨b, rfl, hb⟩ := hy
      obtain ⟨i1, i2⟩ := r.get (k := k)
      refine ⟨_, _, rfl, .inr ⟨_, .inl e⟩, .t e hb, fun z => i1 (by rw [h, z]), fun m' z => ?_⟩
      obtain ⟨v', qs, h1, h2⟩ := i2 m' (by rw [h, z])
      exact ⟨v', qs, h1, h2⟩
theorem dGet_rep {v y : V} {m : D} {kd : KD} {o : Option D} (r : Rep K F v m) (sF : Same F H) (h : dGet m kd = some o) (hy : KRep H y kd) :
    ∃ a o', v = .ref a ∧ IsD H a ∧ DGet H a y o' ∧ (o = none → o' = none) ∧ ∀ m', o = some m' → ∃ v', o' = some v' ∧ Rep K F v' m' := by
  cases r <;> try (cases kd <;> simp [dGet] at h; done)
  · rename_i e r
    cases kd with
    | t ks => simp [dGet] at h
    | k k =>
      simp [dGet] at h
      cases (show y = kV k from hy)
      obtain ⟨i1, i2⟩ := r.get (k := k)
      refine ⟨_, _, rfl, .inl ⟨_, .inl (sF _ _ e)⟩, .k (sF _ _ e), fun z => i1 (by rw [h, z]), fun m' z => ?_⟩
      obtain ⟨v', h1, h2⟩ := i2 m' (by rw [h, z])
      exact ⟨v', h1, h2⟩
  · rename_i e r
    cases kd with
    | k k => simp [dGet] at h
    | t k =>
      simp [dGet] at h
      obtain ⟨b, rfl, hb⟩ := hy
      obtain ⟨i1, i2⟩ := r.get (k := k)
      refine ⟨_, _, rfl, .inr ⟨_, .inl (sF _ _ e)⟩, .t (sF _ _ e) hb, fun z => i1 (by rw [h, z]), fun m' z => ?_⟩
      obtain ⟨v', h1, h2⟩ := i2 m' (by rw [h, z])
      exact ⟨v', h1, h2⟩
end

section
variable (X : Cx) (Wx : WX) (S : Sx)
/-- a place in slot i; its reading is quiet -/
structure LJ (e : Expr) (i : Nat) (f : En → Option (List Stp)) : Prop where
  ex : ∃ t, PE X e t ∧ ∀ B F0 F H σ ρ Q, St2 (fx X S B F0) F H σ ρ → (∃ π m', f ρ = some π ∧ plc ρ i π = some m' ∧ ∀ v F' H', Ext F H F' H' → IsAt ρ i σ H' π v m' → Q v H') → t σ H Q
/-- a key -/
structure KyJ (e : Expr) (f : En → Res KD) : Prop where
  ex : ∃ t, PE X e t ∧ ∀ B F0 F H σ ρ Q, St2 (fx X S B F0) F H σ ρ → Post KRep (fx X S B F0) Wx σ F (f ρ) Q → t σ H Q
def PostM (Z : Fx) (Wx : WX) (σ : St) (F : Hp) (r : Res M) (Q : VK) : Prop := match r with
  | .ok m ρ' => ∀ v ps F' H', St2 Z F' H' σ ρ' → Same F F' → RepM Z.K F' H' v m ps → ps.Nodup → (∀ p ∈ ps, Free Z F' H' σ ρ' p) → Q v H'
  | .exc x ρ' => ∀ cls dd F' H', St2 Z F' H' σ ρ' → Same F F' → RepX Z.K F' cls dd x → Wx cls dd σ H'
  | .bad => False
/-- something fresh, still to be changed -/
structure MJ (e : Expr) (f : En → Res M) : Prop where
  ex : ∃ t, PE X e t ∧ ∀ B F0 F H σ ρ Q, St2 (fx X S B F0) F H σ ρ → PostM (fx X S B F0) Wx σ F (f ρ) Q → t σ H Q
end
def QPost {α β : Type} (R : Hp → β → α → Prop) (K : PySem.W.Frag) (Wx : WX) (σ : St) (F H : Hp) (r : Res α) (Q : β → Hp → Prop) : Prop := match r with
  | .ok d _ => ∀ v F' H', Ext F H F' H' → R F' v d → Q v H'
  | .exc x _ => ∀ cls dd F' H', Ext F H F' H' → RepX K F' cls dd x → Wx cls dd σ H'
  | .bad => False

section
variable {X : Cx} {Wx : WX} {S : Sx}
theorem quiet {α β : Type} {R : Hp → β → α → Prop} {t : St → Hp → (β → Hp → Prop) → Prop} {f : En → Res α} {B F0 F H : Hp} {σ : St} {ρ : En} {Q : β → Hp → Prop}
    (q : ∀ B F0 F H σ ρ Q, St2 (fx X S B F0) F H σ ρ → Post R (fx X S B F0) Wx σ F (f ρ) Q → t σ H Q) (st : St2 (fx X S B F0) F H σ ρ) (h : QPost R X.K Wx σ F H (f (calm ρ)) Q) : t σ H Q := by
  refine q H F F H σ (calm ρ) Q st.calm ?_
  cases e : f (calm ρ) with
  | bad => rw [e] at h; exact h
  | exc x ρ' =>
    rw [e] at h
    exact fun cls dd F' H' st' _ r => h cls dd F' H' st'.grown r
  | ok d ρ' =>
    rw [e] at h
    exact fun v F' H' st' _ r => h v F' H' st'.grown r
/-! ### keys -/
def kOf (f : En → Res D) : En → Res KD := fun ρ => (f ρ).bind fun d ρ1 => match toKey d with
  | some k => .ok (.k k) ρ1
  | none => .bad
def kOfT (f : En → Res (List D)) : En → Res KD := fun ρ => (f ρ).bind fun ds ρ1 => match toKeys ds with
  | some ks => if ds.length ≤ lim then .ok (.t ks) ρ1 else .bad
  | none => .bad
theorem ky_e {e : Expr} {f : En → Res D} (h : EJ X Wx S e f) : KyJ X Wx S e (kOf f) := by
  obtain ⟨t, p, q⟩ := h.ex
  refine ⟨t, p, fun B F0 F H σ ρ Q st post => q B F0 F H σ ρ _ st (post.bind fun d ρ1 v F1 H1 post1 st1 s1 r1 => ?_)⟩
  cases e1 : toKey d with
  | none => simp only [e1] at post1; exact post1.elim
  | some k =>
    simp only [e1] at post1
    exact post1 v F1 H1 st1 (Same.refl _) (toKey_rep r1 e1)
theorem ky_t {es : List Expr} {x1 : Nat} {pos : Pos} {f : En → Res (List D)} (h : AJ X Wx S es f) : KyJ X Wx S (.Tuple es x1 pos) (kOfT f) := by
  obtain ⟨t, p, q⟩ := h.ex
  refine ⟨_, pe_tup p, fun B F0 F H σ ρ Q st post => ?_⟩
  refine q B F0 F H σ ρ _ st (post.bind fun d ρ1 v F1 H1 post1 st1 s1 r1 => ?_)
  cases e1 : toKeys d with
  | none => simp only [e1] at post1; exact post1.elim
  | some ks =>
    simp only [e1] at post1
    split at post1
    · rename_i hl
      refine ⟨lim_le (by rw [r1.length]; exact hl), fun a ha => ?_⟩
      have ex := Ext.laid (o := .tup v) st1.fz.fH ha
      exact post1 _ _ _ (st1.ext ex) ex.ff ⟨a, rfl, by rw [upd_same, toKeys_rep r1 e1]⟩
    · exact post1.elim

/-! ### places -/
def lName (i : Nat) : En → Option (List Stp) := fun ρ => match ρ[i]? with
  | some (.mt _) => some []
  | _ => none
theorem lj_name (i : Nat) {x : Str} {pos : Pos} (hN : X.N[i]? = some x := by rfl) (hv : Vis X.env.scope x := by first | exact Or.inl rfl | exact Or.inr (Or.inl rfl) | exact Or.inr (Or.inr rfl)) (hd : (x == ("__debug__" : Str)) = false := by decide)
    (hcd : (x == ("__classdict__" : Str)) = false := by decide) : LJ X S (.Name x pos) i (lName i) := by
  refine ⟨_, pe_var hN hv hd hcd, fun B F0 F H σ ρ Q st ⟨π, m', e1, e2, k⟩ => ?_⟩
  unfold lName at e1
  split at e1
  · rename_i m e
    cases e1
    obtain ⟨v, hv⟩ := st.at_ e2
    obtain ⟨m0, w, h1, h2, h3, h4⟩ := hv
    cases h4
    exact ⟨v, h3, k v F H (Ext.refl st.fz.fH) ⟨m0, v, h1, h2, h3, .nil⟩⟩
  · cases e1
/-- a class by its name -/
structure ClsJ (K : PySem.W.Frag) (n : Str) (C : Addr) : Prop where
  ns : PySem.W.nsIn K mainGlobals n = some (some (.ref C))
  c : Cls K C
def lFld (n : Str) (g : Str) (i : Nat) (f : En → Option (List Stp)) : En → Option (List Stp) := fun ρ => match f ρ with
  | some π => match plc ρ i π with
    | some (.ins n' fs) => if n' = n ∧ (fs.lookup g).isSome then some (π ++ [.fld g]) else none
    | _ => none
  | none => none
theorem lj_fld {n g : Str} {C : Addr} {i : Nat} {e : Expr} {pos : Pos} {f : En → Option (List Stp)} (c : ClsJ X.K n C) (na : NoAttr X.K C g) (h : LJ X S e i f) (hb : attributeBase e g X.env (eval e X.env) = eval e X.env := by rfl) :
    LJ X S (.Attribute e g pos) i (lFld n g i f) := by
  obtain ⟨t, p, q⟩ := h.ex
  refine ⟨_, pe_fld p hb, fun B F0 F H σ ρ Q st ⟨π', m', e1, e2, k⟩ => ?_⟩
  unfold lFld at e1
  cases ef : f ρ with
  | none => rw [ef] at e1; cases e1
  | some π =>
    simp only [ef] at e1
    split at e1
    · rename_i n' fs ep
      split at e1
      · rename_i hc
        obtain ⟨hn, hs⟩ := hc
        cases e1
        subst hn
        refine q B F0 F H σ ρ _ st ⟨π, _, ef, ep, fun v F1 H1 ex at_ => ?_⟩
        have st1 := st.ext ex
        obtain ⟨ps', r, _⟩ := st1.part at_
        obtain ⟨m, w, a1, a2, a3, a4⟩ := at_
        cases r with
        | ins h1 h2 h3 r =>
          have hC := c.ns
          rw [h3] at hC
          cases hC
          obtain ⟨mf, hmf⟩ := Option.isSome_iff_exists.mp hs
          obtain ⟨v', l, _⟩ := r.part hmf
          have em : m' = mf := by
            have := M.at_snoc (s := .fld g) a2 hmf
            obtain ⟨m0, z1, z2⟩ := plc_some e2
            rw [a1] at z1
            cases z1
            rw [this] at z2
            cases z2
            rfl
          subst em
          exact ⟨_, _, _, _, v', rfl, h1, c.c, na, l, k v' F1 H1 ex ⟨m, w, a1, M.at_snoc a2 hmf, a3, a4.snoc (.fld h1 l)⟩⟩
      · cases e1
    · cases e1

/-! ### reading -/
def fPlc (i : Nat) (f : En → Option (List Stp)) : En → Res D := fun ρ => match f ρ with
  | some π => match plc ρ i π with
    | some (.fz d) => .ok d ρ
    | _ => .bad
  | none => .bad
theorem ej_plc {i : Nat} {e : Expr} {f : En → Option (List Stp)} (h : LJ X S e i f) : EJ X Wx S e (fPlc i f) := by
  obtain ⟨t, p, q⟩ := h.ex
  refine ⟨t, p, fun B F0 F H σ ρ Q st post => ?_⟩
  unfold fPlc at post
  cases ef : f ρ with
  | none => rw [ef] at post; exact post.elim
  | some π =>
    simp only [ef] at post
    split at post
    · rename_i d ep
      refine q B F0 F H σ ρ _ st ⟨π, _, ef, ep, fun v F1 H1 ex at_ => ?_⟩
      have st1 := st.ext ex
      obtain ⟨ps', r, _⟩ := st1.part at_
      cases r with
      | fz r => exact post v F1 H1 st1 ex.ff r
    · exact post.elim
/-! ### fresh things -/
def mFz (f : En → Res D) : En → Res M := fun ρ => (f ρ).bind fun d ρ1 => .ok (.fz d) ρ1
def mLst (f : En → Res (List D)) : En → Res M := fun ρ => (f ρ).bind fun ds ρ1 => .ok (.lst (ds.map .fz)) ρ1
theorem mj_ej {e : Expr} {f : En → Res D} (h : EJ X Wx S e f) : MJ X Wx S e (mFz f) := by
  obtain ⟨t, p, q⟩ := h.ex
  refine ⟨t, p, fun B F0 F H σ ρ Q st post => q B F0 F H σ ρ _ st ?_⟩
  unfold mFz at post
  cases ef : f ρ with
  | bad => rw [ef] at post; exact post.elim
  | exc x ρ1 => rw [ef] at post; exact post
  | ok d ρ1 =>
    rw [ef] at post
    exact fun v F' H' st' s' r => post v [] F' H' st' s' (.fz r) List.nodup_nil fun p hp => by cases hp
theorem RepML.fzs {K : PySem.W.Frag} {F H : Hp} : ∀ {vs : List V} {ds : List D}, RepL K F vs ds → RepML K F H vs (ds.map .fz) []
  | _, _, .nil => .nil
  | _, _, .cons r1 r2 => .cons (ps := []) (.fz r1) (RepML.fzs r2)
theorem mj_oj {e : Expr} {f : En → Res (List D)} (h : OJ X Wx S e f) : MJ X Wx S e (mLst f) := by
  obtain ⟨t, p, q⟩ := h.ex
  refine ⟨t, p, fun B F0 F H σ ρ Q st post => q B F0 F H σ ρ _ st ?_⟩
  unfold mLst at post
  cases ef : f ρ with
  | bad => rw [ef] at post; exact post.elim
  | exc x ρ1 => rw [ef] at post; exact post
  | ok d ρ1 =>
    rw [ef] at post
    exact fun a vs F' H' st' s' h1 h2 h3 h4 h5 r => post (.ref a) [a] F' H' st' s' (.lst h1 (RepML.fzs r)) (nodup1 a) fun p hp => by
      rw [List.mem_singleton] at hp
      subst hp
      exact ⟨h2, h3, h4, h5⟩
theorem mj_dK {pos : Pos} : MJ X Wx S (.Dict [] [] pos) (fun ρ => .ok (.dK []) ρ) :=
  ⟨_, pe_dnewK, fun B F0 F H σ ρ Q st post p hp => post (.ref p) [p] F _ (st.laid hp) (Same.refl _) (.dK upd_same .nil) (nodup1 p) fun q hq => by
    rw [List.mem_singleton] at hq
    subst hq
    exact ⟨none_of_same st.fz.fH hp, none_of_same st.fz.bH hp, (st.newFree hp).no, apart_new st hp⟩⟩
theorem mj_dT {pos : Pos} : MJ X Wx S (.Dict [] [] pos) (fun ρ => .ok (.dT []) ρ) :=
  ⟨_, pe_dnewT, fun B F0 F H σ ρ Q st post p hp => post (.ref p) [p] F _ (st.laid hp) (Same.refl _) (.dT upd_same .nil) (nodup1 p) fun q hq => by
    rw [List.mem_singleton] at hq
    subst hq
    exact ⟨none_of_same st.fz.fH hp, none_of_same st.fz.bH hp, (st.newFree hp).no, apart_new st hp⟩⟩
theorem fl_postM {Z : Fx} {σ : St} {F : Hp} {r : Res M} {k : M → En → Fl} {E : Ends} {Q : VK}
    (post : SPost Z Wx F (r.fl k) E) (h : ∀ m ρ' v ps F' H', SPost Z Wx F' (k m ρ') E → St2 Z F' H' σ ρ' → Same F F' → RepM Z.K F' H' v m ps → ps.Nodup → (∀ p ∈ ps, Free Z F' H' σ ρ' p) → Q v H') : PostM Z Wx σ F r Q := by
  cases r with
  | bad => exact post
  | exc x ρ => exact fun cls dd F' H' st s rx => post cls dd σ F' H' st s rx
  | ok d ρ => exact fun v ps F' H' st s h1 h2 h3 => h d ρ v ps F' H' (SPost.mono post s) st s h1 h2 h3

/-! ### e.g = v -/
def sFldM (n g : Str) (i : Nat) (f : En → Option (List Stp)) (fv : En → Res M) : En → Fl := fun ρ => (fv ρ).fl fun m1 ρ1 => match f ρ1 with
  | some π => match plc ρ1 i π with
    | some (.ins n' fs) => if n' = n ∧ fs.length < 900 then .nx (setP ρ1 i π (.ins n (putFM g m1 fs))) else .bad
    | _ => .bad
  | none => .bad
theorem sj_fldM {n g : Str} {C : Addr} {i : Nat} {e value : Expr} {pos pos' : Pos} {f : En → Option (List Stp)} {fv : En → Res M} (c : ClsJ X.K n C) (na : NoAttr X.K C g) (h : LJ X S e i f) (hv : MJ X Wx S value fv)
    (hs : swapsWith value (some (.Attribute e g pos')) pos.line X.env = pure false := by rfl) : SJ X Wx S (.Assign [.Attribute e g pos'] value pos) (sFldM n g i f fv) := by
  obtain ⟨t, p, q⟩ := h.ex
  obtain ⟨tv, pv, qv⟩ := hv.ex
  refine ⟨_, ps_fld p pv hs, fun B F0 F H σ ρ E st post => qv B F0 F H σ ρ _ st (fl_postM post fun m1 ρ1 y ps1 F1 H1 post1 st1 s1 r1 nd1 fr1 => ?_)⟩
  cases ef : f ρ1 with
  | none => simp only [ef] at post1; exact post1.elim
  | some π =>
    simp only [ef] at post1
    split at post1
    · rename_i n' fs ep
      split at post1
      · rename_i hc
        obtain ⟨hn, hl⟩ := hc
        subst hn
        refine q B F0 F1 H1 σ ρ1 _ st1 ⟨π, _, ef, ep, fun v F2 H2 ex at_ => ?_⟩
        have st2 := st1.ext ex
        obtain ⟨ps', r, nd, n2, fr2, _⟩ := st2.part at_
        have th1 := RepM.there r1
        have r1' : RepM X.K F2 H2 y m1 ps1 := r1.move ex.ff fun p hp => by
          obtain ⟨o, ho⟩ := th1 p hp
          rw [ho, ex.hh _ _ ho]
        have fr1' : ∀ p ∈ ps1, Free (fx X S B F0) F2 H2 σ ρ1 p := fun p hp => by
          obtain ⟨o, ho⟩ := th1 p hp
          exact (fr1 p hp).ext st1 ho ex
        have dj : ∀ p ∈ ps1, p ∉ ps' := fun p hp => fr2 p (fr1' p hp)
        cases r with
        | @ins a C' dx _ vs ms psf h1 h2 h3 r =>
          have hC := c.ns
          rw [h3] at hC
          cases hC
          have hl' : vs.length < 1000 := by rw [r.length]; omega
          refine ⟨a, _, dx, vs, rfl, h1, c.c, na, hl', ?_⟩
          have na1 := (List.nodup_cons.mp nd)
          have na2 := (List.nodup_cons.mp na1.2)
          have a1 : ∀ p ∈ psf, p ≠ a := fun p hp z => na1.1 (by rw [← z]; exact List.mem_cons_of_mem _ hp)
          have adx : dx ≠ a := fun z => na1.1 (by rw [← z]; exact List.mem_cons_self ..)
          have a2 : ∀ p ∈ ps1, p ≠ a := fun p hp z => dj p hp (by rw [z]; exact List.mem_cons_self ..)
          have r3 : RepMF X.K F2 (upd H2 a (.ins C dx (putF g y vs))) vs fs psf := r.move (Same.refl _) fun p hp => upd_ne (a1 p hp)
          have r4 : RepM X.K F2 (upd H2 a (.ins C dx (putF g y vs))) y m1 ps1 := r1'.move (Same.refl _) fun p hp => upd_ne (a2 p hp)
          obtain ⟨ps2, q1, q2, q3⟩ := RepMF.put (g := g) r4 r3
          have st3 := st2.write1 (o' := .ins C dx (putF g y vs)) (m1 := .ins n' (putFM g m1 fs)) (ps1 := a :: dx :: ps2) at_ (.ins h1 h2 h3 r) (List.mem_cons_self ..) (.ins upd_same (by rw [upd_ne adx]; exact h2) h3 q1) (by
            refine List.nodup_cons.mpr ⟨fun z => ?_, List.nodup_cons.mpr ⟨fun z => ?_, q3 na2.2 nd1 fun p hp hq => dj p hq (List.mem_cons_of_mem _ (List.mem_cons_of_mem _ hp))⟩⟩
            · rcases List.mem_cons.mp z with z | z
              · exact adx z.symm
              · rcases q2 a z with w | w
                · exact a1 a w rfl
                · exact a2 a w rfl
            · rcases q2 dx z with w | w
              · exact na2.1 w
              · exact dj dx w (List.mem_cons_of_mem _ (List.mem_cons_self ..))) fun p hp => by
            rcases List.mem_cons.mp hp with rfl | hp
            · exact .inl (List.mem_cons_self ..)
            · rcases List.mem_cons.mp hp with rfl | hp
              · exact .inl (List.mem_cons_of_mem _ (List.mem_cons_self ..))
              · rcases q2 p hp with w | w
                · exact .inl (List.mem_cons_of_mem _ (List.mem_cons_of_mem _ w))
                · exact .inr (fr1' p w)
          exact post1 σ F2 _ st3 ex.ff
      · exact post1.elim
    · exact post1.elim
end
end PD
set_option Elab.async false
set_option linter.all false
set_option maxRecDepth 100000
set_option maxHeartbeats 4000000
/-! PM5: dicts and lists at places; fields and dicts that are frozen. -/
namespace PD
open PySem PySem.Spec L2

section
variable {X : Cx} {Wx : WX} {S : Sx}
theorem mPut_rep {K : PySem.W.Frag} {F H : Hp} {v y z : V} {m m1 : M} {d : D} {ps : List Addr} {kd : KD} (r : RepM K F H v m ps) (nd : ps.Nodup) (h : mPut m kd (.fz d) = some m1) (hy : KRep H y kd) (hz : Rep K F z d) :
    ∃ a o', v = .ref a ∧ DPut H a y z (upd H a o') ∧ a ∈ ps ∧ ∃ ps1, RepM K F (upd H a o') v m1 ps1 ∧ ps1.Sublist ps := by
  cases r with
  | fz r => cases kd <;> simp [mPut] at h
  | lst e r => cases kd <;> simp [mPut] at h
  | ins e1 e2 e3 r => cases kd <;> simp [mPut] at h
  | @dK a vs ms ps e r =>
    cases kd with
    | t ks => simp [mPut] at h
    | k k =>
      unfold mPut at h
      simp only [] at h
      split at h
      · rename_i hl
        cases h
        cases (show y = kV k from hy)
        have n := List.nodup_cons.mp nd
        obtain ⟨ps2, q1, q2⟩ := RepMK.put (k := k) hz (H := upd H a (.dK (putK vs k z))) (r.move (Same.refl _) fun p hp => upd_ne fun w => n.1 (by rw [← w]; exact hp))
        exact ⟨a, _, rfl, .k e (lim_lt (by rw [r.length]; exact hl)), List.mem_cons_self .., a :: ps2, .dK upd_same q1, q2.cons₂ a⟩
      · cases h
  | @dT a vs ms ps e r =>
    cases kd with
    | k k => simp [mPut] at h
    | t k =>
      unfold mPut at h
      simp only [] at h
      split at h
      · rename_i hl
        cases h
        obtain ⟨b, rfl, hb⟩ := hy
        have n := List.nodup_cons.mp nd
        obtain ⟨ps2, q1, q2⟩ := RepMT.put (k := k) hz (H := upd H a (.dT (putK vs k z))) (r.move (Same.refl _) fun p hp => upd_ne fun w => n.1 (by rw [← w]; exact hp))
        exact ⟨a, _, rfl, .t e hb (lim_lt (by rw [r.length]; exact hl)), List.mem_cons_self .., a :: ps2, .dT upd_same q1, q2.cons₂ a⟩
      · cases h
/-- e[k] = v -/
def sPut (i : Nat) (f : En → Option (List Stp)) (fk : En → Res KD) (fv : En → Res D) : En → Fl := fun ρ => (fv ρ).fl fun d ρ1 => match f ρ1 with
  | some π => match plc ρ1 i π with
    | some m => match fk (calm ρ1) with
      | .ok kd _ => match mPut m kd (.fz d) with
        | some m1 => .nx (setP ρ1 i π m1)
        | none => .bad
      | .exc x _ => .exc x ρ1
      | .bad => .bad
    | none => .bad
  | none => .bad
theorem sj_put {i : Nat} {e ke value : Expr} {pos pos' : Pos} {f : En → Option (List Stp)} {fk : En → Res KD} {fv : En → Res D} (hu : X.A.units + 1 < cLine) (h : LJ X S e i f) (hk : KyJ X Wx S ke fk) (hv : EJ X Wx S value fv)
    (hs : swapsWith value (some (.Subscript e ke pos')) pos.line X.env = pure false := by rfl) : SJ X Wx S (.Assign [.Subscript e ke pos'] value pos) (sPut i f fk fv) := by
  obtain ⟨t, p, q⟩ := h.ex
  obtain ⟨tk, pk, qk⟩ := hk.ex
  obtain ⟨tv, pv, qv⟩ := hv.ex
  refine ⟨_, ps_dput hu p pk pv hs, fun B F0 F H σ ρ E st post => qv B F0 F H σ ρ _ st (fl_post post fun d ρ1 z F1 H1 post1 st1 s1 r1 => ?_)⟩
  cases ef : f ρ1 with
  | none => simp only [ef] at post1; exact post1.elim
  | some π =>
    simp only [ef] at post1
    cases ep : plc ρ1 i π with
    | none => simp only [ep] at post1; exact post1.elim
    | some m' =>
      simp only [ep] at post1
      refine q B F0 F1 H1 σ ρ1 _ st1 ⟨π, m', ef, ep, fun v F2 H2 ex at_ => quiet qk (st1.ext ex) ?_⟩
      cases ek : fk (calm ρ1) with
      | bad => rw [ek] at post1; exact post1.elim
      | exc x _ =>
        rw [ek] at post1
        exact fun cls dd F3 H3 ex3 rx => post1 cls dd σ F3 H3 ((st1.ext ex).ext ex3) (ex.ff.trans ex3.ff) rx
      | ok kd _ =>
        rw [ek] at post1
        cases em : mPut m' kd (.fz d) with
        | none => simp only [em] at post1; exact post1.elim
        | some m1 =>
          simp only [em] at post1
          intro y F3 H3 ex3 hy
          have st3 := (st1.ext ex).ext ex3
          have at3 := at_.mono ex3.hh
          obtain ⟨ps', r, nd, n2, fr2, _⟩ := st3.part at3
          obtain ⟨a, o', rfl, hput, ha, ps2, r2, sub⟩ := mPut_rep r nd em (KRep.mono ex3.fh hy) (r1.mono (ex.ff.trans ex3.ff))
          exact ⟨a, _, rfl, hput, post1 σ F3 _ (st3.write1 at3 r ha r2 (nd.sublist sub) fun p hp => .inl (sub.subset hp)) (ex.ff.trans ex3.ff)⟩
def nB (n b : Bool) : Bool := if n = true then !b else b
/-- k in e, k not in e -/
theorem pt_din {n : Bool} {op : CmpOp} {o i : Expr} {pos : Pos} {td ty : TE} (hu : X.A.units + 1 < cLine) (hop : (op = .In ∧ n = false) ∨ (op = .NotIn ∧ n = true)) (hi : PE X i ty) (ho : PE X o td) (hm : behindInMarks op o = false) :
    PT X (.Compare i [op] [o] pos) (fun σ H Q => ty σ H fun y H1 => td σ H1 fun x H2 => ∃ a r, x = .ref a ∧ DGet H2 a y r ∧ Q (nB n r.isSome) H2) := by
  refine ⟨fun pins s σ H Q I h => wpAny_isTrue_Compare1 (thn (hi.run pins s σ H _ I h) fun iv s1 ⟨y, H1, I1, ry, q1⟩ => thn (ho.run pins s1 σ H1 _ I1 q1) fun u s2 ⟨x, H2, I2, rx, a, r, ex, g, q2⟩ => ?_) hm⟩
  subst ex
  obtain rfl : u = Value.ref a := rx
  rcases hop with ⟨rfl, rfl⟩ | ⟨rfl, rfl⟩
  · exact d_in hu I2 g ry fun s3 I3 => wpAny_truthy_bool ⟨H2, I3, q2⟩
  · exact d_notIn hu I2 g ry fun s3 I3 => wpAny_truthy_bool ⟨H2, I3, q2⟩
def fInP (n : Bool) (i : Nat) (fk : En → Res KD) (f : En → Option (List Stp)) : En → Res Bool := fun ρ => (fk ρ).bind fun kd ρ1 => match f ρ1 with
  | some π => match (plc ρ1 i π).bind fun m => mGet m kd with
    | some o => .ok (nB n o.isSome) ρ1
    | none => .bad
  | none => .bad
theorem tj_inP {op : CmpOp} {n : Bool} {i : Nat} {e ke : Expr} {pos : Pos} {f : En → Option (List Stp)} {fk : En → Res KD} (hu : X.A.units + 1 < cLine) (hk : KyJ X Wx S ke fk) (h : LJ X S e i f) (hop : (op = .In ∧ n = false) ∨ (op = .NotIn ∧ n = true) := by first | exact .inl ⟨rfl, rfl⟩ | exact .inr ⟨rfl, rfl⟩)
    (hm : behindInMarks op e = false := by rfl) : TJ X Wx S (.Compare ke [op] [e] pos) (fInP n i fk f) := by
  obtain ⟨t, p, q⟩ := h.ex
  obtain ⟨tk, pk, qk⟩ := hk.ex
  refine ⟨_, pt_din hu hop pk p hm, fun B F0 F H σ ρ Q st post => qk B F0 F H σ ρ _ st (post.bind fun kd ρ1 y F1 H1 post1 st1 s1 hy => ?_)⟩
  cases ef : f ρ1 with
  | none => simp only [ef] at post1; exact post1.elim
  | some π =>
    simp only [ef] at post1
    cases ep : plc ρ1 i π with
    | none => simp only [ep] at post1; exact post1.elim
    | some m' =>
      simp only [ep, Option.bind_some] at post1
      cases eg : mGet m' kd with
      | none => simp only [eg] at post1; exact post1.elim
      | some o =>
        simp only [eg] at post1
        refine q B F0 F1 H1 σ ρ1 _ st1 ⟨π, m', ef, ep, fun v F2 H2 ex at_ => ?_⟩
        have st2 := st1.ext ex
        obtain ⟨ps', r, _⟩ := st2.part at_
        obtain ⟨a, o', rfl, _, g, g1, g2⟩ := mGet_rep r eg (KRep.mono (ex.ff.trans st2.fz.fH) hy)
        refine ⟨a, o', rfl, g, post1 _ F2 H2 st2 ex.ff ?_⟩
        cases o with
        | none =>
          rw [g1 rfl]
          rfl
        | some m1 =>
          obtain ⟨v', _, h1, _⟩ := g2 m1 rfl
          rw [h1]
          rfl
/-- k in e, k not in e: e is frozen -/
def fInD (n : Bool) (fk : En → Res KD) (f : En → Res D) : En → Res Bool := fun ρ => (fk ρ).bind fun kd ρ1 => (f ρ1).bind fun d ρ2 => match dGet d kd with
  | some o => .ok (nB n o.isSome) ρ2
  | none => .bad
theorem tj_inD {op : CmpOp} {n : Bool} {e ke : Expr} {pos : Pos} {f : En → Res D} {fk : En → Res KD} (hu : X.A.units + 1 < cLine) (hk : KyJ X Wx S ke fk) (h : EJ X Wx S e f) (hop : (op = .In ∧ n = false) ∨ (op = .NotIn ∧ n = true) := by first | exact .inl ⟨rfl, rfl⟩ | exact .inr ⟨rfl, rfl⟩)
    (hm : behindInMarks op e = false := by rfl) : TJ X Wx S (.Compare ke [op] [e] pos) (fInD n fk f) := by
  obtain ⟨t, p, q⟩ := h.ex
  obtain ⟨tk, pk, qk⟩ := hk.ex
  refine ⟨_, pt_din hu hop pk p hm, fun B F0 F H σ ρ Q st post => qk B F0 F H σ ρ _ st (post.bind fun kd ρ1 y F1 H1 post1 st1 s1 hy => q B F0 F1 H1 σ ρ1 _ st1 (post1.bind fun d ρ2 v F2 H2 post2 st2 s2 r2 => ?_))⟩
  cases eg : dGet d kd with
  | none => simp only [eg] at post2; exact post2.elim
  | some o =>
    simp only [eg] at post2
    obtain ⟨a, o', rfl, _, g, g1, g2⟩ := dGet_rep r2 st2.fz.fH eg (KRep.mono (s2.trans st2.fz.fH) hy)
    refine ⟨a, o', rfl, g, post2 _ F2 H2 st2 (Same.refl _) ?_⟩
    cases o with
    | none =>
      rw [g1 rfl]
      rfl
    | some m1 =>
      obtain ⟨v', h1, _⟩ := g2 m1 rfl
      rw [h1]
      rfl
/-- d[k], d frozen -/
def fSubDk (fd : En → Res D) (fk : En → Res KD) : En → Res D := fun ρ => (fd ρ).bind fun d ρ1 => (fk ρ1).bind fun kd ρ2 => match dGet d kd with
  | some (some r) => .ok r ρ2
  | _ => .bad
theorem ej_subDk {e ke : Expr} {pos : Pos} {fd : En → Res D} {fk : En → Res KD} (hu : X.A.units + 1 < cLine) (h : EJ X Wx S e fd) (hk : KyJ X Wx S ke fk) (hs : NoSl ke := by intro _ _; rfl) : EJ X Wx S (.Subscript e ke pos) (fSubDk fd fk) := by
  obtain ⟨t, p, q⟩ := h.ex
  obtain ⟨tk, pk, qk⟩ := hk.ex
  refine ⟨_, pe_dget hu p pk hs, fun B F0 F H σ ρ Q st post => q B F0 F H σ ρ _ st (post.bind fun d ρ1 v F1 H1 post1 st1 s1 r1 => qk B F0 F1 H1 σ ρ1 _ st1 (post1.bind fun kd ρ2 y F2 H2 post2 st2 s2 hy => ?_))⟩
  split at post2
  · rename_i r eg
    obtain ⟨a, o', rfl, _, g, g1, g2⟩ := dGet_rep (r1.mono s2) st2.fz.fH eg (KRep.mono st2.fz.fH hy)
    obtain ⟨v', h1, h2⟩ := g2 r rfl
    subst h1
    exact ⟨a, v', rfl, g, post2 v' F2 H2 st2 (Same.refl _) h2⟩
  · exact post2.elim
def isDic : D → Bool
  | .dic _ => true
  | .dit _ => true
  | _ => false
theorem isDic_rep {K : PySem.W.Frag} {F H : Hp} {v : V} {d : D} (r : Rep K F v d) (sF : Same F H) (h : isDic d = true) : ∃ a, v = .ref a ∧ IsD H a := by
  cases r <;> simp [isDic] at h
  · rename_i e r
    exact ⟨_, rfl, .inl ⟨_, .inl (sF _ _ e)⟩⟩
  · rename_i e r
    exact ⟨_, rfl, .inr ⟨_, .inl (sF _ _ e)⟩⟩
/-- d.get(k, x), d frozen -/
def fGet2D (fd : En → Res D) (fk : En → Res KD) (fe : En → Res D) : En → Res D := fun ρ => (fd ρ).bind fun d ρ1 => if isDic d = true then (fk ρ1).bind fun kd ρ2 => (fe ρ2).bind fun x ρ3 => match dGet d kd with
    | some (some r) => .ok r ρ3
    | some none => .ok x ρ3
    | none => .bad
  else .bad
theorem ej_get2D {o e f : Expr} {apos cpos : Pos} {fd : En → Res D} {fk : En → Res KD} {fe : En → Res D} (hu : X.A.units + 1 < cLine) (h : EJ X Wx S o fd) (hk : KyJ X Wx S e fk) (hf : EJ X Wx S f fe) (m : M2 X o "get" apos e f cpos := by exact ⟨rfl, rfl, rfl, rfl⟩) :
    EJ X Wx S (.Call (.Attribute o "get" apos) [e, f] [] cpos) (fGet2D fd fk fe) := by
  obtain ⟨t, p, q⟩ := h.ex
  obtain ⟨tk, pk, qk⟩ := hk.ex
  obtain ⟨te, pe, qe⟩ := hf.ex
  refine ⟨_, pe_dget2 hu p pk pe m, fun B F0 F H σ ρ Q st post => q B F0 F H σ ρ _ st (post.bind fun d ρ1 v F1 H1 post1 st1 s1 r1 => ?_)⟩
  split at post1
  · rename_i hd
    obtain ⟨a, rfl, ha⟩ := isDic_rep r1 st1.fz.fH hd
    refine ⟨a, rfl, ha, qk B F0 F1 H1 σ ρ1 _ st1 (post1.bind fun kd ρ2 y F2 H2 post2 st2 s2 hy => qe B F0 F2 H2 σ ρ2 _ st2 (post2.bind fun x ρ3 z F3 H3 post3 st3 s3 r3 => ?_))⟩
    split at post3
    · rename_i r eg
      obtain ⟨a', o', e', _, g, g1, g2⟩ := dGet_rep (r1.mono (s2.trans s3)) st3.fz.fH eg (KRep.mono (s3.trans st3.fz.fH) hy)
      cases e'
      obtain ⟨v', h1, h2⟩ := g2 r rfl
      subst h1
      exact ⟨_, g, post3 v' F3 H3 st3 (Same.refl _) h2⟩
    · rename_i eg
      obtain ⟨a', o', e', _, g, g1, g2⟩ := dGet_rep (r1.mono (s2.trans s3)) st3.fz.fH eg (KRep.mono (s3.trans st3.fz.fH) hy)
      cases e'
      have := g1 rfl
      subst this
      exact ⟨_, g, post3 z F3 H3 st3 (Same.refl _) r3⟩
    · exact post3.elim
  · exact post1.elim
/-- e.g, e a frozen instance -/
def fFldD (n g : Str) (fd : En → Res D) : En → Res D := fun ρ => (fd ρ).bind fun d ρ1 => match d with
  | .ins n' fs => if n' = n then (match fs.lookup g with | some r => .ok r ρ1 | none => .bad) else .bad
  | _ => .bad
theorem RepF.look {K : PySem.W.Frag} {F : Hp} {g : Str} : ∀ {vs : List (Str × V)} {ds : List (Str × D)}, RepF K F vs ds → (ds.lookup g = none → vs.lookup g = none) ∧ ∀ d, ds.lookup g = some d → ∃ v, vs.lookup g = some v ∧ Rep K F v d
  | _, _, .nil => ⟨fun _ => rfl, fun d h => by simp at h⟩
  | _, _, .cons (f := f) (v := v) r1 r2 => by
    obtain ⟨i1, i2⟩ := RepF.look (g := g) r2
    rw [List.lookup_cons, List.lookup_cons]
    cases hb : (g == f) with
    | true =>
      refine ⟨fun h => ?_, fun d h => ?_⟩
      · cases h
      · cases h
        exact ⟨v, rfl, r1⟩
    | false => exact ⟨i1, i2⟩
theorem ej_fldD {n g : Str} {C : Addr} {e : Expr} {pos : Pos} {fd : En → Res D} (c : ClsJ X.K n C) (na : NoAttr X.K C g) (h : EJ X Wx S e fd) (hb : attributeBase e g X.env (eval e X.env) = eval e X.env := by rfl) : EJ X Wx S (.Attribute e g pos) (fFldD n g fd) := by
  obtain ⟨t, p, q⟩ := h.ex
  refine ⟨_, pe_fld p hb, fun B F0 F H σ ρ Q st post => q B F0 F H σ ρ _ st (post.bind fun d ρ1 v F1 H1 post1 st1 s1 r1 => ?_)⟩
  split at post1
  · rename_i n' fs
    split at post1
    · rename_i hn
      subst hn
      cases r1 with
      | ins h1 h2 h3 r =>
        have hC := c.ns
        rw [h3] at hC
        cases hC
        cases el : fs.lookup g with
        | none => rw [el] at post1; exact post1.elim
        | some r0 =>
          rw [el] at post1
          obtain ⟨v', l, rv⟩ := r.look.2 r0 el
          exact ⟨_, _, _, _, v', rfl, st1.fz.fH _ _ h1, c.c, na, l, post1 v' F1 H1 st1 (Same.refl _) rv⟩
    · exact post1.elim
  · exact post1.elim
end
end PD
set_option Elab.async false
set_option linter.all false
set_option maxRecDepth 100000
set_option maxHeartbeats 4000000
/-! PM6: defs whose arguments are slots; __init__. -/
namespace PD
open PySem PySem.Spec L2

theorem pad_get {α : Type} {l : List α} {k i : Nat} {u x : α} (h : (l ++ List.replicate k u)[i]? = some x) (hx : x ≠ u) : l[i]? = some x := by
  by_cases hi : i < l.length
  · rw [List.getElem?_append_left hi] at h
    exact h
  · rw [List.getElem?_append_right (by omega), List.getElem?_replicate] at h
    split at h
    · cases h
      exact absurd rfl hx
    · cases h
theorem pad_keep {α : Type} {l : List α} {k i : Nat} {u x : α} (h : l[i]? = some x) : (l ++ List.replicate k u)[i]? = some x := by
  rw [List.getElem?_append_left (List.getElem?_eq_some_iff.mp h).1]
  exact h
theorem pad_inv {l : St} {k i : Nat} {x : V} (h : (l ++ List.replicate k none)[i]? = some (some x)) : l[i]? = some (some x) := pad_get h (by intro z; cases z)
theorem st2_pad {Z : Fx} {F H : Hp} {σ : St} {ρ : En} (k : Nat) (s : St2 Z F H σ ρ) : St2 Z F H (σ ++ List.replicate k none) (ρ ++ List.replicate k .un) where
  fz := s.fz
  len := by rw [List.length_append, List.length_append, List.length_replicate, List.length_replicate, s.len]
  atD := fun i d h => by
    obtain ⟨v, h1, h2⟩ := s.atD i d (pad_get h (by intro z; cases z))
    exact ⟨v, pad_keep h1, h2⟩
  atO := fun i d h => by
    obtain ⟨p, vs, h1, h2⟩ := s.atO i d (pad_get h (by intro z; cases z))
    exact ⟨p, vs, pad_keep h1, h2⟩
  atX := fun i d h => by
    obtain ⟨h1, h2⟩ := s.atX i d (pad_get h (by intro z; cases z))
    exact ⟨pad_keep h1, h2⟩
  dis := fun i j p xs ys hij h1 h2 h3 h4 => s.dis i j p xs ys hij (pad_get h1 (by intro z; cases z)) (pad_get h2 (by intro z; cases z)) (pad_inv h3) (pad_inv h4)
  atM := fun i m h => by
    obtain ⟨v, ps, h1, h2, h3, h4, h5⟩ := s.atM i m (pad_get h (by intro z; cases z))
    exact ⟨v, ps, pad_keep h1, h2, h3, h4, fun j xs q e1 e2 => h5 j xs q (pad_get e1 (by intro z; cases z)) (pad_inv e2)⟩
  oneM := fun i j m n h1 h2 => s.oneM i j m n (pad_get h1 (by intro z; cases z)) (pad_get h2 (by intro z; cases z))
  atL := fun i d h => by
    obtain ⟨p, vs, h1, h2⟩ := s.atL i d (pad_get h (by intro z; cases z))
    exact ⟨p, vs, pad_keep h1, h2⟩
  pin := fun v m e h => pad_keep (s.pin v m e (pad_get h (by intro z; cases z)))
abbrev SL (me : Option V) (L : Hp) : Sx := ⟨0, .none, none, me, L⟩
/-- a call whose arguments are slots (frozen, or lent) -/
def spS (K : PySem.W.Frag) (n : Nat) (den : List Sl → FR) : Sp := fun vs H Q E => vs.length = n ∧ ∃ (L F : Hp) (as : List Sl), St2 ⟨K, SL none L, H, F⟩ F H (vs.map some) as ∧ (match den as with
  | .ok r => ∀ v F' H', Ext F H F' H' → Rep K F' v r → Q v H'
  | .exc x => ∀ cls dd F' H', Ext F H F' H' → RepX K F' cls dd x → E cls dd H'
  | .bad => False)
inductive IR where
  | ok (m : M) | exc (x : Exc) | bad
/-- a call that changes what its first argument is (its __init__) -/
def spI (K : PySem.W.Frag) (n : Nat) (den : List Sl → IR) : Sp := fun vs H Q E => vs.length = n ∧ ∃ (L B F : Hp) (as : List Sl) (w : V), St2 ⟨K, SL (some w) L, B, F⟩ F H (vs.map some) as ∧ (match den as with
  | .ok m => ∀ ps F' H', Fz ⟨K, SL (some w) L, B, F⟩ F' H' → RepM K F' H' w m ps → ps.Nodup → (∀ p ∈ ps, F' p = none ∧ B p = none) → Q .non H'
  | .exc x => ∀ cls dd F' H', Fz ⟨K, SL (some w) L, B, F⟩ F' H' → RepX K F' cls dd x → E cls dd H'
  | .bad => False)
structure FnS (P : Program) (w : World) (K : PySem.W.Frag) (mg : Str → Option Value) (base : Heap) (k : Nat) (f : Addr) (fd : FuncData) (ps : List Str) (den : List Sl → FR) : Prop where
  ok : FnOk P w K mg base (L2.CX P w) k f fd ps (spS K ps.length den)
structure InS (P : Program) (w : World) (K : PySem.W.Frag) (mg : Str → Option Value) (base : Heap) (k : Nat) (f : Addr) (fd : FuncData) (ps : List Str) (den : List Sl → IR) : Prop where
  ok : FnOk P w K mg base (L2.CX P w) k f fd ps (spI K ps.length den)
theorem FnS.mono {P : Program} {w : World} {K : PySem.W.Frag} {mg : Str → Option Value} {base : Heap} {j k : Nat} {f : Addr} {fd : FuncData} {ps : List Str} {den : List Sl → FR} (F : FnS P w K mg base j f fd ps den) (h : j ≤ k) : FnS P w K mg base k f fd ps den := ⟨F.ok.mono h⟩
theorem InS.mono {P : Program} {w : World} {K : PySem.W.Frag} {mg : Str → Option Value} {base : Heap} {j k : Nat} {f : Addr} {fd : FuncData} {ps : List Str} {den : List Sl → IR} (F : InS P w K mg base j f fd ps den) (h : j ≤ k) : InS P w K mg base k f fd ps den := ⟨F.ok.mono h⟩
def fnS (np n : Nat) (body : En → Fl) (as : List Sl) : FR := if as.length = np then (body (as ++ List.replicate (n - np) .un)).fin else .bad
def Fl.finI (r : Fl) : IR := match r with
  | .nx ρ => match (ρ[0]? : Option Sl) with
    | some (Sl.mt m) => .ok m
    | _ => .bad
  | .exc x _ => .exc x
  | _ => .bad
def inS (np n : Nat) (body : En → Fl) (as : List Sl) : IR := if as.length = np then (body (as ++ List.replicate (n - np) .un)).finI else .bad
theorem start_pad {N : List Str} {vs : List V} {n : Nat} (h : vs.length = n) : L2.start N vs = vs.map some ++ List.replicate (N.length - n) none := by
  unfold L2.start
  rw [h]
theorem fnS_of {P : Program} {w : World} {K : PySem.W.Frag} {mg : Str → Option Value} {base : Heap} {x qual : Str} {st : Stmt} {f : Addr} {fd : FuncData} {N ps : List Str} {k : Nat} {body : En → Fl} (Fn : Fun K x qual st f fd) (Sc : FnScope N ps (defScope st))
    (hb : ∀ (L : Hp) (cdv : Value) (A : Around) (outer : List Env) (s : Shared) (H : Hp) (E : XK), Room k (A.deeper (PyProof.Rows.envOfC qual (defScope st) s.heap.objs.size f cdv)) →
      BJ (cxOf (L2.CX P w) P w K mg base N qual (defScope st) f cdv A outer s H E) (wE E) (SL none L) (defBody st) body) : FnS P w K mg base (k + 1) f fd ps (fnS ps.length N.length body) := by
  refine ⟨Fn.okX Sc (fun vs H Q E h => h.1) fun cdv A outer s H vs Q E hr h => ?_⟩
  obtain ⟨hl, L, F, as, s2, post⟩ := h
  obtain ⟨t, p, q⟩ := (hb L cdv A outer s H E hr).ex
  have s3 := st2_pad (N.length - ps.length) s2
  refine ⟨t, p, ?_⟩
  rw [start_pad hl]
  refine q H F F H _ _ _ s3 ?_
  have hdl : as.length = ps.length := by rw [← s2.len, List.length_map]; exact hl
  unfold fnS at post
  rw [if_pos hdl] at post
  have ext : ∀ {F' H' : Hp}, Fz ⟨K, SL none L, H, F⟩ F' H' → Ext F H F' H' := fun z => ⟨z.f01, z.fH, z.bH, z.new⟩
  cases e : body (as ++ List.replicate (N.length - ps.length) .un) with
  | nx ρ =>
    rw [e] at post
    exact fun σ' F' H' st' _ => post .non F' H' (ext st'.fz) .non
  | rt d =>
    rw [e] at post
    exact fun v F' H' z rv => post v F' H' (ext z) rv
  | exc x ρ =>
    rw [e] at post
    exact fun cls dd σ' F' H' st' _ rx => post cls dd F' H' (ext st'.fz) rx
  | bk ρ =>
    rw [e] at post
    exact post.elim
  | ct ρ =>
    rw [e] at post
    exact post.elim
  | bad =>
    rw [e] at post
    exact post.elim
theorem inS_of {P : Program} {w : World} {K : PySem.W.Frag} {mg : Str → Option Value} {base : Heap} {x qual : Str} {st : Stmt} {f : Addr} {fd : FuncData} {N ps : List Str} {k : Nat} {body : En → Fl} (Fn : Fun K x qual st f fd) (Sc : FnScope N ps (defScope st))
    (hb : ∀ (me : V) (L : Hp) (cdv : Value) (A : Around) (outer : List Env) (s : Shared) (H : Hp) (E : XK), Room k (A.deeper (PyProof.Rows.envOfC qual (defScope st) s.heap.objs.size f cdv)) →
      BJ (cxOf (L2.CX P w) P w K mg base N qual (defScope st) f cdv A outer s H E) (wE E) (SL (some me) L) (defBody st) body) : InS P w K mg base (k + 1) f fd ps (inS ps.length N.length body) := by
  refine ⟨Fn.okX Sc (fun vs H Q E h => h.1) fun cdv A outer s H vs Q E hr h => ?_⟩
  obtain ⟨hl, L, B, F, as, me, s2, post⟩ := h
  obtain ⟨t, p, q⟩ := (hb me L cdv A outer s H E hr).ex
  have s3 := st2_pad (N.length - ps.length) s2
  refine ⟨t, p, ?_⟩
  rw [start_pad hl]
  refine q B F F H _ _ _ s3 ?_
  have hdl : as.length = ps.length := by rw [← s2.len, List.length_map]; exact hl
  unfold inS at post
  rw [if_pos hdl] at post
  cases e : body (as ++ List.replicate (N.length - ps.length) .un) with
  | nx ρ =>
    rw [e] at post
    unfold Fl.finI at post
    intro σ' F' H' st' _
    cases e0 : ρ[0]? with
    | none => simp only [e0] at post
    | some sl =>
      cases sl with
      | mt m =>
        simp only [e0] at post
        obtain ⟨v, qs, h1, h2, h3, h4, _⟩ := st'.atM 0 m e0
        have hp := st'.pin me m rfl e0
        rw [h1] at hp
        cases hp
        exact post qs F' H' ⟨st'.fz.f01, st'.fz.fH, st'.fz.bH, st'.fz.new, st'.fz.lB⟩ h2 h3 h4
      | un => simp only [e0] at post
      | d _ => simp only [e0] at post
      | own _ => simp only [e0] at post
      | ex _ => simp only [e0] at post
      | ln _ => simp only [e0] at post
  | rt d =>
    rw [e] at post
    exact post.elim
  | exc x ρ =>
    rw [e] at post
    exact fun cls dd σ' F' H' st' _ rx => post cls dd F' H' ⟨st'.fz.f01, st'.fz.fH, st'.fz.bH, st'.fz.new, st'.fz.lB⟩ rx
  | bk ρ =>
    rw [e] at post
    exact post.elim
  | ct ρ =>
    rw [e] at post
    exact post.elim
  | bad =>
    rw [e] at post
    exact post.elim
end PD
set_option Elab.async false
set_option linter.all false
set_option maxRecDepth 100000
set_option maxHeartbeats 4000000
/-! PM7: argument lists with lent lists; making an instance; methods. -/
namespace PD
open PySem PySem.Spec L2

/-- an argument: frozen, or a list that is lent -/
def RepA (K : PySem.W.Frag) (F H : Hp) (v : V) : Sl → Prop
  | .d d => Rep K F v d
  | .ln xs => ∃ p vs, v = .ref p ∧ SqL K H p vs ∧ RepL K F vs xs
  | _ => False
inductive RepAs (K : PySem.W.Frag) (F H : Hp) : List V → List Sl → Prop
  | nil : RepAs K F H [] []
  | cons {v : V} {a : Sl} {vs : List V} {as : List Sl} : RepA K F H v a → RepAs K F H vs as → RepAs K F H (v :: vs) (a :: as)
section
variable {K : PySem.W.Frag} {F F' H H' : Hp}
theorem RepA.mono (s : Same F F') (e : Same H H') {v : V} {a : Sl} (h : RepA K F H v a) : RepA K F' H' v a := by
  cases a with
  | d d => exact Rep.mono s h
  | ln xs =>
    obtain ⟨p, vs, h1, h2, h3⟩ := h
    exact ⟨p, vs, h1, Same.seqL e h2, h3.mono s⟩
  | un => exact h
  | own _ => exact h
  | ex _ => exact h
  | mt _ => exact h
theorem RepAs.length : ∀ {vs : List V} {as : List Sl}, RepAs K F H vs as → vs.length = as.length
  | _, _, .nil => rfl
  | _, _, .cons _ r => by rw [List.length_cons, List.length_cons, RepAs.length r]
theorem RepAs.get : ∀ {vs : List V} {as : List Sl}, RepAs K F H vs as → ∀ {i : Nat} {a : Sl}, as[i]? = some a → ∃ v, vs[i]? = some v ∧ RepA K F H v a
  | _, _, .nil, i, a, h => by simp at h
  | _, _, .cons h r, 0, a, e => by
    simp at e
    subst e
    exact ⟨_, rfl, h⟩
  | _, _, .cons h r, i + 1, a, e => by
    have := RepAs.get r (i := i) (a := a) (by simpa using e)
    simpa using this
theorem RepAs.of_d : ∀ {vs : List V} {ds : List D}, RepL K F vs ds → RepAs K F H vs (ds.map .d)
  | _, _, .nil => .nil
  | _, _, .cons h r => .cons h (RepAs.of_d r)
theorem RepAs.append : ∀ {vs us : List V} {as bs : List Sl}, RepAs K F H vs as → RepAs K F H us bs → RepAs K F H (vs ++ us) (as ++ bs)
  | _, _, _, _, .nil, h => h
  | _, _, _, _, .cons h r, g => .cons h (RepAs.append r g)
/-- the arguments as the slots of a callee -/
theorem RepAs.st2 {vs : List V} {as : List Sl} (r : RepAs K F H vs as) (sF : Same F H) : St2 ⟨K, SL none H, H, F⟩ F H (vs.map some) as where
  fz := ⟨Same.refl _, sF, Same.refl _, fun _ _ _ => rfl, Same.refl _⟩
  len := by rw [List.length_map]; exact r.length
  atD := fun i d h => by
    obtain ⟨v, h1, h2⟩ := r.get h
    exact ⟨v, by rw [List.getElem?_map, h1]; rfl, h2⟩
  atO := fun i d h => by
    obtain ⟨v, h1, h2⟩ := r.get h
    exact h2.elim
  atX := fun i d h => by
    obtain ⟨v, h1, h2⟩ := r.get h
    exact h2.elim
  dis := fun i j p xs ys _ h1 _ => by
    obtain ⟨v, h1, h2⟩ := r.get h1
    exact h2.elim
  atM := fun i d h => by
    obtain ⟨v, h1, h2⟩ := r.get h
    exact h2.elim
  oneM := fun i j m n h1 _ => by
    obtain ⟨v, h1, h2⟩ := r.get h1
    exact h2.elim
  atL := fun i xs h => by
    obtain ⟨v, h1, p, us, rfl, h3, h4⟩ := r.get h
    exact ⟨p, us, by rw [List.getElem?_map, h1]; rfl, h3, h4⟩
  pin := fun v m e h => by cases e
end
/-- an argument list, read quietly -/
structure LAJ (X : Cx) (Wx : WX) (S : Sx) (es : List Expr) (f : En → Res (List Sl)) : Prop where
  ex : ∃ t, PA X es t ∧ ∀ B F0 F H σ ρ Q, St2 (fx X S B F0) F H σ ρ → (match f ρ with
    | .ok as _ => ∀ vs F' H', Ext F H F' H' → RepAs X.K F' H' vs as → Q vs H'
    | .exc x _ => ∀ cls dd F' H', Ext F H F' H' → RepX X.K F' cls dd x → Wx cls dd σ H'
    | .bad => False) → t σ H Q
section
variable {X : Cx} {Wx : WX} {S : Sx}
theorem la_nil : LAJ X Wx S [] (fun ρ => .ok [] ρ) := ⟨_, pa_nil, fun B F0 F H σ ρ Q st post => post [] F H (Ext.refl st.fz.fH) .nil⟩
def laCons (a : Res Sl) (r : Res (List Sl)) (ρ : En) : Res (List Sl) := match a with
  | .ok x _ => match r with
    | .ok xs _ => .ok (x :: xs) ρ
    | .exc e _ => .exc e ρ
    | .bad => .bad
  | .exc e _ => .exc e ρ
  | .bad => .bad
def laE (fe : En → Res D) (g : En → Res (List Sl)) : En → Res (List Sl) := fun ρ => laCons ((fe (calm ρ)).bind fun d _ => .ok (.d d) ρ) (g ρ) ρ
def lentOf (s : Option Sl) : Option (List D) := match s with
  | some (.own xs) => some xs
  | some (.ln xs) => some xs
  | some (.d (.lst xs)) => some xs
  | _ => none
def laN (i : Nat) (g : En → Res (List Sl)) : En → Res (List Sl) := fun ρ => match lentOf ρ[i]? with
  | some xs => laCons (.ok (.ln xs) ρ) (g ρ) ρ
  | none => .bad
def unFz : List M → Option (List D)
  | [] => some []
  | .fz d :: r => (unFz r).map (d :: ·)
  | _ => none
def laP (i : Nat) (f : En → Option (List Stp)) (g : En → Res (List Sl)) : En → Res (List Sl) := fun ρ => match f ρ with
  | some π => match plc ρ i π with
    | some (.lst ms) => match unFz ms with
      | some xs => laCons (.ok (.ln xs) ρ) (g ρ) ρ
      | none => .bad
    | _ => .bad
  | none => .bad
theorem la_tail {es : List Expr} {g : En → Res (List Sl)} {t : TA} {B F0 F H F1 H1 : Hp} {σ : St} {ρ ρ' : En} {Q : List V → Hp → Prop} {v : V} {a : Sl}
    (q : ∀ B F0 F H σ ρ Q, St2 (fx X S B F0) F H σ ρ → (match g ρ with
    | .ok as _ => ∀ vs F' H', Ext F H F' H' → RepAs X.K F' H' vs as → Q vs H'
    | .exc x _ => ∀ cls dd F' H', Ext F H F' H' → RepX X.K F' cls dd x → Wx cls dd σ H'
    | .bad => False) → t σ H Q) (st : St2 (fx X S B F0) F H σ ρ) (ex : Ext F H F1 H1) (ra : RepA X.K F1 H1 v a)
    (post : match laCons (.ok a ρ') (g ρ) ρ with
    | .ok as _ => ∀ vs F' H', Ext F H F' H' → RepAs X.K F' H' vs as → Q vs H'
    | .exc x _ => ∀ cls dd F' H', Ext F H F' H' → RepX X.K F' cls dd x → Wx cls dd σ H'
    | .bad => False) : t σ H1 fun xs H2 => Q (v :: xs) H2 := by
  refine q B F0 F1 H1 σ ρ _ (st.ext ex) ?_
  unfold laCons at post
  cases eg : g ρ with
  | bad => rw [eg] at post; exact post
  | exc x _ => rw [eg] at post; exact fun cls dd F' H' e rx => post cls dd F' H' (ex.trans e) rx
  | ok as _ => rw [eg] at post; exact fun vs F' H' e r => post (v :: vs) F' H' (ex.trans e) (.cons (ra.mono e.ff e.hh) r)
theorem la_e {e : Expr} {es : List Expr} {fe : En → Res D} {g : En → Res (List Sl)} (he : EJ X Wx S e fe) (hr : LAJ X Wx S es g) (hs : starEach (e :: es) X.env = (false, eval e X.env) :: starEach es X.env := by rfl) : LAJ X Wx S (e :: es) (laE fe g) := by
  obtain ⟨te, pe, qe⟩ := he.ex
  obtain ⟨t, p, q⟩ := hr.ex
  refine ⟨_, pa_cons pe p hs, fun B F0 F H σ ρ Q st post => ?_⟩
  show te σ H fun x H1 => t σ H1 fun xs H2 => Q (x :: xs) H2
  refine quiet qe st ?_
  unfold laE at post
  cases ee : fe (calm ρ) with
  | bad => rw [ee] at post; exact post.elim
  | exc x _ => rw [ee] at post; exact post
  | ok d ρ' =>
    rw [ee] at post
    exact fun v F1 H1 ex rv => la_tail (es := es) q st ex (a := .d d) rv post
theorem la_n (i : Nat) {x : Str} {es : List Expr} {pos : Pos} {g : En → Res (List Sl)} (hr : LAJ X Wx S es g) (hN : X.N[i]? = some x := by rfl) (hv : Vis X.env.scope x := by first | exact Or.inl rfl | exact Or.inr (Or.inl rfl) | exact Or.inr (Or.inr rfl)) (hd : (x == ("__debug__" : Str)) = false := by decide)
    (hcd : (x == ("__classdict__" : Str)) = false := by decide) (hs : starEach (.Name x pos :: es) X.env = (false, eval (.Name x pos) X.env) :: starEach es X.env := by rfl) : LAJ X Wx S (.Name x pos :: es) (laN i g) := by
  obtain ⟨t, p, q⟩ := hr.ex
  refine ⟨_, pa_cons (pe_var hN hv hd hcd) p hs, fun B F0 F H σ ρ Q st post => ?_⟩
  unfold laN at post
  cases el : lentOf ρ[i]? with
  | none => rw [el] at post; exact post.elim
  | some xs =>
    simp only [el] at post
    have : ∃ v, σ[i]? = some (some v) ∧ RepA X.K F H v (.ln xs) := by
      unfold lentOf at el
      split at el
      · rename_i ys e
        cases el
        obtain ⟨p, vs, h1, h2, h3, h4, h5⟩ := st.atO i _ e
        exact ⟨_, h1, p, vs, rfl, .inl (.inl h2), h5⟩
      · rename_i ys e
        cases el
        obtain ⟨p, vs, h1, h2, h3⟩ := st.atL i _ e
        exact ⟨_, h1, p, vs, rfl, Same.seqL (st.fz.lB.trans st.fz.bH) h2, h3⟩
      · rename_i ys e
        cases el
        obtain ⟨v, h1, h2⟩ := st.atD i _ e
        cases h2 with
        | lst h3 h4 => exact ⟨_, h1, _, _, rfl, Same.seqL st.fz.fH h3, h4⟩
      · cases el
    obtain ⟨v, h1, ra⟩ := this
    exact ⟨v, h1, la_tail (es := es) q st (Ext.refl st.fz.fH) ra post⟩
theorem unFz_rep {K : PySem.W.Frag} {F H : Hp} : ∀ {vs : List V} {ms : List M} {ps : List Addr} {xs : List D}, RepML K F H vs ms ps → unFz ms = some xs → RepL K F vs xs
  | _, _, _, xs, .nil, h => by
    simp [unFz] at h
    subst h
    exact .nil
  | _, _, _, xs, .cons (m := m) (ms := ms) r1 r2, h => by
    cases m <;> simp [unFz] at h
    obtain ⟨ys, h1, h2⟩ := h
    subst h2
    cases r1 with
    | fz r => exact .cons r (unFz_rep r2 h1)
theorem la_p {i : Nat} {e : Expr} {es : List Expr} {f : En → Option (List Stp)} {g : En → Res (List Sl)} (h : LJ X S e i f) (hr : LAJ X Wx S es g) (hs : starEach (e :: es) X.env = (false, eval e X.env) :: starEach es X.env := by rfl) : LAJ X Wx S (e :: es) (laP i f g) := by
  obtain ⟨te, pe, qe⟩ := h.ex
  obtain ⟨t, p, q⟩ := hr.ex
  refine ⟨_, pa_cons pe p hs, fun B F0 F H σ ρ Q st post => ?_⟩
  unfold laP at post
  cases ef : f ρ with
  | none => simp only [ef] at post
  | some π =>
    simp only [ef] at post
    cases ep : plc ρ i π with
    | none => simp only [ep] at post
    | some m' =>
      cases m' with
      | lst ms =>
        simp only [ep] at post
        cases eu : unFz ms with
        | none => simp only [eu] at post
        | some xs =>
          simp only [eu] at post
          refine qe B F0 F H σ ρ _ st ⟨π, _, ef, ep, fun v F1 H1 ex at_ => ?_⟩
          obtain ⟨ps', r, _⟩ := (st.ext ex).part at_
          cases r with
          | lst h1 r => exact la_tail (es := es) q st ex (a := .ln xs) ⟨_, _, rfl, .inl (.inl h1), unFz_rep r eu⟩ post
      | fz _ => simp only [ep] at post
      | dK _ => simp only [ep] at post
      | dT _ => simp only [ep] at post
      | ins _ _ => simp only [ep] at post
end
end PD
set_option Elab.async false
set_option linter.all false
set_option maxRecDepth 100000
set_option maxHeartbeats 4000000
/-! PM8: making an instance, frozen at once; methods. -/
namespace PD
open PySem PySem.Spec L2
section
variable {Z : Fx} {F H : Hp} {σ : St} {ρ : En}
/-- fresh things are frozen -/
def frzF (F H : Hp) (ps : List Addr) : Hp := fun a => if a ∈ ps then H a else F a
theorem St2.freezeM {v : V} {m : M} {ps : List Addr} (s : St2 Z F H σ ρ) (r : RepM Z.K F H v m ps) (fr : ∀ p ∈ ps, Free Z F H σ ρ p) : Same F (frzF F H ps) ∧ St2 Z (frzF F H ps) H σ ρ ∧ Rep Z.K (frzF F H ps) v m.toD := by
  have sf : Same F (frzF F H ps) := fun a o e => by
    unfold frzF
    rw [if_neg fun z => by rw [(fr a z).nf] at e; cases e]
    exact e
  have sh : Same (frzF F H ps) H := fun a o e => by
    unfold frzF at e
    split at e
    · exact e
    · exact s.fz.fH a o e
  refine ⟨sf, ?_, RepM.frz sf r fun p hp => by unfold frzF; rw [if_pos hp]⟩
  refine ⟨⟨s.fz.f01.trans sf, sh, s.fz.bH, fun a o e => ?_, s.fz.lB⟩, s.len, fun i d h => ?_, fun i xs h => ?_, fun i x h => ?_, s.dis, fun i m h => ?_, s.oneM, fun i xs h => ?_, s.pin⟩
  · unfold frzF
    rw [if_neg fun z => by rw [(fr a z).nb] at e; cases e]
    exact s.fz.new a o e
  · obtain ⟨v, h1, h2⟩ := s.atD i d h
    exact ⟨v, h1, h2.mono sf⟩
  · obtain ⟨p, vs, h1, h2, h3, h4, h5⟩ := s.atO i xs h
    refine ⟨p, vs, h1, h2, ?_, h4, h5.mono sf⟩
    unfold frzF
    rw [if_neg fun z => (fr p z).no i xs h h1]
    exact h3
  · obtain ⟨h1, h2⟩ := s.atX i x h
    exact ⟨h1, h2.mono sf⟩
  · obtain ⟨w, qs, h1, h2, h3, h4, h5⟩ := s.atM i m h
    refine ⟨w, qs, h1, h2.move sf fun _ _ => rfl, h3, fun q hq => ⟨?_, (h4 q hq).2⟩, h5⟩
    unfold frzF
    rw [if_neg fun z => (fr q z).ap i m w qs h h1 h2 hq]
    exact (h4 q hq).1
  · obtain ⟨p, vs, h1, h2, h3⟩ := s.atL i xs h
    exact ⟨p, vs, h1, h2, h3.mono sf⟩
end
end PD
set_option Elab.async false
set_option linter.all false
set_option maxRecDepth 100000
set_option maxHeartbeats 4000000
/-! PM9: C(..) and o.m(..) where what is raised is wished for at the caller's slots. -/
namespace PD
open PySem PySem.Spec L2
section
variable {X : Cx} {CX : CXT} {k : Nat} {f C : Addr} {fd : FuncData} {ps : List Str} {sp : Sp} {dvs : List V} {ds : List Value} {E : St → XK} {x m : Str} {p pos apos : Pos} {e o : Expr} {es : List Expr} {ta : TE} {t : TA}
def tMakeSD (C : Addr) (sp : Sp) (dvs : List V) (E : St → XK) (t : TA) : TE := fun σ H Q => t σ H fun vs H1 => ∀ x dx, H1 x = none → H1 dx = none → dx ≠ x →
  sp (.ref x :: (vs ++ dvs)) (upd (upd H1 dx (.own x)) x (.ins C dx [])) (fun v H2 => v = .non ∧ Q (.ref x) H2) (E σ)
theorem run_makeSD {pins : List (Addr × Obj)} {σ : St} {H : Hp} {s : Shared} {Q : VK} {us : List Value} {vs : List V} (M : Mk X.K C f) (F : FnOk X.prog X.w X.K X.mg X.base CX k f fd ps sp) (hr : Room (k + 1) X.A) (hb : Binds X.K fd ps ds) (hd : Vals dvs ds)
    (hx : PassesAt CX X σ (E σ)) (I : Inv X pins σ H s) (r : Vals vs us)
    (h : ∀ x dx, H x = none → H dx = none → dx ≠ x → sp (.ref x :: (vs ++ dvs)) (upd (upd H dx (.own x)) x (.ins C dx [])) (fun v H2 => v = .non ∧ Q (.ref x) H2) (E σ)) :
    wpAny (model X.prog X.w) X.A (call (.ref C) us) (EP X pins σ Q) X.xe s := by
  have hq := h (s.heap.objs.size + 1) s.heap.objs.size (I.hok.fresh (Nat.le_succ _)) (I.hok.fresh (Nat.le_refl _)) (Nat.ne_of_lt (Nat.lt_succ_self _))
  have I2 := Inv.made (C := C) I
  have r2 : Vals (V.ref (s.heap.objs.size + 1) :: (vs ++ dvs)) (Value.ref (s.heap.objs.size + 1) :: (us ++ ds)) := .cons rfl (r.append hd)
  have hl : (Value.ref (s.heap.objs.size + 1) :: us ++ ds).length = ps.length := by
    have e := r2.length
    rw [F.len _ _ _ _ hq] at e
    exact e.symm
  refine wpAny_call (make_map (f := f) I.kIn M.makes M.init (beq_iff_eq.mp M.fn) (codeAny_mono (F.run _ X.stack _ _ ⟨Value.ref (s.heap.objs.size + 1) :: us, []⟩ (Value.ref (s.heap.objs.size + 1) :: (us ++ ds)) _ _ (E σ) (hr.make C us [])
    (I2.env0.make C us []) (hb _ (Value.ref (s.heap.objs.size + 1) :: us) I2.kIn hl) r2 hq) fun r s' hq' => ?_))
  cases r with
  | error e => exact hx pins _ _ e s' I2 hq'
  | ok fl =>
    cases fl with
    | ret u =>
      obtain ⟨v, H', I3, rv, ev, q3⟩ := I2.after hq'
      subst ev
      exact ⟨rv, ⟨V.ref (s.heap.objs.size + 1), H', I3, rfl, q3⟩⟩
    | next => exact False.elim hq'
    | brk => exact False.elim hq'
    | cont => exact False.elim hq'
theorem pe_makeSD (M : Mk X.K C f) (F : FnOk X.prog X.w X.K X.mg X.base CX k f fd ps sp) (hr : Room (k + 1) X.A) (hg : Gl X x) (hm : X.mg x = some (.ref C)) (hb : Binds X.K fd ps ds) (hd : Vals dvs ds) (hx : ∀ σ, PassesAt CX X σ (E σ))
    (ha : PA X (e :: es) t) (hdb : (x == ("__debug__" : Str)) = false := by decide) (he : starEach (e :: es) X.env = (false, eval e X.env) :: starEach es X.env := by rfl) (hpl : (backTo pos (starEach es X.env)).any (·.1) = false := by rfl) :
    PE X (.Call (.Name x p) (e :: es) [] pos) (tMakeSD C sp dvs E t) := by
  refine ⟨fun pins s σ H Q I h => ?_⟩
  refine wpAny_Call_Name_kw (ld_glob I hg hm ?_ hdb)
  refine PySem.W.callWith_K (h₀ := X.base) I.ok.mod.kin M.kp (thn (ha.run pos pins s σ H _ I h) fun us s1 ⟨vs, H1, I1, r, q⟩ => ⟨I1.kIn, ?_⟩) he hpl
  exact run_makeSD M F hr hb hd (hx σ) I1 r q
def tMethSD (C : Addr) (m : Str) (sp : Sp) (dvs : List V) (E : St → XK) (ta : TE) (t : TA) : TE := fun σ H Q => ta σ H fun x H1 => ∃ a dx fs, x = .ref a ∧ H1 a = some (.ins C dx fs) ∧ fs.lookup m = none ∧
  t σ H1 fun vs H2 => sp (x :: (vs ++ dvs)) H2 Q (E σ)
theorem pe_methSD {pl : Sem Bool} (he : PE X o ta) (c : Cls X.K C) (hm : Meth X.K C m f) (F : FnOk X.prog X.w X.K X.mg X.base CX k f fd ps sp) (hr : Room k X.A) (hb : Binds X.K fd ps ds) (hd : Vals dvs ds) (hx : ∀ σ, PassesAt CX X σ (E σ)) (ha : PA X (e :: es) t)
    (hst : starEach (e :: es) X.env = (false, eval e X.env) :: starEach es X.env := by rfl) (hpl : (backTo pos (starEach es X.env)).any (·.1) = false := by rfl)
    (ht : eval (.Call (.Attribute o m apos) (e :: es) [] pos) X.env = (do
      let ov ← eval o X.env
      standAt apos.atName
      let (f, first) ← holding [ov] (getMethod ov m pl)
      callWith pos f first (backTo pos (starEach (e :: es) X.env)) (backToKw pos (keywordEach [] X.env))) := by rfl) :
    PE X (.Call (.Attribute o m apos) (e :: es) [] pos) (tMethSD C m sp dvs E ta t) := by
  refine ⟨fun pins s σ H Q I h => ?_⟩
  refine PySem.W.methodCall_KW (pl := pl) (thn (he.run pins s σ H _ I h) fun u s1 ⟨x, H1, I1, rx, a, dx, fs, ex, ea, l, q⟩ => ?_) ht
  subst ex
  obtain rfl : u = Value.ref a := rx
  refine getmeth_ok I1 ea c hm l ?_
  refine PySem.W.callWith_K (first := [.ref a]) (h₀ := X.base) I.ok.mod.kin hm.kp (thn (ha.run pos pins s1 σ H1 _ I1 q) fun us s2 ⟨vs, H2, I2, r, q2⟩ => ⟨I2.kIn, ?_⟩) hst hpl
  exact run_fnSD (us := .ref a :: us) (vs := .ref a :: vs) F hr hb hd (hx σ) I2 (.cons rfl r) q2
theorem pe_meth0SD {pl : Sem Bool} (he : PE X o ta) (c : Cls X.K C) (hm : Meth X.K C m f) (F : FnOk X.prog X.w X.K X.mg X.base CX k f fd ps sp) (hr : Room k X.A) (hb : Binds X.K fd ps ds) (hd : Vals dvs ds) (hx : ∀ σ, PassesAt CX X σ (E σ))
    (ht : eval (.Call (.Attribute o m apos) [] [] pos) X.env = (do
      let ov ← eval o X.env
      standAt apos.atName
      let (f, first) ← holding [ov] (getMethod ov m pl)
      callWith pos f first (backTo pos (starEach [] X.env)) (backToKw pos (keywordEach [] X.env))) := by rfl) :
    PE X (.Call (.Attribute o m apos) [] [] pos) (tMethSD C m sp dvs E ta tNil) := by
  refine ⟨fun pins s σ H Q I h => ?_⟩
  refine PySem.W.methodCall_KW (pl := pl) (thn (he.run pins s σ H _ I h) fun u s1 ⟨x, H1, I1, rx, a, dx, fs, ex, ea, l, q⟩ => ?_) ht
  subst ex
  obtain rfl : u = Value.ref a := rx
  refine getmeth_ok I1 ea c hm l ?_
  exact PySem.W.callWith_K0 (first := [.ref a]) I1.kIn hm.kp (run_fnSD (us := [.ref a]) (vs := [.ref a]) F hr hb hd (hx σ) I1 (.cons rfl .nil) q)
end
end PD
set_option Elab.async false
set_option linter.all false
set_option maxRecDepth 100000
set_option maxHeartbeats 4000000
/-! PMA: rules: C(..), o.m(..), freezing what is fresh. -/
namespace PD
open PySem PySem.Spec L2
/-- the arguments as the slots of an __init__: slot 0 is the new instance -/
theorem RepAs.stI {K : PySem.W.Frag} {F H : Hp} {vs : List V} {as : List Sl} {n : Str} {C x dx : Addr} (r : RepAs K F H vs as) (sF : Same F H) (hx : H x = none) (hdx : H dx = none) (ne : dx ≠ x) (hn : PySem.W.nsIn K mainGlobals n = some (some (.ref C))) :
    St2 ⟨K, SL (some (.ref x)) H, H, F⟩ F (upd (upd H dx (.own x)) x (.ins C dx [])) ((V.ref x :: vs).map some) (.mt (.ins n []) :: as) := by
  have s1 : Same H (upd H dx (.own x)) := same_upd hdx
  have hx1 : (upd H dx (.own x)) x = none := by rw [upd_ne ne.symm]; exact hx
  have s2 : Same H (upd (upd H dx (.own x)) x (.ins C dx [])) := s1.trans (same_upd hx1)
  have get : ∀ {i : Nat} {a : Sl}, ((Sl.mt (.ins n []) :: as)[i]? = some a) → a = Sl.mt (.ins n []) ∧ i = 0 ∨ ∃ v, ((V.ref x :: vs).map some)[i]? = some (some v) ∧ RepA K F H v a := fun {i a} h => by
    cases i with
    | zero =>
      simp at h
      exact .inl ⟨h.symm, rfl⟩
    | succ j =>
      obtain ⟨v, h1, h2⟩ := r.get (i := j) (a := a) (by simpa using h)
      exact .inr ⟨v, by simpa using h1, h2⟩
  refine ⟨⟨Same.refl _, sF.trans s2, s2, fun _ _ _ => rfl, Same.refl _⟩, by simpa using r.length, fun i d h => ?_, fun i d h => ?_, fun i d h => ?_, fun i j p xs ys _ h1 _ => ?_, fun i m h => ?_, fun i j m1 m2 h1 h2 => ?_, fun i xs h => ?_, fun v m e h => ?_⟩
  · rcases get h with ⟨z, _⟩ | ⟨v, h1, h2⟩
    · cases z
    · exact ⟨v, h1, h2⟩
  · rcases get h with ⟨z, _⟩ | ⟨v, h1, h2⟩
    · cases z
    · exact h2.elim
  · rcases get h with ⟨z, _⟩ | ⟨v, h1, h2⟩
    · cases z
    · exact h2.elim
  · rcases get h1 with ⟨z, _⟩ | ⟨v, h1, h2⟩
    · cases z
    · exact h2.elim
  · rcases get h with ⟨z, hi⟩ | ⟨v, h1, h2⟩
    · cases z
      subst hi
      refine ⟨.ref x, [x, dx], by simp, .ins upd_same (by rw [upd_ne ne, upd_same]) hn .nil, ?_, fun p hp => ?_, fun j xs q h1 h2 => ?_⟩
      · exact List.nodup_cons.mpr ⟨fun z => by rw [List.mem_singleton] at z; exact ne z.symm, nodup1 dx⟩
      · rcases List.mem_cons.mp hp with rfl | hp
        · exact ⟨none_of_same sF hx, hx⟩
        · rw [List.mem_singleton] at hp
          subst hp
          exact ⟨none_of_same sF hdx, hdx⟩
      · rcases get h1 with ⟨z, _⟩ | ⟨v, _, h3⟩
        · cases z
        · exact h3.elim
    · exact h2.elim
  · rcases get h1 with ⟨_, e1⟩ | ⟨v, _, h3⟩
    · rcases get h2 with ⟨_, e2⟩ | ⟨v, _, h3⟩
      · rw [e1, e2]
      · exact h3.elim
    · exact h3.elim
  · rcases get h with ⟨z, _⟩ | ⟨v, h1, p, us, rfl, h3, h4⟩
    · cases z
    · exact ⟨p, us, h1, h3, h4⟩
  · cases e
    simp
section
variable {X : Cx} {Wx : WX} {S : Sx}
/-- fresh, frozen at once -/
def fFrz (f : En → Res M) : En → Res D := fun ρ => (f ρ).bind fun m ρ1 => .ok m.toD ρ1
theorem MJ.ej {e : Expr} {f : En → Res M} (h : MJ X Wx S e f) : EJ X Wx S e (fFrz f) := by
  obtain ⟨t, p, q⟩ := h.ex
  refine ⟨t, p, fun B F0 F H σ ρ Q st post => q B F0 F H σ ρ _ st ?_⟩
  unfold fFrz at post
  cases ef : f ρ with
  | bad => rw [ef] at post; exact post.elim
  | exc x ρ1 => rw [ef] at post; exact post
  | ok m ρ1 =>
    rw [ef] at post
    intro v ps F' H' st' s' r nd fr
    obtain ⟨sf, st2, rv⟩ := st'.freezeM r fr
    exact post v _ H' st2 (s'.trans sf) rv
def fMake (n : Str) (den : List Sl → IR) (fa : En → Res (List Sl)) (dd : List D) : En → Res M := fun ρ => match fa ρ with
  | .ok as _ => match den (.mt (.ins n []) :: (as ++ dd.map .d)) with
    | .ok m => .ok m ρ
    | .exc x => .exc x ρ
    | .bad => .bad
  | .exc x _ => .exc x ρ
  | .bad => .bad
theorem mj_make {k : Nat} {f C : Addr} {fd : FuncData} {ps : List Str} {n : Str} {den : List Sl → IR} {us : List Value} {dd : List D} {x : Str} {p pos : Pos} {e : Expr} {es : List Expr} {fa : En → Res (List Sl)} (c : ClsJ X.K n C) (M : Mk X.K C f) (In : InS X.prog X.w X.K X.mg X.base k f fd ps den) (tk : Takes X Wx) (hr : Room (k + 1) X.A)
    (hm : X.mg x = some (.ref C)) (hb : Binds X.K fd ps us) (hd : DfJ X.K us dd) (ha : LAJ X Wx S (e :: es) fa) (hlen : ∀ as, den as ≠ .bad → as.length = ps.length) (hg : Gl X x := by rfl)
    (hdb : (x == ("__debug__" : Str)) = false := by decide) (he : starEach (e :: es) X.env = (false, eval e X.env) :: starEach es X.env := by rfl) (hpl : (backTo pos (starEach es X.env)).any (·.1) = false := by rfl) :
    MJ X Wx S (.Call (.Name x p) (e :: es) [] pos) (fMake n den fa dd) := by
  obtain ⟨t, pa, qa⟩ := ha.ex
  obtain ⟨dv, hv, hrep⟩ := hd.ex
  refine ⟨_, pe_makeSD M In.ok hr hg hm hb hv (fun σ => passAt tk σ) pa hdb he hpl, fun B F0 F H σ ρ Q st post => qa B F0 F H σ ρ _ st ?_⟩
  unfold fMake at post
  cases ea : fa ρ with
  | bad => rw [ea] at post; exact post
  | exc x _ =>
    rw [ea] at post
    exact fun cls dd F' H' ex rx => post cls dd F' H' (st.ext ex) ex.ff rx
  | ok as _ =>
    simp only [ea] at post
    intro vs F1 H1 ex1 ras x dx hx hdx ne
    have st1 := st.ext ex1
    have rr := ras.append (RepAs.of_d (H := H1) (hrep F1))
    have hi := rr.stI (n := n) (C := C) st1.fz.fH hx hdx ne c.ns
    have back : ∀ {F' H' : Hp}, Fz ⟨X.K, SL (some (.ref x)) H1, H1, F1⟩ F' H' → Ext F1 H1 F' H' := fun z => ⟨z.f01, z.fH, z.bH, z.new⟩
    refine ⟨?_, H1, H1, F1, _, .ref x, hi, ?_⟩
    · have := hlen (.mt (.ins n []) :: (as ++ dd.map .d)) fun z => by rw [z] at post; exact post
      rw [← this, List.length_cons, List.length_cons, rr.length]
    · cases eden : den (.mt (.ins n []) :: (as ++ dd.map .d)) with
      | bad => rw [eden] at post; exact post
      | exc x' =>
        rw [eden] at post
        exact fun cls dd F' H' z rx => post cls dd F' H' (st1.ext (back z)) (ex1.ff.trans (back z).ff) rx
      | ok m =>
        rw [eden] at post
        intro qs F' H' z r nd nn
        refine ⟨rfl, post (.ref x) qs F' H' (st1.ext (back z)) (ex1.ff.trans (back z).ff) r nd fun q hq => ?_⟩
        have h1 : H1 q = none := (nn q hq).2
        have fr := st1.newFree h1
        exact ⟨(nn q hq).1, fr.nb, fr.no, fr.ap.ext st1 (back z)⟩
end
end PD
set_option Elab.async false
set_option linter.all false
set_option maxRecDepth 100000
set_option maxHeartbeats 4000000
/-! PMB: methods of frozen instances. -/
namespace PD
open PySem PySem.Spec L2
section
variable {X : Cx} {Wx : WX} {S : Sx}
def fMeth (n m : Str) (den : List D → FR) (fo : En → Res D) (fa : En → Res (List D)) (dd : List D) : En → Res D := fun ρ => (fo ρ).bind fun o ρ1 => match o with
  | .ins n' fs => if n' = n ∧ (fs.lookup m).isNone then (fa ρ1).bind fun ds ρ2 => match den (.ins n' fs :: (ds ++ dd)) with
      | .ok r => .ok r ρ2
      | .exc x => .exc x ρ2
      | .bad => .bad
    else .bad
  | _ => .bad
theorem meth_post {n m : Str} {C : Addr} {den : List D → FR} {fo : En → Res D} {fa : En → Res (List D)} {dd : List D} {np : Nat} {to_ : TE} {t : TA} {dv : List V} {B F0 F H : Hp} {σ : St} {ρ : En} {Q : VK} (c : ClsJ X.K n C) (hlen : ∀ ds, den ds ≠ .bad → ds.length = np) (hrep : ∀ F, RepL X.K F dv dd)
    (qo : ∀ B F0 F H σ ρ Q, St2 (fx X S B F0) F H σ ρ → Post (Rep X.K) (fx X S B F0) Wx σ F (fo ρ) Q → to_ σ H Q)
    (qa : ∀ B F0 F H σ ρ Q, St2 (fx X S B F0) F H σ ρ → Post (RepL X.K) (fx X S B F0) Wx σ F (fa ρ) Q → t σ H Q)
    (st : St2 (fx X S B F0) F H σ ρ) (post : Post (Rep X.K) (fx X S B F0) Wx σ F (fMeth n m den fo fa dd ρ) Q) : tMethSD C m (spD X.K np den) dv (WE Wx) to_ t σ H Q := by
  refine qo B F0 F H σ ρ _ st (post.bind fun o ρ1 v F1 H1 post1 st1 s1 r1 => ?_)
  cases r1 with
  | @ins a C' dx n' fs ds h1 h2 h3 r =>
    simp only [] at post1
    split at post1
    · rename_i hc
      obtain ⟨hn, hl⟩ := hc
      subst hn
      have hC := c.ns
      rw [h3] at hC
      cases hC
      refine ⟨a, dx, fs, rfl, st1.fz.fH _ _ h1, r.look.1 (by simpa using hl), qa B F0 F1 H1 σ ρ1 _ st1 (post1.bind fun es ρ2 vs F2 H2 post2 st2 s2 r2 => ?_)⟩
      have ro : Rep X.K F2 (.ref a) (.ins n' ds) := .ins (s2 _ _ h1) (s2 _ _ h2) h3 (r.mono s2)
      have rr : RepL X.K F2 (.ref a :: (vs ++ dv)) (.ins n' ds :: (es ++ dd)) := .cons ro (r2.append (hrep F2))
      replace post2 : Post (Rep X.K) (fx X S B F0) Wx σ F2 (match den (.ins n' ds :: (es ++ dd)) with | .ok r => .ok r ρ2 | .exc x => .exc x ρ2 | .bad => .bad) Q := post2
      refine ⟨?_, F2, _, st2.fz.fH, rr, ?_⟩
      · rw [rr.length]
        exact hlen _ fun z => by rw [z] at post2; exact post2
      · cases e : den (.ins n' ds :: (es ++ dd)) with
        | ok r =>
          rw [e] at post2
          exact fun v F' H' ex rv => post2 v F' H' (st2.ext ex) ex.ff rv
        | exc x =>
          rw [e] at post2
          exact fun cls d F' H' ex rx => post2 cls d F' H' (st2.ext ex) ex.ff rx
        | bad =>
          rw [e] at post2
          exact post2
    · exact post1.elim
  | non => exact post1.elim
  | bl _ => exact post1.elim
  | int _ => exact post1.elim
  | str _ => exact post1.elim
  | ty _ => exact post1.elim
  | lst _ _ => exact post1.elim
  | tup _ _ => exact post1.elim
  | dic _ _ => exact post1.elim
  | dit _ _ => exact post1.elim
theorem ej_meth {pl : Sem Bool} {k : Nat} {f C : Addr} {fd : FuncData} {ps : List Str} {n m : Str} {den : List D → FR} {us : List Value} {dd : List D} {pos apos : Pos} {o e : Expr} {es : List Expr} {fo : En → Res D} {fa : En → Res (List D)} (c : ClsJ X.K n C) (hm : Meth X.K C m f) (Fn : FnJ X.prog X.w X.K X.mg X.base k f fd ps den) (tk : Takes X Wx) (hr : Room k X.A)
    (hb : Binds X.K fd ps us) (hd : DfJ X.K us dd) (ho : EJ X Wx S o fo) (ha : AJ X Wx S (e :: es) fa)
    (hst : starEach (e :: es) X.env = (false, eval e X.env) :: starEach es X.env := by rfl) (hpl : (backTo pos (starEach es X.env)).any (·.1) = false := by rfl)
    (ht : eval (.Call (.Attribute o m apos) (e :: es) [] pos) X.env = (do
      let ov ← eval o X.env
      standAt apos.atName
      let (f, first) ← holding [ov] (getMethod ov m pl)
      callWith pos f first (backTo pos (starEach (e :: es) X.env)) (backToKw pos (keywordEach [] X.env))) := by rfl) :
    EJ X Wx S (.Call (.Attribute o m apos) (e :: es) [] pos) (fMeth n m den fo fa dd) := by
  obtain ⟨to_, po, qo⟩ := ho.ex
  obtain ⟨t, pa, qa⟩ := ha.ex
  obtain ⟨dv, hv, hrep⟩ := hd.ex
  exact ⟨_, pe_methSD (E := WE Wx) po c.c hm Fn.ok hr hb hv (fun σ => passAt tk σ) pa hst hpl ht, fun B F0 F H σ ρ Q st post => meth_post c Fn.len hrep qo qa st post⟩
theorem ej_meth0 {pl : Sem Bool} {k : Nat} {f C : Addr} {fd : FuncData} {ps : List Str} {n m : Str} {den : List D → FR} {us : List Value} {dd : List D} {pos apos : Pos} {o : Expr} {fo : En → Res D} (c : ClsJ X.K n C) (hm : Meth X.K C m f) (Fn : FnJ X.prog X.w X.K X.mg X.base k f fd ps den) (tk : Takes X Wx) (hr : Room k X.A)
    (hb : Binds X.K fd ps us) (hd : DfJ X.K us dd) (ho : EJ X Wx S o fo)
    (ht : eval (.Call (.Attribute o m apos) [] [] pos) X.env = (do
      let ov ← eval o X.env
      standAt apos.atName
      let (f, first) ← holding [ov] (getMethod ov m pl)
      callWith pos f first (backTo pos (starEach [] X.env)) (backToKw pos (keywordEach [] X.env))) := by rfl) :
    EJ X Wx S (.Call (.Attribute o m apos) [] [] pos) (fMeth n m den fo (fun ρ => .ok [] ρ) dd) := by
  obtain ⟨to_, po, qo⟩ := ho.ex
  obtain ⟨dv, hv, hrep⟩ := hd.ex
  exact ⟨_, pe_meth0SD (E := WE Wx) po c.c hm Fn.ok hr hb hv (fun σ => passAt tk σ) ht, fun B F0 F H σ ρ Q st post => meth_post (fa := fun ρ => .ok [] ρ) c Fn.len hrep qo (fun B F0 F H σ ρ Q st post => post [] F H st (Same.refl _) .nil) st post⟩
end
end PD
set_option Elab.async false
set_option linter.all false
set_option maxRecDepth 100000
set_option maxHeartbeats 4000000
/-! PMC: o(e, ..), o a frozen instance. -/
namespace PD
open PySem PySem.Spec L2
section
variable {X : Cx} {Wx : WX} {S : Sx}
def tCallOSD (C : Addr) (sp : Sp) (E : St → XK) (tf : TE) (t : TA) : TE := fun σ H Q => tf σ H fun y H1 => ∃ a, y = V.ref a ∧ t σ H1 fun vs H2 => (∃ dx fs, H2 a = some (.ins C dx fs)) ∧ sp (V.ref a :: vs) H2 Q (E σ)
theorem pe_callOSD {CX : CXT} {k : Nat} {g C : Addr} {fd : FuncData} {ps : List Str} {sp : Sp} {E : St → XK} {fe e : Expr} {es : List Expr} {pos : Pos} {tf : TE} {t : TA} (hf : PE X fe tf) (c : StX.CallO X.K C g) (F : FnOk X.prog X.w X.K X.mg X.base CX k g fd ps sp) (hr : Room k X.A) (hb : Binds X.K fd ps []) (hx : ∀ σ, PassesAt CX X σ (E σ)) (ha : PA X (e :: es) t)
    (ht : eval (.Call fe (e :: es) [] pos) X.env = (do callWith pos (← eval fe X.env) [] (backTo pos (starEach (e :: es) X.env)) (backToKw pos (keywordEach [] X.env))) := by rfl)
    (he : starEach (e :: es) X.env = (false, eval e X.env) :: starEach es X.env := by rfl) (hpl : (backTo pos (starEach es X.env)).any (·.1) = false := by rfl) : PE X (.Call fe (e :: es) [] pos) (tCallOSD C sp E tf t) := by
  refine ⟨fun pins s σ H Q I h => ?_⟩
  refine PyProof.Rows.Call_ (thn (hf.run pins s σ H _ I h) fun u s1 ⟨y, H1, I1, ry, a, ey, q⟩ => ?_) ht
  subst ey
  obtain rfl : u = Value.ref a := ry
  refine StX.callO_with (thn (ha.run pos pins s1 σ H1 _ I1 q) fun us s2 ⟨vs, H2, I2, r, hi, q2⟩ => ?_) he hpl
  obtain ⟨ox, od, J, hd⟩ := StX.insC_at (C := C) I2 (.inr hi)
  refine ⟨⟨C, ox, od, J, hd⟩, wpAny_call (PySem.W.kco_code I2.kIn J hd c.at_ c.fn c.fi ?_)⟩
  have r2 : Vals (V.ref a :: vs) (Value.ref a :: us) := .cons rfl r
  have hl : (Value.ref a :: us).length = ps.length := by rw [← r2.length]; exact F.len _ _ _ _ q2
  refine codeAny_mono (F.run X.A X.stack s2 H2 ⟨Value.ref a :: us, []⟩ (Value.ref a :: us) (V.ref a :: vs) Q (E σ) hr I2.env0 (by have := hb s2 (Value.ref a :: us) I2.kIn (by rw [List.append_nil]; exact hl); rwa [List.append_nil] at this) r2 q2) fun r s' hq => ?_
  cases r with
  | error e => exact hx σ pins H2 s2 e s' I2 hq
  | ok fl =>
    cases fl with
    | ret u => exact I2.after hq
    | next => exact False.elim hq
    | brk => exact False.elim hq
    | cont => exact False.elim hq
def fCallO (n : Str) (den : List D → FR) (fo : En → Res D) (fa : En → Res (List D)) : En → Res D := fun ρ => (fo ρ).bind fun o ρ1 => match o with
  | .ins n' fs => if n' = n then (fa ρ1).bind fun ds ρ2 => match den (.ins n' fs :: ds) with
      | .ok r => .ok r ρ2
      | .exc x => .exc x ρ2
      | .bad => .bad
    else .bad
  | _ => .bad
theorem ej_callO {k : Nat} {f C : Addr} {fd : FuncData} {ps : List Str} {n : Str} {den : List D → FR} {pos : Pos} {o e : Expr} {es : List Expr} {fo : En → Res D} {fa : En → Res (List D)} (c : ClsJ X.K n C) (co : StX.CallO X.K C f) (Fn : FnJ X.prog X.w X.K X.mg X.base k f fd ps den) (tk : Takes X Wx) (hr : Room k X.A)
    (hb : Binds X.K fd ps []) (ho : EJ X Wx S o fo) (ha : AJ X Wx S (e :: es) fa)
    (ht : eval (.Call o (e :: es) [] pos) X.env = (do callWith pos (← eval o X.env) [] (backTo pos (starEach (e :: es) X.env)) (backToKw pos (keywordEach [] X.env))) := by rfl)
    (hst : starEach (e :: es) X.env = (false, eval e X.env) :: starEach es X.env := by rfl) (hpl : (backTo pos (starEach es X.env)).any (·.1) = false := by rfl) : EJ X Wx S (.Call o (e :: es) [] pos) (fCallO n den fo fa) := by
  obtain ⟨to_, po, qo⟩ := ho.ex
  obtain ⟨t, pa, qa⟩ := ha.ex
  refine ⟨_, pe_callOSD (E := WE Wx) po co Fn.ok hr hb (fun σ => passAt tk σ) pa ht hst hpl, fun B F0 F H σ ρ Q st post => qo B F0 F H σ ρ _ st (post.bind fun o ρ1 v F1 H1 post1 st1 s1 r1 => ?_)⟩
  cases r1 with
  | @ins a C' dx n' fs ds h1 h2 h3 r =>
    simp only [] at post1
    split at post1
    · rename_i hn
      subst hn
      have hC := c.ns
      rw [h3] at hC
      cases hC
      refine ⟨a, rfl, qa B F0 F1 H1 σ ρ1 _ st1 (post1.bind fun es ρ2 vs F2 H2 post2 st2 s2 r2 => ?_)⟩
      have ro : Rep X.K F2 (.ref a) (.ins n' ds) := .ins (s2 _ _ h1) (s2 _ _ h2) h3 (r.mono s2)
      have rr : RepL X.K F2 (.ref a :: vs) (.ins n' ds :: es) := .cons ro r2
      replace post2 : Post (Rep X.K) (fx X S B F0) Wx σ F2 (match den (.ins n' ds :: es) with | .ok r => .ok r ρ2 | .exc x => .exc x ρ2 | .bad => .bad) Q := post2
      refine ⟨⟨dx, fs, st2.fz.fH _ _ (s2 _ _ h1)⟩, ?_, F2, _, st2.fz.fH, rr, ?_⟩
      · rw [rr.length]
        exact Fn.len _ fun z => by rw [z] at post2; exact post2
      · cases e : den (.ins n' ds :: es) with
        | ok r =>
          rw [e] at post2
          exact fun v F' H' ex rv => post2 v F' H' (st2.ext ex) ex.ff rv
        | exc x =>
          rw [e] at post2
          exact fun cls d F' H' ex rx => post2 cls d F' H' (st2.ext ex) ex.ff rx
        | bad =>
          rw [e] at post2
          exact post2
    · exact post1.elim
  | non => exact post1.elim
  | bl _ => exact post1.elim
  | int _ => exact post1.elim
  | str _ => exact post1.elim
  | ty _ => exact post1.elim
  | lst _ _ => exact post1.elim
  | tup _ _ => exact post1.elim
  | dic _ _ => exact post1.elim
  | dit _ _ => exact post1.elim
end
end PD
set_option Elab.async false
set_option linter.all false
set_option maxRecDepth 100000
set_option maxHeartbeats 4000000
/-! PMD: readings with everything frozen for the moment; lists that are lent; places in lists. -/
namespace PD
open PySem PySem.Spec L2
section
variable {Z : Fx} {F H : Hp} {σ : St} {ρ : En}
/-- a slot as it stands -/
def stD : Sl → Sl
  | .own xs => .d (.lst xs)
  | .ln xs => .d (.lst xs)
  | .mt m => .d m.toD
  | s => s
def still (ρ : En) : En := ρ.map stD
theorem still_inv {i : Nat} {x : Sl} (h : (still ρ)[i]? = some x) : ∃ y, ρ[i]? = some y ∧ stD y = x := by
  unfold still at h
  rw [List.getElem?_map] at h
  cases e : ρ[i]? with
  | none => rw [e] at h; cases h
  | some y => rw [e] at h; exact ⟨y, rfl, by simpa using h⟩
theorem St2.still {K : PySem.W.Frag} {S : Sx} {B F0 : Hp} (s : St2 ⟨K, S, B, F0⟩ F H σ ρ) : St2 ⟨K, S, H, H⟩ H H σ (still ρ) where
  fz := ⟨Same.refl _, Same.refl _, Same.refl _, fun _ _ _ => rfl, s.fz.lB.trans s.fz.bH⟩
  len := by
    unfold PD.still
    rw [List.length_map]
    exact s.len
  atD := fun i d h => by
    obtain ⟨y, h1, h2⟩ := still_inv h
    cases y with
    | un => cases h2
    | ex _ => cases h2
    | d d' =>
      cases h2
      obtain ⟨v, e1, e2⟩ := s.atD i _ h1
      exact ⟨v, e1, e2.mono s.fz.fH⟩
    | own xs =>
      cases h2
      obtain ⟨p, vs, e1, e2, _, _, e5⟩ := s.atO i _ h1
      exact ⟨_, e1, .lst (.inl (.inl e2)) (e5.mono s.fz.fH)⟩
    | ln xs =>
      cases h2
      obtain ⟨p, vs, e1, e2, e3⟩ := s.atL i _ h1
      exact ⟨_, e1, .lst (Same.seqL (s.fz.lB.trans s.fz.bH) e2) (e3.mono s.fz.fH)⟩
    | mt m =>
      cases h2
      obtain ⟨v, ps, e1, e2, _⟩ := s.atM i _ h1
      exact ⟨v, e1, RepM.frz s.fz.fH e2 fun _ _ => rfl⟩
  atO := fun i xs h => by
    obtain ⟨y, h1, h2⟩ := still_inv h
    cases y <;> cases h2
  atX := fun i d h => by
    obtain ⟨y, h1, h2⟩ := still_inv h
    cases y with
    | ex x =>
      cases h2
      obtain ⟨e1, e2⟩ := s.atX i _ h1
      exact ⟨e1, e2.mono s.fz.fH⟩
    | un => cases h2
    | d _ => cases h2
    | own _ => cases h2
    | ln _ => cases h2
    | mt _ => cases h2
  dis := fun i j p xs ys hij h1 h2 => by
    obtain ⟨y, h1, h2⟩ := still_inv h1
    cases y <;> cases h2
  atM := fun i m h => by
    obtain ⟨y, h1, h2⟩ := still_inv h
    cases y <;> cases h2
  oneM := fun i j m n h1 h2 => by
    obtain ⟨y, h1, h2⟩ := still_inv h1
    cases y <;> cases h2
  atL := fun i d h => by
    obtain ⟨y, h1, h2⟩ := still_inv h
    cases y <;> cases h2
  pin := fun v m e h => by
    obtain ⟨y, h1, h2⟩ := still_inv h
    cases y <;> cases h2
/-- behind such a reading -/
theorem St2.after {H' : Hp} (s : St2 Z F H σ ρ) (hh : Same H H') : St2 Z F H' σ ρ :=
  s.ext ⟨Same.refl _, s.fz.fH.trans hh, hh, fun _ _ _ => rfl⟩
end
section
variable {X : Cx} {Wx : WX} {S : Sx}
def fStB (f : En → Res Bool) : En → Res Bool := fun ρ => match f (still ρ) with
  | .ok b _ => .ok b ρ
  | _ => .bad
/-- a test that reads what may be changed -/
theorem tj_st {e : Expr} {f : En → Res Bool} (h : TJ X Wx S e f) : TJ X Wx S e (fStB f) := by
  obtain ⟨t, p, q⟩ := h.ex
  refine ⟨t, p, fun B F0 F H σ ρ Q st post => q H H H H σ (still ρ) Q st.still ?_⟩
  unfold fStB at post
  cases ef : f (still ρ) with
  | bad => rw [ef] at post; exact post.elim
  | exc x ρ1 => rw [ef] at post; exact post.elim
  | ok b ρ1 =>
    rw [ef] at post
    intro v F' H' st' s' r
    exact post v F H' (st.after st'.fz.bH) (Same.refl _) r
def scal : D → Bool
  | .non => true
  | .bl _ => true
  | .int _ => true
  | .str _ => true
  | .ty _ => true
  | _ => false
theorem scal_rep {K : PySem.W.Frag} {F F' : Hp} {v : V} {d : D} (h : scal d = true) (r : Rep K F v d) : Rep K F' v d := by
  cases r <;> (try (cases h; done))
  · exact .non
  · exact .bl _
  · exact .int _
  · exact .str _
  · exact .ty _
def fStD (f : En → Res D) : En → Res D := fun ρ => match f (still ρ) with
  | .ok d _ => if scal d = true then .ok d ρ else .bad
  | _ => .bad
theorem ej_st {e : Expr} {f : En → Res D} (h : EJ X Wx S e f) : EJ X Wx S e (fStD f) := by
  obtain ⟨t, p, q⟩ := h.ex
  refine ⟨t, p, fun B F0 F H σ ρ Q st post => q H H H H σ (still ρ) Q st.still ?_⟩
  unfold fStD at post
  cases ef : f (still ρ) with
  | bad => rw [ef] at post; exact post.elim
  | exc x ρ1 => rw [ef] at post; exact post.elim
  | ok d ρ1 =>
    simp only [ef] at post
    split at post
    · rename_i hf
      intro v F' H' st' s' r
      exact post v F H' (st.after st'.fz.bH) (Same.refl _) (scal_rep hf r)
    · exact post.elim

/-! ### lists by name: of one's own, lent, frozen -/
theorem St2.lent {Z : Fx} {F H : Hp} {σ : St} {ρ : En} {i : Nat} {xs : List D} (st : St2 Z F H σ ρ) (el : lentOf ρ[i]? = some xs) : ∃ p vs, σ[i]? = some (some (.ref p)) ∧ SqL Z.K H p vs ∧ RepL Z.K F vs xs := by
  unfold lentOf at el
  split at el
  · rename_i ys e
    cases el
    obtain ⟨p, vs, h1, h2, h3, h4, h5⟩ := st.atO i _ e
    exact ⟨_, vs, h1, .inl (.inl h2), h5⟩
  · rename_i ys e
    cases el
    obtain ⟨p, vs, h1, h2, h3⟩ := st.atL i _ e
    exact ⟨_, vs, h1, Same.seqL (st.fz.lB.trans st.fz.bH) h2, h3⟩
  · rename_i ys e
    cases el
    obtain ⟨v, h1, h2⟩ := st.atD i _ e
    cases h2 with
    | lst h3 h4 => exact ⟨_, _, h1, Same.seqL st.fz.fH h3, h4⟩
  · cases el
/-- for over a list that is lent -/
def iLn (i : Nat) : En → Res (List D) := fun ρ => match ρ[i]? with
  | some (.ln xs) => .ok xs ρ
  | _ => .bad
theorem ij_ln (i : Nat) {x : Str} {tg : Expr} {pos : Pos} (hN : X.N[i]? = some x := by rfl) (hv : Vis X.env.scope x := by first | exact Or.inl rfl | exact Or.inr (Or.inl rfl) | exact Or.inr (Or.inr rfl)) (hd : (x == ("__debug__" : Str)) = false := by decide)
    (hcd : (x == ("__classdict__" : Str)) = false := by decide) : IJ X Wx S tg (.Name x pos) (iLn i) := by
  refine ⟨_, pi_list (pe_var hN hv hd hcd), fun B F0 F H σ ρ R st post => ?_⟩
  unfold iLn at post
  split at post
  · rename_i ds ρ1 e
    split at e
    · rename_i xs e1
      cases e
      obtain ⟨p, vs, h1, h2, h3⟩ := st.atL i _ e1
      refine ⟨_, h1, p, rfl, ⟨vs, Same.seqL (st.fz.lB.trans st.fz.bH) h2⟩, ?_⟩
      have hl := h3.length
      refine post _ (fun H => SqL X.K H p vs) (YAt vs) F H st (Same.refl _) (by rw [← hl]; exact walk_list) (fun H'' _ s => Same.seqL s h2) (fun j Fi Hi x Hi' hi sF sH y => ?_)
      obtain ⟨rfl, hx⟩ := y
      obtain ⟨d, hd, rd⟩ := h3.get' hx
      exact ⟨Fi, d, Ext.refl sH, hd, rd.mono sF⟩
    · cases e
  · rename_i x ρ1 e
    split at e <;> cases e
  · exact post.elim
/-- tuple(x) -/
def fTupN (i : Nat) : En → Res D := fun ρ => match lentOf ρ[i]? with
  | some xs => .ok (.tup xs) ρ
  | none => .bad
theorem ej_tupN (i : Nat) {x : Str} {p q pos : Pos} (hm : X.mg "tuple" = none) (hg : Gl X "tuple" := by rfl) (hN : X.N[i]? = some x := by rfl) (hv : Vis X.env.scope x := by first | exact Or.inl rfl | exact Or.inr (Or.inl rfl) | exact Or.inr (Or.inr rfl)) (hd : (x == ("__debug__" : Str)) = false := by decide)
    (hcd : (x == ("__classdict__" : Str)) = false := by decide) (na : starEach [.Name x q] X.env = (false, eval (.Name x q) X.env) :: starEach [] X.env := by rfl) : EJ X Wx S (.Call (.Name "tuple" p) [.Name x q] [] pos) (fTupN i) := by
  refine ⟨_, pe_tupleOf hg hm (pe_var hN hv hd hcd) na, fun B F0 F H σ ρ Q st post => ?_⟩
  unfold fTupN at post
  cases el : lentOf ρ[i]? with
  | none => simp only [el] at post; exact post.elim
  | some xs =>
    simp only [el] at post
    obtain ⟨a, vs, h1, h2, h3⟩ := st.lent el
    refine ⟨_, h1, .inl ⟨a, vs, rfl, h2, fun r hr => ?_⟩⟩
    have ex := Ext.laid (o := .tup vs) st.fz.fH hr
    exact post _ _ _ (st.ext ex) ex.ff (.tup (.inl (.inl upd_same)) (h3.mono ex.ff))
/-! ### e[k], a place; e.append(v) at a place -/
def ixAt (o : Option D) (n : Nat) : Option Nat := match o with
  | some (.int z) => ixN n z
  | _ => none
def stOf (r : Res D) : Option D := match r with
  | .ok d _ => some d
  | _ => none
def lIdx (i : Nat) (f : En → Option (List Stp)) (fb : En → Res D) : En → Option (List Stp) := fun ρ => match f ρ with
  | some π => match plc ρ i π with
    | some (.lst xs) => (ixAt (stOf (fb (still ρ))) xs.length).map fun k => π ++ [.idx k]
    | _ => none
  | none => none
theorem lj_idx {i : Nat} {e b : Expr} {pos : Pos} {f : En → Option (List Stp)} {fb : En → Res D} (h : LJ X S e i f) (hb : EJ X Wx S b fb) (hs : PlainIx b := by intro _ _; rfl) : LJ X S (.Subscript e b pos) i (lIdx i f fb) := by
  obtain ⟨t, p, q⟩ := h.ex
  obtain ⟨tb, pb, qb⟩ := hb.ex
  refine ⟨_, pe_ix ix_list p pb hs, fun B F0 F H σ ρ Q st ⟨π', m', e1, e2, k⟩ => ?_⟩
  unfold lIdx at e1
  cases ef : f ρ with
  | none => rw [ef] at e1; cases e1
  | some π =>
    simp only [ef] at e1
    split at e1
    · rename_i xs ep
      cases eb : fb (still ρ) with
      | bad => rw [eb] at e1; cases e1
      | exc x ρ1 => rw [eb] at e1; cases e1
      | ok d ρ1 =>
        rw [eb] at e1
        cases d <;> (try (cases e1; done))
        rename_i z
        replace e1 : (ixN xs.length z).map (fun k => π ++ [Stp.idx k]) = some π' := e1
        cases ei : ixN xs.length z with
        | none => rw [ei] at e1; cases e1
        | some j =>
          rw [ei] at e1
          cases e1
          refine q B F0 F H σ ρ _ st ⟨π, _, ef, ep, fun v F1 H1 ex at_ => ?_⟩
          have st1 := st.ext ex
          refine qb H1 H1 H1 H1 σ (still ρ) _ st1.still ?_
          rw [eb]
          intro y F2 H2 st2 _ ry
          cases ry
          have hh : Same H1 H2 := st2.fz.bH
          have st3 := st1.after hh
          have at3 := at_.mono hh
          obtain ⟨ps', r, _⟩ := st3.part at3
          obtain ⟨m, w, a1, a2, a3, a4⟩ := at3
          cases r with
          | @lst a vs ms ps h1 r =>
            have hlt : j < xs.length := (ixN_seq ei).2.1
            obtain ⟨mj, hmj⟩ : ∃ mj, xs[j]? = some mj := ⟨_, List.getElem?_eq_getElem hlt⟩
            obtain ⟨v', l, _⟩ := r.part hmj
            have em : m' = mj := by
              have := M.at_snoc (s := .idx j) a2 hmj
              obtain ⟨m0, z1, z2⟩ := plc_some e2
              rw [a1] at z1
              cases z1
              rw [this] at z2
              cases z2
              rfl
            subst em
            refine ⟨a, vs, z, v', rfl, rfl, .inl (.inl h1), ?_, ?_⟩
            · unfold atI
              rw [r.length, ei]
              exact l
            · exact k v' F1 H2 ⟨ex.ff, st3.fz.fH, ex.hh.trans hh, fun a o e => ex.new a o e⟩ ⟨m, w, a1, M.at_snoc a2 hmj, a3, a4.snoc (.idx h1 l)⟩
    · cases e1
def sAppP (i : Nat) (f : En → Option (List Stp)) (fv : En → Res D) : En → Fl := fun ρ => match f ρ with
  | some π => match plc ρ i π with
    | some (.lst xs) => match fv (calm ρ) with
      | .ok d _ => if xs.length < lim then .nx (setP ρ i π (.lst (xs ++ [.fz d]))) else .bad
      | .exc x _ => .exc x ρ
      | .bad => .bad
    | _ => .bad
  | none => .bad
theorem sj_appP {i : Nat} {o e : Expr} {apos cpos pos : Pos} {f : En → Option (List Stp)} {fv : En → Res D} (h : LJ X S o i f) (he : EJ X Wx S e fv)
    (hbase : attributeBase o "append" X.env (eval o X.env) = eval o X.env := by rfl)
    (hfew : ((backTo cpos (starEach [e] X.env)).all (fun x => !x.1) && (backToKw cpos (keywordEach [] X.env)).all (fun x => x.1.isSome)
      && decide (([e] : List Expr).length + ([] : List Keyword).length + (if ([] : List Keyword).isEmpty then 0 else 1) < 30)) = true := by rfl)
    (hline : (apos.endLine == cpos.line) = true := by rfl) (hs : starEach [e] X.env = (false, eval e X.env) :: starEach [] X.env := by rfl) (hplain : (backTo cpos (starEach [] X.env)).any (·.1) = false := by rfl)
    (hsw : swapsWith (.Call (.Attribute o "append" apos) [e] [] cpos) none pos.line X.env = pure false := by rfl) :
    SJ X Wx S (.Expr (.Call (.Attribute o "append" apos) [e] [] cpos) pos) (sAppP i f fv) := by
  obtain ⟨t, p, q⟩ := h.ex
  obtain ⟨te, pe, qe⟩ := he.ex
  refine ⟨_, ps_expr (pe_bm PySem.F.plainAttrs_list PySem.F.slot_list_append PySem.F.type_list_append mt_append p (pa_cons pe pa_nil hs) hbase hfew hline hs hplain) hsw, fun B F0 F H σ ρ E st post => ?_⟩
  unfold sAppP at post
  cases ef : f ρ with
  | none => simp only [ef] at post; exact post.elim
  | some π =>
    simp only [ef] at post
    split at post
    · rename_i xs ep
      refine q B F0 F H σ ρ _ st ⟨π, _, ef, ep, fun v F1 H1 ex at_ => ?_⟩
      have st1 := st.ext ex
      obtain ⟨ps0, r0, _⟩ := st1.part at_
      cases r0 with
      | @lst a vs0 ms ps h1 r =>
        refine ⟨.inl ⟨rfl, vs0, .inl (.inl h1)⟩, show te σ H1 fun y H2 => rAppend (.ref a) [y] H2 fun x H1 => E.nx σ H1 from quiet qe st1 ?_⟩
        cases ev : fv (calm ρ) with
        | bad => rw [ev] at post; exact post.elim
        | exc x _ =>
          rw [ev] at post
          exact fun cls dd F3 H3 ex3 rx => post cls dd σ F3 H3 (st1.ext ex3) (ex.ff.trans ex3.ff) rx
        | ok d _ =>
          simp only [ev] at post
          split at post
          · rename_i hl
            intro y F3 H3 ex3 ry
            have st3 := st1.ext ex3
            have at3 := at_.mono ex3.hh
            obtain ⟨ps', r3, nd, n2, fr2, _⟩ := st3.part at3
            cases r3 with
            | @lst _ vs ms ps2 h3 r3 =>
              have n := List.nodup_cons.mp nd
              refine ⟨a, vs, y, rfl, rfl, h3, lim_lt (by rw [r3.length]; exact hl), ?_⟩
              have r4 : RepML X.K F3 (upd H3 a (.lst (vs ++ [y]))) vs xs ps2 := r3.move (Same.refl _) fun p hp => upd_ne fun w => n.1 (by rw [← w]; exact hp)
              have r5 := r4.snoc (.fz ry)
              rw [List.append_nil] at r5
              have := st3.write1 (o' := .lst (vs ++ [y])) at3 (.lst h3 r3) (List.mem_cons_self ..) (.lst upd_same r5) nd fun p hp => .inl hp
              exact post σ F3 _ this (ex.ff.trans ex3.ff)
          · exact post.elim
    · exact post.elim
end
end PD
set_option Elab.async false
set_option linter.all false
set_option maxRecDepth 100000
set_option maxHeartbeats 4000000
/-! PME: tuple(sorted(set(x))), x a list of ints. -/
namespace PD
open PySem PySem.Spec L2 PyProof.Rows
section
variable {P : Program} {w : World} {A : Around} {E : Value → Shared → Prop} {s : Shared}
/-- the new set's object -/
def newSet (w : World) : Obj := { cls := .type "set", dict := none, data := .set #[] 0 (.fresh 0 0 (!w.params.followText "set-order")) }
set_option maxHeartbeats 6400000 in
theorem call_set_listI {l : Addr} {items : Array Value} (ns : List Int) {Q : Value → Shared → Prop} (hh : A.handled = none) (hl : s.heap.IsList l items) (hit : IntsAre items.toList ns) (hb : ns.length + 1 < scanBound)
    (h : ∀ (h' : Heap) (tk c : Nat), SetR w h' s.heap.objs.size (fun j => decide (j ∈ ns)) c → c ≤ ns.length → (∀ b o, s.heap.get? b = some o → h'.get? b = some o) → Q (.ref s.heap.objs.size) { s with heap := h', toks := tk }) :
    wpAny (model P w) A (call (.type "set") [.ref l]) Q E s := by
  have hisz : items.size = ns.length := by
    have q := IntsAre.length hit
    rwa [Array.length_toList] at q
  obtain ⟨c, tl, hmro⟩ := F.called_set.mro
  have hmade := F.called_set.made
  have hsub := F.called_set.sub
  refine wpAny_call (codeAny_of_tree ?_)
  show wpAny _ _ (callAny (.type "set") _) _ _ _
  refine wpAny_pure ⟨Code.quiet_builtin _ (by decide +kernel), codeAny_builtin F.entry_type_call ?_⟩
  rw [Around.under_plain (weight_type_call_type "set" [.ref l] []) rfl]
  have h1 := F.called_set.notType
  have h2 := F.called_set.canCreate
  have hct := F.typeCall_set_1 (.ref l)
  repeat (any_goals (first | assumption | wp_step))
  refine codeAny_mono (code_set_led1 (.ref l) (E := E) (Q₁ := fun obj s₁ => obj = .ref s.heap.objs.size ∧ s₁ = { s with heap := s.heap.push (newSet w) }) ⟨rfl, rfl⟩) fun r s₁ hr => ?_
  match r, hr with
  | .error e, hr => exact hr
  | .ok (.ret obj), hr =>
      obtain ⟨rfl, rfl⟩ := hr
      have hS : (s.heap.push (newSet w)).get? s.heap.objs.size = some (newSet w) := Heap.get?_push_size _ rfl
      have hT : Shared.TypeIs { s with heap := s.heap.push (newSet w) } (.ref s.heap.objs.size) "set" := ⟨_, hS, rfl⟩
      have hli := F.called_set.init.lookup
      have hbi := F.called_set.init.bind (.ref s.heap.objs.size)
      repeat (any_goals (first | assumption | wp_step))
      refine codeAny_mono (codeAny_call_builtin (R := wants (fun r s₂ => r = .none ∧ ∃ h' tk c, s₂ = { s with heap := h', toks := tk } ∧ SetR w h' s.heap.objs.size (fun j => decide (j ∈ ns)) c ∧ c ≤ ns.length ∧
          (∀ b o, s.heap.get? b = some o → h'.get? b = some o)) E) F.called_set.init.plain F.entry_set_init (check_set_init_1 hT ?_)) fun r₂ s₂ hr₂ => ?_
      · obtain ⟨ol, hol, hcl, nl, hdl⟩ := hl
        obtain ⟨ocls, odict, odata, oslots⟩ := ol
        simp only at hcl hdl
        subst hcl; subst hdl
        have hol' : (s.heap.push (newSet w)).get? l = some { cls := .type "list", dict := odict, data := .seq items nl, slots := oslots } := Heap.get?_push_of_some _ hol
        have hsls := F.sub_list_set
        have hslf := F.sub_list_frozenset
        have hne : (Value.type "list" == Value.type "dict") = false := by decide
        have hl1 : (s.heap.push (newSet w)).IsList l items := ⟨_, hol', rfl, nl, rfl⟩
        unfold Builtin.«set.__init__» noKeywords Builtin.Frozenset.updateFrom
        generalize hPI : pyIter = PI
        wp_walk
        subst hPI
        refine wpAny_pyIter_list hl1 ?_
        refine wpAny_bind (wpAny_runValue ?_)
        have hlS : l < s.heap.objs.size := Heap.lt_size hol
        have hh3 : A.in1.in1.in1.handled = none := by simp [hh]
        have hsz1 : (s.heap.push (newSet w)).objs.size = s.heap.objs.size + 1 := Heap.size_push ..
        have hneI : l ≠ (s.heap.push (newSet w)).objs.size := Nat.ne_of_lt (by rw [hsz1]; exact Nat.lt_succ_of_lt hlS)
        have hSf : s.heap.objs.size ∉ [(s.heap.push (newSet w)).objs.size, l] := by
          rw [hsz1]
          simp only [List.mem_cons, List.not_mem_nil, or_false, not_or]
          exact ⟨Nat.ne_of_lt (Nat.lt_succ_self _), Nat.ne_of_gt hlS⟩
        have hval : ∀ (i : Nat) (v : Value), items[i]? = some v → ∃ k t, ns[i]? = some k ∧ v = .int k t := fun i v hv => by
          have hi : i < ns.length := by rw [← hisz]; exact (Array.getElem?_eq_some_iff.mp hv).1
          obtain ⟨t, e⟩ := IntsAre.int_at hit i v (by rw [Array.getElem?_toList]; exact hv)
          exact ⟨ns[i], t, List.getElem?_eq_getElem hi, by rw [e, List.getD_eq_getElem?_getD, List.getElem?_eq_getElem hi] <;> rfl⟩
        have hget : ((s.heap.push (newSet w)).push { cls := .type "list_iterator", data := .fields #[.ref l, .int 0 0] }).get? s.heap.objs.size = some (newSet w) := Heap.get?_push_of_some _ hS
        refine set_update_ints ((Walks.list hh3 _ l hneI items).toS) s.heap.objs.size hSf ns hisz hb hval (items.size - 0) 0 _ (by omega) (Nat.zero_le _)
          ⟨⟨_, Heap.get?_push_size _ rfl, rfl, rfl⟩, (hl1.push _)⟩ ⟨0, Nat.le_refl 0, setR_new_at hget⟩ fun s' c' hm hc' hS' => ?_
        obtain ⟨h', g2, d', tk', os'⟩ := s'
        have eg : g2 = s.gens := hm.gens
        have ed : d' = s.drawn := hm.drawn
        have eo : os' = s.os := hm.os
        subst eg ed eo
        show wpAny _ _ _ _ _ _
        refine wpAny_pure ?_
        show wpAny _ _ (ret Value.none) _ _ _
        rw [hisz] at hc'
        refine wpAny_pure ⟨rfl, h', tk', c', rfl, hS', hc', fun b o e => ?_⟩
        have hb0 : b < s.heap.objs.size := Heap.lt_size e
        refine hm.heap b o ?_ (Heap.get?_push_of_some _ (Heap.get?_push_of_some _ e))
        simp only [List.mem_cons, List.not_mem_nil, or_false, not_or]
        exact ⟨Nat.ne_of_lt hb0, Nat.ne_of_lt (by rw [hsz1]; exact Nat.lt_succ_of_lt hb0)⟩
      · match r₂, hr₂ with
        | .error e, hr₂ => exact hr₂
        | .ok (.ret r), hr₂ =>
            obtain ⟨rfl, h', tk, c', rfl, hS', hc', hk'⟩ := hr₂
            repeat (any_goals (first | assumption | wp_step))
            exact h _ _ _ hS' hc' hk'
end
/-! ### each once, ascending -/
def insU (k : Int) : List Int → List Int
  | [] => [k]
  | x :: r => if k < x then k :: x :: r else if k = x then x :: r else x :: insU k r
def sdup : List Int → List Int
  | [] => []
  | k :: r => insU k (sdup r)
theorem insU_mem {k j : Int} : ∀ {l : List Int}, j ∈ insU k l ↔ j = k ∨ j ∈ l
  | [] => by simp [insU]
  | x :: r => by
    have ih := insU_mem (k := k) (j := j) (l := r)
    unfold insU
    split
    · simp
    · split
      · rename_i h
        subst h
        simp
      · rw [List.mem_cons, ih, List.mem_cons]
        constructor
        · rintro (h | h | h) <;> simp [h]
        · rintro (h | h | h) <;> simp [h]
theorem insU_asc {k : Int} : ∀ {l : List Int}, l.Pairwise (· < ·) → (insU k l).Pairwise (· < ·)
  | [], _ => by simp [insU]
  | x :: r, h => by
    obtain ⟨h1, h2⟩ := List.pairwise_cons.mp h
    unfold insU
    split
    · rename_i hk
      refine List.pairwise_cons.mpr ⟨fun y hy => ?_, h⟩
      rcases List.mem_cons.mp hy with rfl | hy
      · exact hk
      · have := h1 y hy
        omega
    · split
      · exact h
      · refine List.pairwise_cons.mpr ⟨fun y hy => ?_, insU_asc h2⟩
        rcases insU_mem.mp hy with rfl | hy
        · omega
        · exact h1 y hy
theorem sdup_asc : ∀ l : List Int, (sdup l).Pairwise (· < ·)
  | [] => List.Pairwise.nil
  | _ :: r => insU_asc (sdup_asc r)
theorem sdup_mem {j : Int} : ∀ {l : List Int}, j ∈ sdup l ↔ j ∈ l
  | [] => Iff.rfl
  | k :: r => by
    show j ∈ insU k (sdup r) ↔ _
    rw [insU_mem, sdup_mem, List.mem_cons]
theorem asc_uni : ∀ {l m : List Int}, l.Pairwise (· < ·) → m.Pairwise (· < ·) → (∀ j, j ∈ l ↔ j ∈ m) → l = m
  | [], [], _, _, _ => rfl
  | [], y :: m, _, _, h => absurd ((h y).mpr List.mem_cons_self) (by simp)
  | x :: l, [], _, _, h => absurd ((h x).mp List.mem_cons_self) (by simp)
  | x :: l, y :: m, hl, hm, h => by
    obtain ⟨a1, a2⟩ := List.pairwise_cons.mp hl
    obtain ⟨b1, b2⟩ := List.pairwise_cons.mp hm
    have e : x = y := by
      rcases List.mem_cons.mp ((h x).mp List.mem_cons_self) with e | e
      · exact e
      · rcases List.mem_cons.mp ((h y).mpr List.mem_cons_self) with e2 | e2
        · exact e2.symm
        · have := b1 x e
          have := a1 y e2
          omega
    subst e
    rw [asc_uni a2 b2 fun j => ?_]
    constructor
    · intro hj
      rcases List.mem_cons.mp ((h j).mp (List.mem_cons_of_mem _ hj)) with e | e
      · have := a1 j hj
        omega
      · exact e
    · intro hj
      rcases List.mem_cons.mp ((h j).mpr (List.mem_cons_of_mem _ hj)) with e | e
      · have := b1 j hj
        omega
      · exact e
section
variable {X : Cx} {Wx : WX} {S : Sx}
def tSortSet (K : PySem.W.Frag) (ta : TE) : TE := fun σ H Q => ta σ H fun x H1 => ∃ (l : Addr) (ns : List Int), x = V.ref l ∧ SqL K H1 l (ns.map V.int) ∧ ns.length < 64 ∧ ∀ p, H1 p = none → Q (.ref p) (upd H1 p (.lst ((sdup ns).map V.int)))
theorem pe_sortSet {a : Expr} {ta : TE} {p p2 q pos : Pos} (hc : X.calm = true) (hg : Gl X "sorted") (hm : X.mg "sorted" = none) (hg2 : Gl X "set") (hm2 : X.mg "set" = none) (ha : PE X a ta)
    (na : starEach [a] X.env = (false, eval a X.env) :: starEach [] X.env := by rfl) : PE X (.Call (.Name "sorted" p) [.Call (.Name "set" p2) [a] [] q] [] pos) (tSortSet X.K ta) := by
  refine ⟨fun pins s σ H Q I h => ?_⟩
  refine Call_ (ld_blt I hg hm PyProof.Rows.boot_sorted ?_)
  refine PyProof.Rows.callWith_builtin1 (PyProof.Rows.args_cons ?_ rfl) rfl rfl
  refine Call_ (ld_blt I hg2 hm2 PyProof.Rows.boot_set ?_)
  refine PyProof.Rows.callWith_type1 (PyProof.Rows.args_cons (thn (ha.run pins s σ H _ I h) fun v s1 ⟨x, H1, I1, r1, q1⟩ => PyProof.Rows.args_nil ?_) na) na rfl
  obtain ⟨l, ns, rfl, hq, h1, q1⟩ := q1
  cases r1
  obtain ⟨its, r, pl, hz⟩ := I1.list hq
  have hl : its.toArray.size = ns.length := by rw [List.size_toArray, ← r.length, List.length_map]
  refine call_set_listI ns (I1.ok.hd hc) pl.isList (by simpa using r.ints) (by unfold scanBound; omega) fun h' tk c R hc' hk => ?_
  refine PyProof.Rows.args_nil ?_
  have I2 : Inv X pins σ H1 { s1 with heap := h', toks := tk } := I1.kept fun b o e => hk b o e
  have R2 : SetR X.w ({ s1 with heap := h', toks := tk } : Shared).heap s1.heap.objs.size (fun j => decide (j ∈ ns)) c := R
  revert R2 I2
  generalize ({ s1 with heap := h', toks := tk } : Shared) = s2
  intro I2 R2
  refine sorted_set R2 (I2.ok.hd hc) (by omega) fun s' b out c2 ms k g o1 hp hg' hi hs hm' hl' => ?_
  have em : ms = sdup ns := asc_uni hs (sdup_asc ns) fun j => by
    rw [hm' j, sdup_mem]
    exact decide_eq_true_iff
  have hlen : (ms.map V.int).length ≤ sizeLine := by rw [List.length_map, hl', sizeLine_eq]; omega
  have hn : H1 b = none := I2.hok.fresh hp
  have J : Inv X pins σ (upd H1 b (.lst (ms.map V.int))) { s2 with heap := s'.heap, gens := s'.gens, drawn := s'.drawn, toks := s'.toks } := I2.call (h' := s'.heap) (g' := s'.gens) (d' := s'.drawn) (t' := s'.toks) (ch := []) (Un.laid k hp hn) (I2.hok.laid k hp ⟨hlen, out.toList, c2, vals_of_ints hi, hg'⟩) (by rw [g]; exact I2.bare) (fun _ z => nomatch z)
  have e : s' = { s2 with heap := s'.heap, gens := s'.gens, drawn := s'.drawn, toks := s'.toks } := by
    cases s'
    cases s2
    cases o1
    rfl
  rw [e]
  subst em
  exact ⟨.ref b, _, J, rfl, q1 b hn⟩
/-- tuple(sorted(set(x))) -/
def fTss (i : Nat) : En → Res D := fun ρ => match (lentOf ρ[i]?).bind intsOf with
  | some ns => if ns.length < 64 then .ok (.tup ((sdup ns).map .int)) ρ else .bad
  | none => .bad
theorem ej_tss (i : Nat) {x : Str} {p p2 p3 q1 q2 q3 pos : Pos} (hmt : X.mg "tuple" = none) (hms : X.mg "sorted" = none) (hm2 : X.mg "set" = none) (hgt : Gl X "tuple" := by rfl) (hgs : Gl X "sorted" := by rfl) (hg2 : Gl X "set" := by rfl) (hc : X.calm = true := by rfl) (hN : X.N[i]? = some x := by rfl) (hv : Vis X.env.scope x := by first | exact Or.inl rfl | exact Or.inr (Or.inl rfl) | exact Or.inr (Or.inr rfl)) (hd : (x == ("__debug__" : Str)) = false := by decide)
    (hcd : (x == ("__classdict__" : Str)) = false := by decide) (na : starEach [.Name x q1] X.env = (false, eval (.Name x q1) X.env) :: starEach [] X.env := by rfl)
    (nt : starEach [.Call (.Name "sorted" p) [.Call (.Name "set" p2) [.Name x q1] [] q2] [] q3] X.env = (false, eval (.Call (.Name "sorted" p) [.Call (.Name "set" p2) [.Name x q1] [] q2] [] q3) X.env) :: starEach [] X.env := by rfl) :
    EJ X Wx S (.Call (.Name "tuple" p3) [.Call (.Name "sorted" p) [.Call (.Name "set" p2) [.Name x q1] [] q2] [] q3] [] pos) (fTss i) := by
  refine ⟨_, pe_tupleOf hgt hmt (pe_sortSet hc hgs hms hg2 hm2 (pe_var hN hv hd hcd) na) nt, fun B F0 F H σ ρ Q st post => ?_⟩
  unfold fTss at post
  cases el : lentOf ρ[i]? with
  | none => simp only [el] at post; exact post.elim
  | some xs =>
    simp only [el, Option.bind_some] at post
    cases ei : intsOf xs with
    | none => simp only [ei] at post; exact post.elim
    | some ns =>
      simp only [ei] at post
      split at post
      · rename_i hl
        obtain ⟨a, vs, h1, h2, h3⟩ := st.lent el
        have hx := intsOf_some ei
        subst hx
        have hv := RepL.ints_inv h3
        subst hv
        refine ⟨_, h1, a, ns, rfl, h2, hl, fun b hb => .inl ⟨b, _, rfl, .inl (.inl upd_same), fun r hr => ?_⟩⟩
        have st1 := st.laid (o := .lst ((sdup ns).map V.int)) hb
        have ex := Ext.laid (o := .tup ((sdup ns).map V.int)) st1.fz.fH hr
        exact post _ _ _ (st1.ext ex) ex.ff (.tup (.inl (.inl upd_same)) (RepL.ints _))
      · exact post.elim
end
end PD
set_option Elab.async false
set_option linter.all false
set_option maxRecDepth 100000
set_option maxHeartbeats 4000000
/-! PDG: stores into a list of one's own, index, and/or as values, lists repeated, range with step -1, tuples of the module. -/
namespace PD
open PySem PySem.Spec L2
section
variable {X : Cx} {Wx : WX} {S : Sx}
/-- x[k] = e, x a list of one's own -/
def sSetIx (i : Nat) (fe fk : En → Res D) : En → Fl := fun ρ => (fe ρ).fl fun d ρ1 => match ownAt ρ1 i with
  | none => .bad
  | some _ => (fk ρ1).fl fun k ρ2 => match k, ownAt ρ2 i with
    | .int z, some xs => (match ixN xs.length z with
      | some j => .nx (ρ2.set i (.own (xs.set j d)))
      | none => .bad)
    | _, _ => .bad
theorem sj_setIx (i : Nat) {x : Str} {k e : Expr} {fe fk : En → Res D} {p pos tpos : Pos} (he : EJ X Wx S e fe) (hk : EJ X Wx S k fk) (hN : X.N[i]? = some x := by rfl) (hv : Vis X.env.scope x := by first | exact Or.inl rfl | exact Or.inr (Or.inl rfl) | exact Or.inr (Or.inr rfl)) (hd : (x == ("__debug__" : Str)) = false := by decide)
    (hcd : (x == ("__classdict__" : Str)) = false := by decide) (hs : swapsWithSole [.Subscript (.Name x p) k tpos] e pos.line X.env = pure false := by rfl) (hw : swappedStores [.Subscript (.Name x p) k tpos] e X.env = pure none := by rfl)
    (h1 : (assignEach [.Subscript (.Name x p) k tpos] X.env).map (·.2) = [assign (.Subscript (.Name x p) k tpos) X.env] := by rfl)
    (ha : ∀ v, assign (.Subscript (.Name x p) k tpos) X.env v = (do
      let ov ← holding [v] (eval (.Name x p) X.env)
      let iv ← holding [v, ov] (eval k X.env)
      standAt tpos
      holding [v, ov, iv] (setItem ov iv v)
      release [v, ov, iv] []) := by intro _; rfl) : SJ X Wx S (.Assign [.Subscript (.Name x p) k tpos] e pos) (sSetIx i fe fk) := by
  obtain ⟨te, pe, qe⟩ := he.ex
  obtain ⟨tk, pk, qk⟩ := hk.ex
  refine ⟨_, ps_asg pe (pg_sub (pe_var hN hv hd hcd) pk set_list ha) hs hw h1, fun B F0 F H σ ρ E st post => qe B F0 F H σ ρ _ st (fl_post post fun d ρ1 v F1 H1 post1 st1 s1 r1 => ?_)⟩
  cases e0 : ownAt ρ1 i with
  | none => simp only [e0] at post1; exact post1.elim
  | some xs0 =>
    simp only [e0] at post1
    obtain ⟨p0, vs0, h3, h4, _⟩ := st1.atO i xs0 (ownAt_some e0)
    refine ⟨.ref p0, h3, qk B F0 F1 H1 σ ρ1 _ st1 (fl_post post1 fun kd ρ2 kv F2 H2 post2 st2 s2 r2 => ?_)⟩
    cases r2 <;> (try (exact post2.elim))
    rename_i z
    cases e1 : ownAt ρ2 i with
    | none => simp only [e1] at post2; exact post2.elim
    | some xs =>
      simp only [e1] at post2
      obtain ⟨p1, vs, h5, h6, h7, h8, h9⟩ := st2.atO i xs (ownAt_some e1)
      rw [h3] at h5
      cases h5
      cases e2 : ixN xs.length z with
      | none => simp only [e2] at post2; exact post2.elim
      | some j =>
        simp only [e2] at post2
        refine ⟨p0, vs, z, j, rfl, rfl, h6, by rw [h9.length]; exact e2, ?_⟩
        exact post2 σ F2 _ (st2.change (ownAt_some e1) h3 (h9.set j (r1.mono s2))) (Same.refl _)

/-! ### and, or as values -/
def fAndV (f g : En → Res D) : En → Res D := fun ρ => (f ρ).bind fun d ρ1 => match d with
  | .bl true => g ρ1
  | .bl false => .ok (.bl false) ρ1
  | _ => .bad
def fOrV (f g : En → Res D) : En → Res D := fun ρ => (f ρ).bind fun d ρ1 => match d with
  | .bl true => .ok (.bl true) ρ1
  | .bl false => g ρ1
  | _ => .bad
theorem ej_one {op : BoolOp} {a : Expr} {pos : Pos} {f : En → Res D} (h : EJ X Wx S a f) : EJ X Wx S (.BoolOp op [a] pos) f := by
  obtain ⟨t, p, q⟩ := h.ex
  exact ⟨_, pe_one p, q⟩
theorem ej_andV {a b : Expr} {rest : List Expr} {pos : Pos} {f g : En → Res D} (ha : EJ X Wx S a f) (hb : EJ X Wx S (.BoolOp .And (b :: rest) pos) g) : EJ X Wx S (.BoolOp .And (a :: b :: rest) pos) (fAndV f g) := by
  obtain ⟨t, p, q⟩ := ha.ex
  obtain ⟨t2, p2, q2⟩ := hb.ex
  refine ⟨_, pe_and p p2, fun B F0 F H σ ρ Q st post => q B F0 F H σ ρ _ st (post.bind fun d ρ1 v F1 H1 post1 st1 s1 r1 => ?_)⟩
  cases r1 <;> (try (exact post1.elim))
  rename_i c
  refine ⟨c, rfl, ?_⟩
  cases c with
  | true => rw [if_pos rfl]; exact q2 B F0 F1 H1 σ ρ1 Q st1 post1
  | false => rw [if_neg Bool.false_ne_true]; exact post1 (.bl false) F1 H1 st1 (Same.refl _) (.bl false)
theorem ej_orV {a b : Expr} {rest : List Expr} {pos : Pos} {f g : En → Res D} (ha : EJ X Wx S a f) (hb : EJ X Wx S (.BoolOp .Or (b :: rest) pos) g) : EJ X Wx S (.BoolOp .Or (a :: b :: rest) pos) (fOrV f g) := by
  obtain ⟨t, p, q⟩ := ha.ex
  obtain ⟨t2, p2, q2⟩ := hb.ex
  refine ⟨_, pe_or p p2, fun B F0 F H σ ρ Q st post => q B F0 F H σ ρ _ st (post.bind fun d ρ1 v F1 H1 post1 st1 s1 r1 => ?_)⟩
  cases r1 <;> (try (exact post1.elim))
  rename_i c
  refine ⟨c, rfl, ?_⟩
  cases c with
  | true => rw [if_pos rfl]; exact post1 (.bl true) F1 H1 st1 (Same.refl _) (.bl true)
  | false => rw [if_neg Bool.false_ne_true]; exact q2 B F0 F1 H1 σ ρ1 Q st1 post1
/-- not e, as a value -/
def fNotV (f : En → Res D) : En → Res D := fun ρ => (f ρ).bind fun d ρ1 => match d with
  | .bl c => .ok (.bl (!c)) ρ1
  | _ => .bad
theorem ej_notV {a : Expr} {pos : Pos} {f : En → Res D} (ha : EJ X Wx S a f) : EJ X Wx S (.UnaryOp .Not a pos) (fNotV f) := by
  obtain ⟨t, p, q⟩ := ha.ex
  refine ⟨_, pe_not p, fun B F0 F H σ ρ Q st post => q B F0 F H σ ρ _ st (post.bind fun d ρ1 v F1 H1 post1 st1 s1 r1 => ?_)⟩
  cases r1 <;> (try (exact post1.elim))
  rename_i c
  exact ⟨c, rfl, post1 (.bl (!c)) F1 H1 st1 (Same.refl _) (.bl _)⟩

/-! ### [..] * n -/
def oRep (fa : En → Res (List D)) (fb : En → Res D) : En → Res (List D) := fun ρ => (fa ρ).bind fun xs ρ1 => (fb ρ1).bind fun d ρ2 => match d with
  | .int k => if (decide (k.natAbs < 2 ^ 62) && decide (xs.length * k.toNat ≤ lim)) = true then .ok (List.replicate k.toNat xs).flatten ρ2 else .bad
  | _ => .bad
theorem RepL.rep {K : PySem.W.Frag} {F : Hp} {vs : List V} {ds : List D} (r : RepL K F vs ds) : ∀ n : Nat, RepL K F (List.replicate n vs).flatten (List.replicate n ds).flatten
  | 0 => by simpa using RepL.nil
  | n + 1 => by
    rw [List.replicate_succ, List.replicate_succ, List.flatten_cons, List.flatten_cons]
    exact r.append (RepL.rep r n)
theorem oj_rep {a b : Expr} {pos : Pos} {fa : En → Res (List D)} {fb : En → Res D} (ha : OJ X Wx S a fa) (hb : EJ X Wx S b fb) : OJ X Wx S (.BinOp a .Mult b pos) (oRep fa fb) := by
  obtain ⟨t, p, q⟩ := ha.ex
  obtain ⟨t2, p2, q2⟩ := hb.ex
  refine ⟨_, pe_op op_rep p p2, fun B F0 F H σ ρ Q st post => q B F0 F H σ ρ _ st ?_⟩
  unfold oRep at post
  cases ef : fa ρ with
  | bad => rw [ef] at post; exact post
  | exc x ρ1 => rw [ef] at post; exact fun cls dd F' H' st' s rx => post cls dd F' H' st' s rx
  | ok xs ρ1 =>
    rw [ef, Res.bind_ok] at post
    intro l vs F1 H1 st1 s1 h1 h2 h3 h4 h5 r1
    have st1' := st1.freeze h1 h2 h3 h4 h5
    refine q2 B F0 _ H1 σ ρ1 _ st1' (PostO.bind (PostO.mono post (s1.trans (same_upd h2))) fun d ρ2 u F2 H2 post2 st2 s2 r2 => ?_)
    cases r2 <;> (try (exact post2.elim))
    rename_i k
    replace post2 : PostO (fx X S B F0) Wx σ F2 (if (decide (k.natAbs < 2 ^ 62) && decide (xs.length * k.toNat ≤ lim)) = true then .ok (List.replicate k.toNat xs).flatten ρ2 else .bad) Q := post2
    split at post2
    · rename_i hk
      rw [Bool.and_eq_true] at hk
      have hk1 := of_decide_eq_true hk.1
      have hk2 := of_decide_eq_true hk.2
      have hl : H2 l = some (.lst vs) := st2.fz.fH _ _ (s2 _ _ upd_same)
      refine ⟨l, k, vs, rfl, rfl, hl, by omega, by omega, lim_le (by rw [r1.length]; exact hk2), fun q hq => ?_⟩
      exact fresh_lst post2 st2 ((r1.mono ((same_upd h2).trans s2)).rep k.toNat) hq
    · exact post2.elim

/-! ### range(a, b, -1) -/
def dDown (lo : Int) (n : Nat) : List D := (List.range n).map fun i => D.int (lo - (i : Nat))
def iRange3 (f : En → Res (List D)) : En → Res (List D) := fun ρ => (f ρ).bind fun ds ρ1 => match ds with
  | [.int i, .int j, .int (-1)] => if (okR i && okR j) = true then .ok (dDown i (i - j).toNat) ρ1 else .bad
  | _ => .bad
theorem ij_range3 {tg a b c : Expr} {f : En → Res (List D)} {p pos : Pos} (hm : X.mg "range" = none) (ha : AJ X Wx S [a, b, c] f) (hg : Gl X "range" := by rfl)
    (hs : starEach [a, b, c] X.env = (false, eval a X.env) :: starEach [b, c] X.env := by rfl) (hpl : (backTo pos (starEach [b, c] X.env)).any (·.1) = false := by rfl) :
    IJ X Wx S tg (.Call (.Name "range" p) [a, b, c] [] pos) (iRange3 f) := by
  obtain ⟨t, pa, qa⟩ := ha.ex
  refine ⟨_, pi_range3 hg hm pa hs hpl, fun B F0 F H σ ρ R st post => qa B F0 F H σ ρ _ st ?_⟩
  unfold iRange3 at post
  cases ef : f ρ with
  | bad => rw [ef] at post; exact post
  | exc x ρ1 => rw [ef] at post; exact post
  | ok ds ρ1 =>
    rw [ef, Res.bind_ok] at post
    intro vs F1 H1 st1 s1 r1
    split at post
    · rename_i ds' ρ' e
      split at e
      · rename_i i j
        split at e
        · rename_i hj
          cases e
          rw [Bool.and_eq_true] at hj
          obtain rfl := repL_int3 r1
          obtain ⟨h1, h2⟩ := okR_ok hj.1
          obtain ⟨h3, h4⟩ := okR_ok hj.2
          have hlen : (dDown i (i - j).toNat).length = (i - j).toNat := by unfold dDown; rw [List.length_map, List.length_range]
          refine ⟨i, j, -1, (i - j).toNat, rfl, RgC.neg h1 h2 h3 h4, ?_⟩
          refine post (Itc i (-1) (i - j).toNat) (fun _ => True) (YFn fun k => .int (i + (k : Nat) * (-1))) F1 H1 st1 s1 ?_ (fun _ _ _ => trivial) (fun k Fi Hi x Hi' hi sF sH y => ?_)
          · rw [hlen]
            exact walk_rangeC
          · obtain ⟨rfl, rfl⟩ := y
            rw [hlen] at hi
            refine ⟨Fi, D.int (i + (k : Nat) * (-1)), Ext.refl sH, ?_, .int _⟩
            unfold dDown
            rw [List.getElem?_map, List.getElem?_range hi]
            show some (D.int (i - (k : Nat))) = _
            congr 2
            omega
        · cases e
      · cases e
    · rename_i e
      split at e
      · split at e <;> cases e
      · cases e
    · exact post.elim
end
/-- a tuple of texts and ints of the module -/
inductive LitV : Value → D → Prop
  | str (x : Str) (t : Tok) : LitV (.str x t) (.str x)
  | int (i : Int) (t : Tok) : LitV (.int i t) (.int i)
inductive LitVs : List Value → List D → Prop
  | nil : LitVs [] []
  | cons {v : Value} {d : D} {vs : List Value} {ds : List D} : LitV v d → LitVs vs ds → LitVs (v :: vs) (d :: ds)
theorem LitVs.rep {K : PySem.W.Frag} {us : List Value} {ds : List D} (h : LitVs us ds) : ∃ vs, Vals vs us ∧ ∀ F, RepL K F vs ds := by
  induction h with
  | nil => exact ⟨[], .nil, fun _ => .nil⟩
  | cons a _ ih =>
    obtain ⟨vs, h1, h2⟩ := ih
    cases a with
    | str x t => exact ⟨.str x :: vs, .cons ⟨t, rfl⟩ h1, fun F => .cons (.str x) (h2 F)⟩
    | int x t => exact ⟨.int x :: vs, .cons ⟨t, rfl⟩ h1, fun F => .cons (.int x) (h2 F)⟩
structure GT (K : PySem.W.Frag) (mg : Str → Option Value) (x : Str) (ds : List D) : Prop where
  ex : ∃ (a : Addr) (od : Option Addr) (us : List Value) (n : Nat) (sl : Array (Option Value)), mg x = some (.ref a) ∧ K.lookup a = some ⟨.type "tuple", od, .seq us.toArray n, sl⟩ ∧ LitVs us ds
theorem GT.gl {X : Cx} {x : Str} {ds : List D} (g : GT X.K X.mg x ds) (hl : ds.length ≤ 1000 := by decide) : GlJ X x (.tup ds) := by
  obtain ⟨a, od, us, n, sl, h1, h2, h3⟩ := g.ex
  obtain ⟨vs, h4, h5⟩ := LitVs.rep (K := X.K) h3
  refine ⟨_, .ref a, h1, rfl, fun F => .tup (.inr ⟨_, us.toArray, n, h2, rfl, rfl, ?_, by simpa using h4⟩) (h5 F)⟩
  have e1 := h4.length
  have e2 := (h5 F).length
  rw [List.size_toArray, ← e1, e2]
  exact Nat.le_trans hl (by decide)
end PD
set_option Elab.async false
set_option linter.all false
set_option maxRecDepth 100000
set_option maxHeartbeats 4000000
/-! PMF: lists of fresh lists; a name for what may be changed; it is frozen when it is read as a value. -/
namespace PD
open PySem PySem.Spec L2
section
variable {K : PySem.W.Frag} {F H F' H' : Hp}
/-- something fresh, quietly made -/
structure QM (K : PySem.W.Frag) (F H F' H' : Hp) (v : V) (m : M) (ps : List Addr) : Prop where
  ex : Ext F H F' H'
  r : RepM K F' H' v m ps
  nd : ps.Nodup
  nw : ∀ p ∈ ps, H p = none ∧ F' p = none
structure QML (K : PySem.W.Frag) (F H F' H' : Hp) (v : List V) (m : List M) (ps : List Addr) : Prop where
  ex : Ext F H F' H'
  r : RepML K F' H' v m ps
  nd : ps.Nodup
  nw : ∀ p ∈ ps, H p = none ∧ F' p = none
end
section
variable (X : Cx) (Wx : WX) (S : Sx)
structure QMJ (e : Expr) (f : En → Res M) : Prop where
  ex : ∃ t, PE X e t ∧ ∀ B F0 F H σ ρ Q, St2 (fx X S B F0) F H σ ρ → (match f ρ with
    | .ok m _ => ∀ v ps F' H', QM X.K F H F' H' v m ps → Q v H'
    | .exc x _ => ∀ cls dd F' H', Ext F H F' H' → RepX X.K F' cls dd x → Wx cls dd σ H'
    | .bad => False) → t σ H Q
structure QMLJ (es : List Expr) (f : En → Res (List M)) : Prop where
  ex : ∃ t, PA X es t ∧ ∀ B F0 F H σ ρ Q, St2 (fx X S B F0) F H σ ρ → (match f ρ with
    | .ok m _ => ∀ v ps F' H', QML X.K F H F' H' v m ps → Q v H'
    | .exc x _ => ∀ cls dd F' H', Ext F H F' H' → RepX X.K F' cls dd x → Wx cls dd σ H'
    | .bad => False) → t σ H Q
end
section
variable {X : Cx} {Wx : WX} {S : Sx}
def qLst (f : En → Res (List D)) : En → Res M := fun ρ => match f (calm ρ) with
  | .ok ds _ => .ok (.lst (ds.map .fz)) ρ
  | .exc x _ => .exc x ρ
  | .bad => .bad
theorem qm_oj {e : Expr} {f : En → Res (List D)} (h : OJ X Wx S e f) : QMJ X Wx S e (qLst f) := by
  obtain ⟨t, p, q⟩ := h.ex
  refine ⟨t, p, fun B F0 F H σ ρ Q st post => q H F F H σ (calm ρ) Q st.calm ?_⟩
  unfold qLst at post
  cases e : f (calm ρ) with
  | bad => rw [e] at post; exact post.elim
  | exc x ρ' =>
    rw [e] at post
    exact fun cls dd F' H' st' _ r => post cls dd F' H' st'.grown r
  | ok ds ρ' =>
    rw [e] at post
    intro a vs F' H' st' _ h1 h2 h3 h4 h5 r
    exact post (.ref a) [a] F' H' ⟨st'.grown, .lst h1 (RepML.fzs r), nodup1 a, fun p hp => by
      rw [List.mem_singleton] at hp
      subst hp
      exact ⟨h3, h2⟩⟩
def qFz (f : En → Res D) : En → Res M := fun ρ => match f (calm ρ) with
  | .ok d _ => .ok (.fz d) ρ
  | .exc x _ => .exc x ρ
  | .bad => .bad
theorem qm_ej {e : Expr} {f : En → Res D} (h : EJ X Wx S e f) : QMJ X Wx S e (qFz f) := by
  obtain ⟨t, p, q⟩ := h.ex
  refine ⟨t, p, fun B F0 F H σ ρ Q st post => quiet q st ?_⟩
  unfold qFz at post
  cases e : f (calm ρ) with
  | bad => rw [e] at post; exact post.elim
  | exc x ρ' => rw [e] at post; exact post
  | ok d ρ' =>
    rw [e] at post
    exact fun v F' H' ex r => post v [] F' H' ⟨ex, .fz r, List.nodup_nil, fun p hp => by cases hp⟩
def qCons (f : En → Res M) (g : En → Res (List M)) : En → Res (List M) := fun ρ => match f ρ with
  | .ok m _ => match g ρ with
    | .ok ms _ => .ok (m :: ms) ρ
    | .exc x _ => .exc x ρ
    | .bad => .bad
  | .exc x _ => .exc x ρ
  | .bad => .bad
theorem qml_nil : QMLJ X Wx S [] (fun ρ => .ok [] ρ) := ⟨_, pa_nil, fun B F0 F H σ ρ Q st post => post [] [] F H ⟨Ext.refl st.fz.fH, .nil, List.nodup_nil, fun p hp => by cases hp⟩⟩
theorem qml_cons {e : Expr} {es : List Expr} {f : En → Res M} {g : En → Res (List M)} (he : QMJ X Wx S e f) (hr : QMLJ X Wx S es g) (hs : starEach (e :: es) X.env = (false, eval e X.env) :: starEach es X.env := by rfl) : QMLJ X Wx S (e :: es) (qCons f g) := by
  obtain ⟨te, pe, qe⟩ := he.ex
  obtain ⟨t, p, q⟩ := hr.ex
  refine ⟨_, pa_cons pe p hs, fun B F0 F H σ ρ Q st post => ?_⟩
  show te σ H fun x H1 => t σ H1 fun xs H2 => Q (x :: xs) H2
  refine qe B F0 F H σ ρ _ st ?_
  unfold qCons at post
  cases e1 : f ρ with
  | bad => rw [e1] at post; exact post.elim
  | exc x ρ' => rw [e1] at post; exact post
  | ok m ρ' =>
    simp only [e1] at post
    intro v ps F1 H1 z1
    refine q B F0 F1 H1 σ ρ _ (st.ext z1.ex) ?_
    cases e2 : g ρ with
    | bad => simp only [e2] at post
    | exc x ρ' =>
      simp only [e2] at post
      exact fun cls dd F' H' ex r => post cls dd F' H' (z1.ex.trans ex) r
    | ok ms ρ' =>
      simp only [e2] at post
      intro vs qs F2 H2 z2
      have th := RepM.there z1.r
      refine post (v :: vs) (ps ++ qs) F2 H2 ⟨z1.ex.trans z2.ex, .cons (z1.r.move z2.ex.ff fun p hp => ?_) z2.r, List.nodup_append.mpr ⟨z1.nd, z2.nd, fun a ha b hb hab => ?_⟩, fun p hp => ?_⟩
      · obtain ⟨o, ho⟩ := th p hp
        rw [ho, z2.ex.hh _ _ ho]
      · obtain ⟨o, ho⟩ := th a ha
        rw [hab, (z2.nw b hb).1] at ho
        cases ho
      · rcases List.mem_append.mp hp with hp | hp
        · obtain ⟨o, ho⟩ := th p hp
          exact ⟨(z1.nw p hp).1, (z2.ex.new _ _ ho).trans (z1.nw p hp).2⟩
        · refine ⟨?_, (z2.nw p hp).2⟩
          cases hn : H p with
          | none => rfl
          | some o =>
            have := z1.ex.hh _ _ hn
            rw [(z2.nw p hp).1] at this
            cases this
def qList (g : En → Res (List M)) : En → Res M := fun ρ => match g ρ with
  | .ok ms _ => if ms.length ≤ lim then .ok (.lst ms) ρ else .bad
  | .exc x _ => .exc x ρ
  | .bad => .bad
theorem mj_list {es : List Expr} {pos : Pos} {g : En → Res (List M)} (h : QMLJ X Wx S es g) : MJ X Wx S (.List es pos) (qList g) := by
  obtain ⟨t, p, q⟩ := h.ex
  refine ⟨_, pe_lst p, fun B F0 F H σ ρ Q st post => q B F0 F H σ ρ _ st ?_⟩
  unfold qList at post
  cases e : g ρ with
  | bad => rw [e] at post; exact post.elim
  | exc x ρ' =>
    rw [e] at post
    exact fun cls dd F' H' ex r => post cls dd F' H' (st.ext ex) ex.ff r
  | ok ms ρ' =>
    simp only [e] at post
    split at post
    · rename_i hl
      intro vs ps F1 H1 z
      refine ⟨lim_le (by rw [z.r.length]; exact hl), fun a ha => ?_⟩
      have st1 := st.ext z.ex
      have th := RepML.there z.r
      have na : a ∉ ps := fun hp => by
        obtain ⟨o, ho⟩ := th a hp
        rw [ha] at ho
        cases ho
      have st2 := st1.laid (o := .lst vs) ha
      refine post (.ref a) (a :: ps) F1 _ st2 z.ex.ff (.lst upd_same (z.r.move (Same.refl _) fun p hp => upd_ne fun w => na (by rw [← w]; exact hp))) (List.nodup_cons.mpr ⟨na, z.nd⟩) fun p hp => ?_
      have ex2 : Ext F1 H1 F1 (upd H1 a (.lst vs)) := ⟨Same.refl _, st1.fz.fH.trans (same_upd ha), same_upd ha, fun _ _ _ => rfl⟩
      rcases List.mem_cons.mp hp with rfl | hp
      · have fr := st1.newFree ha
        exact ⟨fr.nf, fr.nb, fr.no, fr.ap.ext st1 ex2⟩
      · have fr := st.newFree (z.nw p hp).1
        exact ⟨(z.nw p hp).2, fr.nb, fr.no, (fr.ap.ext st z.ex).ext st1 ex2⟩
    · exact post.elim

/-! ### a name for it -/
def noMt (ρ : En) (i : Nat) : Bool := (List.range ρ.length).all fun j => decide (j = i) || (match ρ[j]? with
  | some (.mt _) => false
  | _ => true)
theorem noMt_no {ρ : En} {i j : Nat} {m : M} (h : noMt ρ i = true) (hj : ρ[j]? = some (.mt m)) : j = i := by
  unfold noMt at h
  rw [List.all_eq_true] at h
  have := h j (List.mem_range.mpr (get_lt hj))
  rw [hj] at this
  simpa using this
theorem St2.storeM {Z : Fx} {F H : Hp} {σ : St} {ρ : En} {i : Nat} {v : V} {m : M} {ps : List Addr} (s : St2 Z F H σ ρ) (hi : i < ρ.length) (h0 : i ≠ 0) (hn : noMt ρ i = true) (r : RepM Z.K F H v m ps) (nd : ps.Nodup) (fr : ∀ p ∈ ps, Free Z F H σ ρ p) : St2 Z F H (σ.set i (some v)) (ρ.set i (.mt m)) := by
  have hs : i < σ.length := by rw [s.len]; exact hi
  have u := s.storeUn (v := v) i
  have g3 : (ρ.set i (.mt m))[i]? = some (.mt m) := List.getElem?_set_self hi
  have g4 : (σ.set i (some v))[i]? = some (some v) := List.getElem?_set_self hs
  have g : ∀ (j : Nat) (x : Sl), (ρ.set i (.mt m))[j]? = some x → (∀ y, x ≠ .mt y) → (ρ.set i .un)[j]? = some x := fun j x h hx => by
    obtain ⟨h1, h2⟩ := set_inv h fun z => hx m z.symm
    rw [List.getElem?_set_ne h1]
    exact h2
  have gm : ∀ (j : Nat) (n : M), (ρ.set i (.mt m))[j]? = some (.mt n) → j = i ∧ n = m := fun j n h => by
    by_cases hij : i = j
    · subst hij
      rw [g3] at h
      cases h
      exact ⟨rfl, rfl⟩
    · rw [List.getElem?_set_ne hij] at h
      exact absurd (noMt_no hn h).symm hij
  refine ⟨u.fz, by rw [List.length_set, List.length_set]; exact s.len, fun j d h => u.atD j d (g j _ h fun y z => by cases z), fun j d h => u.atO j d (g j _ h fun y z => by cases z), fun j d h => u.atX j d (g j _ h fun y z => by cases z),
    fun a b p xs ys hab h1 h2 => u.dis a b p xs ys hab (g a _ h1 fun y z => by cases z) (g b _ h2 fun y z => by cases z), fun j n h => ?_, fun a b n1 n2 h1 h2 => by rw [(gm a n1 h1).1, (gm b n2 h2).1], fun j d h => u.atL j d (g j _ h fun y z => by cases z), fun w n e h => absurd (gm 0 n h).1.symm h0⟩
  obtain ⟨rfl, rfl⟩ := gm j n h
  refine ⟨v, ps, g4, r, nd, fun p hp => ⟨(fr p hp).nf, (fr p hp).nb⟩, fun k xs q h1 h2 hq => ?_⟩
  have h1' := g k _ h1 fun y z => by cases z
  obtain ⟨e1, e2⟩ := set_inv h1' fun z => by cases z
  rw [List.getElem?_set_ne e1] at h2
  exact (fr q hq).no k xs e2 h2
def sAsgM (f : En → Res M) (i : Nat) : En → Fl := fun ρ => (f ρ).fl fun m ρ1 => if (decide (i < ρ1.length) && noMt ρ1 i) = true then .nx (ρ1.set i (.mt m)) else .bad
theorem sj_setM (i : Nat) {x : Str} {e : Expr} {f : En → Res M} {pos pos' : Pos} (hN : X.N.Nodup) (he : MJ X Wx S e f) (h0 : i ≠ 0 := by decide) (hi : X.N[i]? = some x := by rfl) (hx : Loc X.env.scope x := by first | exact Or.inl rfl | exact Or.inr rfl)
    (hs : swapsWith e (some (.Name x pos')) pos.line X.env = pure false := by rfl) (hf : X.fn x = true ∨ X.env.scope.names.lookup x = some .local := by first | exact .inl rfl | exact .inr rfl) : SJ X Wx S (.Assign [.Name x pos'] e pos) (sAsgM f i) := by
  obtain ⟨t, p, q⟩ := he.ex
  refine ⟨_, ps_set hN hi hx p hs hf, fun B F0 F H σ ρ E st post => q B F0 F H σ ρ _ st (fl_postM post fun m1 ρ1 y ps1 F1 H1 post1 st1 s1 r1 nd1 fr1 => ?_)⟩
  split at post1
  · rename_i hc
    rw [Bool.and_eq_true] at hc
    exact post1 _ F1 H1 (st1.storeM (of_decide_eq_true hc.1) h0 hc.2 r1 nd1 fr1) (Same.refl _)
  · exact post1.elim

/-! ### it is read as a value -/
theorem St2.frzM {Z : Fx} {F H : Hp} {σ : St} {ρ : En} {i : Nat} {m : M} (s : St2 Z F H σ ρ) (hi : ρ[i]? = some (.mt m)) : ∃ v F', σ[i]? = some (some v) ∧ Same F F' ∧ Rep Z.K F' v m.toD ∧ St2 Z F' H σ (ρ.set i (.d m.toD)) := by
  obtain ⟨v, ps, h1, h2, h3, h4, h5⟩ := s.atM i m hi
  have u := s.toUn i
  have fr : ∀ p ∈ ps, Free Z F H σ (ρ.set i .un) p := fun p hp => ⟨(h4 p hp).1, (h4 p hp).2, fun j xs e e2 => h5 j xs p (set_inv e fun z => by cases z).2 e2 hp, fun j n w qs e _ _ => by
    obtain ⟨a, b⟩ := set_inv e fun z => by cases z
    exact absurd (s.oneM i j m n hi b) a⟩
  obtain ⟨sf, st, rv⟩ := u.freezeM h2 fr
  have st2 := st.toD (i := i) h1 rv
  rw [set_set] at st2
  exact ⟨v, _, h1, sf, rv, st2⟩
def fVarM (i : Nat) : En → Res D := fun ρ => match ρ[i]? with
  | some (.mt m) => .ok m.toD (ρ.set i (.d m.toD))
  | _ => fVar i ρ
theorem ej_varM (i : Nat) {x : Str} {pos : Pos} (hN : X.N[i]? = some x := by rfl) (hv : Vis X.env.scope x := by first | exact Or.inl rfl | exact Or.inr (Or.inl rfl) | exact Or.inr (Or.inr rfl)) (hd : (x == ("__debug__" : Str)) = false := by decide)
    (hcd : (x == ("__classdict__" : Str)) = false := by decide) : EJ X Wx S (.Name x pos) (fVarM i) := by
  refine ⟨_, pe_var hN hv hd hcd, fun B F0 F H σ ρ Q st post => ?_⟩
  unfold fVarM at post
  split at post
  · rename_i m e
    obtain ⟨v, F', h1, h2, h3, h4⟩ := st.frzM e
    exact ⟨v, h1, post v F' H h4 h2 h3⟩
  · unfold fVar at post
    split at post
    · rename_i d e
      obtain ⟨v, h1, h2⟩ := st.atD i d e
      exact ⟨v, h1, post v F H st (Same.refl _) h2⟩
    · rename_i xs e
      obtain ⟨p, F', h1, h2, h3, h4⟩ := st.frzSlot e
      exact ⟨.ref p, h1, post _ F' H h4 h2 h3⟩
    · exact post.elim
end
end PD
set_option Elab.async false
set_option linter.all false
set_option maxRecDepth 100000
set_option maxHeartbeats 4000000
/-! PMG: x[::-1] of lists. -/
namespace PD
open PySem PySem.Spec L2
section
variable {X : Cx} {Wx : WX} {S : Sx}
def fRevL (f : En → Res D) : En → Res D := fun ρ => (f ρ).bind fun d ρ1 => match d with
  | .lst xs => .ok (.lst xs.reverse) ρ1
  | _ => .bad
theorem ej_revL {e : Expr} {k : Nat} {p1 p2 p3 pos : Pos} {f : En → Res D} (he : EJ X Wx S e f) : EJ X Wx S (.Subscript e (.Slice none none (some (.UnaryOp .USub (.Constant (.int 1) k p1) p2)) p3) pos) (fRevL f) := by
  obtain ⟨t, p, q⟩ := he.ex
  refine ⟨_, pe_revL p, fun B F0 F H σ ρ Q st post => q B F0 F H σ ρ _ st (post.bind fun d ρ1 v F1 H1 post1 st1 s1 r1 => ?_)⟩
  cases r1 <;> (try (exact post1.elim))
  rename_i a vs ds h1 h2
  refine ⟨a, vs, rfl, Same.seqL st1.fz.fH h1, fun r hr => ?_⟩
  have ex := Ext.laid (o := .lst vs.reverse) st1.fz.fH hr
  exact post1 _ _ _ (st1.ext ex) ex.ff (.lst (.inl (.inl upd_same)) (h2.reverse.mono ex.ff))
/-! ### x.insert(i, e) -/
def sIns (i : Nat) (fa : En → Res (List D)) : En → Fl := fun ρ => match ownAt ρ i with
  | none => .bad
  | some _ => (fa ρ).fl fun ds ρ1 => match ds, ownAt ρ1 i with
    | [.int z, d], some xs => if (decide (xs.length < lim) && decide (0 ≤ z) && decide (z.natAbs ≤ xs.length)) = true then .nx (ρ1.set i (.own (xs.take z.toNat ++ [d] ++ xs.drop z.toNat))) else .bad
    | _, _ => .bad
theorem sj_ins (i : Nat) {x : Str} {e1 e2 : Expr} {fa : En → Res (List D)} {p apos cpos pos : Pos} (he : AJ X Wx S [e1, e2] fa) (hN : X.N[i]? = some x := by rfl) (hv : Vis X.env.scope x := by first | exact Or.inl rfl | exact Or.inr (Or.inl rfl) | exact Or.inr (Or.inr rfl)) (hd : (x == ("__debug__" : Str)) = false := by decide)
    (hcd : (x == ("__classdict__" : Str)) = false := by decide) (hbase : attributeBase (.Name x p) "insert" X.env (eval (.Name x p) X.env) = eval (.Name x p) X.env := by rfl)
    (hfew : ((backTo cpos (starEach [e1, e2] X.env)).all (fun x => !x.1) && (backToKw cpos (keywordEach [] X.env)).all (fun x => x.1.isSome)
      && decide (([e1, e2] : List Expr).length + ([] : List Keyword).length + (if ([] : List Keyword).isEmpty then 0 else 1) < 30)) = true := by rfl)
    (hline : (apos.endLine == cpos.line) = true := by rfl) (hs : starEach [e1, e2] X.env = (false, eval e1 X.env) :: starEach [e2] X.env := by rfl) (hplain : (backTo cpos (starEach [e2] X.env)).any (·.1) = false := by rfl)
    (hsw : swapsWith (.Call (.Attribute (.Name x p) "insert" apos) [e1, e2] [] cpos) none pos.line X.env = pure false := by rfl) :
    SJ X Wx S (.Expr (.Call (.Attribute (.Name x p) "insert" apos) [e1, e2] [] cpos) pos) (sIns i fa) := by
  obtain ⟨t, pa, qa⟩ := he.ex
  refine ⟨_, ps_expr (pe_bm PySem.F.plainAttrs_list PySem.F.slot_list_insert PySem.F.type_list_insert mt_insert (pe_var hN hv hd hcd) pa hbase hfew hline hs hplain) hsw, fun B F0 F H σ ρ E st post => ?_⟩
  unfold sIns at post
  cases e0 : ownAt ρ i with
  | none => rw [e0] at post; exact post.elim
  | some xs0 =>
    simp only [e0] at post
    obtain ⟨p0, vs0, h1, h2, _⟩ := st.atO i xs0 (ownAt_some e0)
    refine ⟨.ref p0, h1, .inl ⟨rfl, vs0, .inl (.inl h2)⟩, qa B F0 F H σ ρ _ st (fl_post post fun ds ρ1 v F1 H1 post1 st1 s1 r1 => ?_)⟩
    split at post1
    · rename_i z d xs e1
      split at post1
      · rename_i hc
        rw [Bool.and_eq_true, Bool.and_eq_true] at hc
        obtain ⟨⟨hl, hz⟩, hz2⟩ := hc
        have hl := of_decide_eq_true hl
        have hz := of_decide_eq_true hz
        have hz2 := of_decide_eq_true hz2
        obtain ⟨p1, vs, h3, h4, h5, h6, h7⟩ := st1.atO i xs (ownAt_some e1)
        rw [h1] at h3
        cases h3
        cases r1 with
        | cons ra rb =>
          cases ra
          cases rb with
          | cons rb rc =>
            cases rc
            have hb : z < 2 ^ 63 := by
              have : z.natAbs < 1000000 := Nat.lt_of_le_of_lt hz2 hl
              omega
            refine ⟨p0, vs, z, _, rfl, rfl, h4, lim_lt (by rw [h7.length]; exact hl), hz, hb, ?_⟩
            exact post1 σ F1 _ (st1.change (ownAt_some e1) h1 (((h7.take z.toNat).append (.cons rb .nil)).append (h7.drop z.toNat))) (Same.refl _)
      · exact post1.elim
    · exact post1.elim
end
end PD
set_option Elab.async false
set_option linter.all false
set_option maxRecDepth 100000
set_option maxHeartbeats 4000000
/-! PMH: __init__ with defaults; classes by their tables. -/
namespace PD
open PySem PySem.Spec L2
theorem hu1_of {A : Around} (h : A.units + 64 < cLine) : A.units + 1 < cLine := Nat.lt_of_le_of_lt (by omega) h
/-- a statement of a class -/
def inCls (s : Stmt) (j : Nat) : Stmt := match s with
  | .ClassDef _ _ _ body _ _ _ _ _ _ _ => body.getD j (.Pass ⟨0, 0, 0, 0⟩)
  | s => s
theorem inS_len {np n : Nat} {body : En → Fl} : ∀ as, inS np n body as ≠ .bad → as.length = np := fun as h => by
  unfold inS at h
  split at h
  · assumption
  · exact absurd rfl h
theorem inS_ofD {P : Program} {w : World} {K : PySem.W.Frag} {mg : Str → Option Value} {base : Heap} {x qual : Str} {params : Arguments} {bd : List Stmt} {sc : Scope} {dvs : List V} {kws : List (Str × V)} {f : Addr} {fd : FuncData} {N ps : List Str} {k : Nat} {body : En → Fl} (Fn : FunD K x qual params bd sc dvs kws f fd) (Sc : FnScope N ps sc)
    (hb : ∀ (me : V) (L : Hp) (cdv : Value) (A : Around) (outer : List Env) (s : Shared) (H : Hp) (E : XK), Room k (A.deeper (PyProof.Rows.envOfC qual sc s.heap.objs.size f cdv)) →
      BJ (cxOf (L2.CX P w) P w K mg base N qual sc f cdv A outer s H E) (wE E) (SL (some me) L) bd body) : InS P w K mg base (k + 1) f fd ps (inS ps.length N.length body) := by
  refine ⟨Fn.ok Sc (fun vs H Q E h => h.1) fun cdv A outer s H vs Q E hr h => ?_⟩
  obtain ⟨hl, L, B, F, as, me, s2, post⟩ := h
  obtain ⟨t, p, q⟩ := (hb me L cdv A outer s H E hr).ex
  have s3 := st2_pad (N.length - ps.length) s2
  refine ⟨t, p, ?_⟩
  rw [start_pad hl]
  refine q B F F H _ _ _ s3 ?_
  have hdl : as.length = ps.length := by rw [← s2.len, List.length_map]; exact hl
  unfold inS at post
  rw [if_pos hdl] at post
  cases e : body (as ++ List.replicate (N.length - ps.length) .un) with
  | nx ρ =>
    rw [e] at post
    unfold Fl.finI at post
    intro σ' F' H' st' _
    cases e0 : ρ[0]? with
    | none => simp only [e0] at post
    | some sl =>
      cases sl with
      | mt m =>
        simp only [e0] at post
        obtain ⟨v, qs, h1, h2, h3, h4, _⟩ := st'.atM 0 m e0
        have hp := st'.pin me m rfl e0
        rw [h1] at hp
        cases hp
        exact post qs F' H' ⟨st'.fz.f01, st'.fz.fH, st'.fz.bH, st'.fz.new, st'.fz.lB⟩ h2 h3 h4
      | un => simp only [e0] at post
      | d _ => simp only [e0] at post
      | own _ => simp only [e0] at post
      | ex _ => simp only [e0] at post
      | ln _ => simp only [e0] at post
  | rt d =>
    rw [e] at post
    exact post.elim
  | exc x ρ =>
    rw [e] at post
    exact fun cls dd σ' F' H' st' _ rx => post cls dd F' H' ⟨st'.fz.f01, st'.fz.fH, st'.fz.bH, st'.fz.new, st'.fz.lB⟩ rx
  | bk ρ =>
    rw [e] at post
    exact post.elim
  | ct ρ =>
    rw [e] at post
    exact post.elim
  | bad =>
    rw [e] at post
    exact post.elim
theorem bnd_all0 {K : PySem.W.Frag} {fd : FuncData} {ps : List Str} (h : ∃ ds, Vals ([] : List V) ds ∧ Binds K fd ps ds) : ∃ us, DfJ K us [] ∧ Binds K fd ps us := by
  obtain ⟨ds, h1, h2⟩ := h
  cases h1
  exact ⟨[], dfj_nil, h2⟩
/-- list(x), x a list: x stays as it is -/
def oListN (i : Nat) : En → Res (List D) := fun ρ => match lentOf ρ[i]? with
  | some xs => .ok xs ρ
  | none => .bad
theorem oj_listN {X : Cx} {Wx : WX} {S : Sx} (i : Nat) {x : Str} {p q pos : Pos} (hm : X.mg "list" = none) (hg : Gl X "list" := by rfl) (hN : X.N[i]? = some x := by rfl) (hv : Vis X.env.scope x := by first | exact Or.inl rfl | exact Or.inr (Or.inl rfl) | exact Or.inr (Or.inr rfl)) (hd : (x == ("__debug__" : Str)) = false := by decide)
    (hcd : (x == ("__classdict__" : Str)) = false := by decide) (he : starEach [.Name x q] X.env = (false, eval (.Name x q) X.env) :: starEach [] X.env := by rfl) (hpl : (backTo pos (starEach [] X.env)).any (·.1) = false := by rfl) : OJ X Wx S (.Call (.Name "list" p) [.Name x q] [] pos) (oListN i) := by
  refine ⟨_, pe_callTy call_list_of hg hm (by decide +kernel) (pa_cons (pe_var hN hv hd hcd) pa_nil he) (by decide) (by decide) he hpl, fun B F0 F H σ ρ Q st post => ?_⟩
  unfold oListN at post
  cases el : lentOf ρ[i]? with
  | none => simp only [el] at post; exact post.elim
  | some xs =>
    simp only [el] at post
    obtain ⟨a, vs, h1, h2, h3⟩ := st.lent el
    exact ⟨_, h1, a, vs, rfl, .inl h2, fun l hl => fresh_lst post st h3 hl⟩
end PD
set_option Elab.async false
set_option linter.all false
set_option maxRecDepth 100000
set_option maxHeartbeats 4000000
/-! PSA: a def of a class whose first statement is super().__init__(..). -/
namespace PD
open PySem PySem.Spec L2
/-- the scope of such a def: no cells, one free name -/
structure SupScope (N P : List Str) (sc : Scope) : Prop where
  kind : sc.kind = .function
  co : sc.isCoroutine = false
  gen : sc.isGenerator = false
  nd : N.Nodup
  pre : N.take P.length = P
  par : ∀ x ∈ P, sc.names.lookup x = some .local
  nocell : ∀ y ∈ sc.names, y.2 ≠ .cell
  free1 : ∀ x : Str, sc.names.lookup x = some .free → x = "__class__"
  sup : sc.names.lookup ("super" : Str) = some .globalImplicit
  cls : sc.names.lookup ("__class__" : Str) = some .free
def cxS (CX : CXT) (P : Program) (w : World) (K : PySem.W.Frag) (mg : Str → Option Value) (base : Heap) (N : List Str) (qual : Str) (scope : Scope) (f : Addr) (cd : Value) (cc : Addr) (A : Around) (outer : List Env) (s : Shared) (H : Hp) (E : XK) : Cx where
  prog := P
  w := w
  K := K
  mg := mg
  base := base
  A := A.deeper (PySem.W.ksEnv qual scope s.heap.objs.size f cd cc)
  N := N
  s_0 := s
  H_0 := H
  env := PySem.W.ksEnv qual scope s.heap.objs.size f cd cc
  outer := outer
  stack := PySem.W.ksEnv qual scope s.heap.objs.size f cd cc :: outer
  ex := []
  calm := true
  fn := fun x => !(x == ("__class__" : Str))
  pn := []
  xe := fun e s' => wpAny (model P w) (A.deeper (PySem.W.ksEnv qual scope s.heap.objs.size f cd cc)) (leaving (PySem.W.ksEnv qual scope s.heap.objs.size f cd cc) e) (fun _ s'' => CX outer H s E e s'') (fun e' s'' => CX outer H s E e' s'') s'
theorem lookup_mem {β : Type} {y : Str} {u : β} : ∀ {l : List (Str × β)}, (y, u) ∈ l → (∀ w, (y, w) ∈ l → w = u) → l.lookup y = some u
  | [], h, _ => by cases h
  | (z, w) :: r, h, hu => by
    rw [List.lookup_cons]
    by_cases e : y = z
    · subst e
      have : w = u := hu w (List.mem_cons_self ..)
      simp [this]
    · have e' : (y == z) = false := by simpa using e
      rw [e']
      refine lookup_mem (l := r) ?_ fun w hw => hu w (List.mem_cons_of_mem _ hw)
      rcases List.mem_cons.mp h with h | h
      · cases h
        exact absurd rfl e
      · exact h
theorem zip_uni {y : Str} {u w : Value} : ∀ {ps : List Str} {us : List Value}, ps.Nodup → (y, u) ∈ ps.zip us → (y, w) ∈ ps.zip us → w = u
  | [], _, _, h, _ => by simp at h
  | p :: ps, [], _, h, _ => by simp at h
  | p :: ps, v :: us, nd, h1, h2 => by
    rw [List.zip_cons_cons, List.mem_cons] at h1 h2
    have n := List.nodup_cons.mp nd
    rcases h1 with h1 | h1 <;> rcases h2 with h2 | h2
    · cases h1; cases h2; rfl
    · cases h1
      exact absurd (List.of_mem_zip h2).1 n.1
    · cases h2
      exact absurd (List.of_mem_zip h1).1 n.1
    · exact zip_uni n.2 h1 h2
theorem zip_at {y : Str} {u : Value} : ∀ {ps : List Str} {us : List Value} {i : Nat}, ps[i]? = some y → us[i]? = some u → (y, u) ∈ ps.zip us
  | [], _, i, h, _ => by simp at h
  | p :: ps, [], i, _, h => by simp at h
  | p :: ps, v :: us, 0, h1, h2 => by
    simp at h1 h2
    subst h1 h2
    exact List.mem_cons_self ..
  | p :: ps, v :: us, i + 1, h1, h2 => by
    rw [List.zip_cons_cons]
    exact List.mem_cons_of_mem _ (zip_at (i := i) (by simpa using h1) (by simpa using h2))
theorem inv_startS {CX : CXT} {P : Program} {w : World} {K : PySem.W.Frag} {mg : Str → Option Value} {base : Heap} {N ps : List Str} {qual : Str} {scope : Scope} {f cc C : Addr} {cd cl : Value} {cld : Option Addr} {csl : Array (Option Value)} {A : Around} {outer : List Env} {s : Shared} {h1 : Heap} {tk : Nat} {H : Hp} {E : XK} {us : List Value} {vs : List V}
    (S : SupScope N ps scope) (hcell : K.lookup cc = some ⟨cl, cld, .cell (some (.ref C)), csl⟩) (hd : A.handled = none) (e0 : Env0 P w K mg base A outer s H) (hl : vs.length = ps.length) (r : Vals vs us)
    (hns : h1.Ns s.heap.objs.size fun x => (ps.zip us).reverse.lookup x) (hk : ∀ b o, s.heap.get? b = some o → h1.get? b = some o) :
    Inv (cxS CX P w K mg base N qual scope f cd cc A outer s H E) [] (L2.start N vs) H { s with heap := h1, toks := tk } := by
  have hpl : ps.length ≤ N.length := by have := congrArg List.length S.pre; rw [List.length_take] at this; omega
  have noA : ∀ b : Addr, b ∉ (cxS CX P w K mg base N qual scope f cd cc A outer s H E).ex := fun b z => absurd (show b ∈ ([] : List Addr) from z) (by simp)
  have ccl : ∀ x c, (cxS CX P w K mg base N qual scope f cd cc A outer s H E).env.cells.lookup x = some c → x = "__class__" ∧ c = cc := fun x c h => by
    have h' : List.lookup x [(("__class__" : Str), cc)] = some c := h
    rw [List.lookup_cons] at h'
    by_cases e : x = "__class__"
    · subst e
      simp at h'
      exact ⟨rfl, h'.symm⟩
    · have e' : (x == ("__class__" : Str)) = false := by simpa using e
      rw [e'] at h'
      cases h'
  have hb : base.get? cc = some ⟨cl, cld, .cell (some (.ref C)), csl⟩ := e0.mod.kin _ _ hcell
  have hb2 := e0.bs _ _ hb
  refine ⟨⟨e0.mod, S.kind, rfl, rfl, Nat.le_refl _, fun y z c h1 h2 => ?_, fun y hy => ?_, fun y c hy h => ?_, fun _ => hd, Around.frames_deeper e0.frames, .inr ⟨rfl, rfl⟩, fun b z => absurd z (noA b), e0.bs, e0.bsz, fun b _ _ => noA b, fun b z => absurd z (noA b), e0.funs, e0.frf⟩,
    rfl, e0.bare, Un.kept hk, ⟨_, hns, fun i y v h1 h2 h3 => ?_⟩, fun y c h => ?_, e0.hok.fresh (Nat.le_refl _), fun y c h => ?_, fun p hp => absurd (show p ∈ ([] : List (Addr × Obj)) from hp) (by simp), e0.hok.kept hk, ?_⟩
  · rw [(ccl _ _ h1).1, (ccl _ _ h2).1]
  · have hy : scope.names.lookup y = some .cell ∨ scope.names.lookup y = some .free := hy
    rcases hy with hy | hy
    · exact absurd rfl (S.nocell _ (PySem.mem_of_lookup hy))
    · have := S.free1 y hy
      subst this
      exact ⟨cc, rfl⟩
  · have hy' : (!(y == ("__class__" : Str))) = true := hy
    rw [(ccl _ _ h).1] at hy'
    exact absurd hy' (by decide)
  · have hi : i < vs.length := by
      unfold L2.start at h2
      by_cases hi : i < vs.length
      · exact hi
      · rw [List.getElem?_append_right (by simpa using hi)] at h2
        rw [List.getElem?_replicate] at h2
        split at h2 <;> cases h2
    have ha : vs[i]? = some v := by
      unfold L2.start at h2
      rw [List.getElem?_append_left (by simpa using hi), List.getElem?_map] at h2
      cases e : vs[i]? with
      | none => rw [e] at h2; cases h2
      | some a => rw [e] at h2; cases h2; rfl
    obtain ⟨u, hu, rv⟩ := r.get ha
    have hp : ps[i]? = some y := by
      rw [← S.pre, List.getElem?_take_of_lt (by omega)]; exact h1
    have ndP : ps.Nodup := by rw [← S.pre]; exact S.nd.sublist (List.take_sublist _ _)
    refine ⟨u, rv, .inl ⟨S.par y (List.mem_of_getElem? hp), ?_⟩⟩
    have hm := zip_at hp hu
    exact lookup_mem (List.mem_reverse.mpr hm) fun w hw => zip_uni ndP hm (List.mem_reverse.mp hw)
  · obtain ⟨_, rfl⟩ := ccl _ _ h
    exact ⟨_, _, hk _ _ hb2.1, rfl⟩
  · obtain ⟨_, rfl⟩ := ccl _ _ h
    exact hb2.2
  · unfold L2.start
    show _ = N.length
    rw [List.length_append, List.length_map, List.length_replicate]
    omega
/-- what the written part says of the def and its class -/
structure SupC (prog : Program) (K : PySem.W.Frag) (mg : Str → Option Value) (cda cc C g : Addr) : Prop where
  code : ∃ ccl cdd vs ccs file tf, K.lookup cda = some ⟨ccl, cdd, .fields vs, ccs⟩ ∧ vs[2]? = some (.str file tf) ∧ ((prog.main.file : Str) == file) = true
  cell : ∃ cl cld csl, K.lookup cc = some ⟨cl, cld, .cell (some (.ref C)), csl⟩
  cls : ∃ cd, PySem.W.clsIn K C = some cd
  sub : PySem.W.mroIn K C (.ref C) = some true
  any : PySem.W.nsIn K cStatics "thirdparty.any" = some none
  up : PySem.W.ks_superIn K C C "__init__" = some (some (.ref g))
  tg : PySem.W.typeIn K (.ref g) = some (.type "function")
  fg : PySem.W.fnIn K g = true
  sup : mg "super" = none
  top : (prog.main.scope.names.lookup ("super" : Str)).isSome = false
section
variable {CX : CXT} {P : Program} {w : World} {K : PySem.W.Frag} {mg : Str → Option Value} {base : Heap}
theorem fn_ofSup {k : Nat} {f cda cc C g : Addr} {name qual : Str} {params : Arguments} {rest : List Stmt} {scope : Scope} {dV kV doc pm ct oc : Value} {an od : Option Addr} {osl : Array (Option Value)} {N ps gps : List Str} {sp gsp : Sp} {gfd : FuncData} {ds : List Value} {dvs : List V}
    {p1 p2 p3 p5 p6 : Pos} {e : Expr} {es : List Expr} {ar : Arg}
    (lk : K.lookup f = some ⟨oc, od, .func (PySem.W.ksFn name qual params (.Expr (.Call (.Attribute (.Call (.Name "super" p1) [] [] p2) "__init__" p3) (e :: es) [] p5) p6 :: rest) scope dV kV doc pm an (.ref cda) ct cc), osl⟩) (hcd : PySem.W.codeIn K (.ref cda) qual = true) (S : SupScope N ps scope)
    (T : SupC P K mg cda cc C g) (hpar : (params.posonlyargs ++ params.args).head? = some ar) (har : ar.arg = "self") (hps : ps[0]? = some ("self" : Str)) (len : ∀ vs H Q E, sp vs H Q E → vs.length = ps.length)
    (hev : ∀ env, ∃ pl, eval (.Call (.Attribute (.Call (.Name "super" p1) [] [] p2) "__init__" p3) (e :: es) [] p5) env = (do
      let ov ← attributeBase (.Call (.Name "super" p1) [] [] p2) "__init__" env (eval (.Call (.Name "super" p1) [] [] p2) env)
      standAt p3.atName
      let (f, first) ← holding [ov] (getMethod ov "__init__" pl)
      callWith p5 f first (backTo p5 (starEach (e :: es) env)) []))
    (hstar : ∀ env, starEach (e :: es) env = (false, eval e env) :: starEach es env) (hplain : ∀ env, (backTo p5 (starEach es env)).any (·.1) = false)
    (Fg : FnOk P w K mg base CX k g gfd gps gsp) (hbg : Binds K gfd gps ds) (hdv : Vals dvs ds)
    (hbody : ∀ (A : Around) (outer : List Env) (s : Shared) (H : Hp) (vs : List V) (Q : VK) (E : XK), Room k (A.deeper (PySem.W.ksEnv qual scope s.heap.objs.size f (.ref cda) cc)) → sp vs H Q E →
      ∃ ta t self dx fs EE, PA (cxS CX P w K mg base N qual scope f (.ref cda) cc A outer s H E) (e :: es) ta ∧ PSs (cxS CX P w K mg base N qual scope f (.ref cda) cc A outer s H E) rest t ∧ vs[0]? = some (.ref self) ∧ H self = some (.ins C dx fs) ∧
        PassesAt CX (cxS CX P w K mg base N qual scope f (.ref cda) cc A outer s H E) (L2.start N vs) EE ∧ ta (L2.start N vs) H fun us H1 => gsp (.ref self :: (us ++ dvs)) H1 (fun _ H2 => t { nx := fun _ H' => Q .non H', rt := Q } (L2.start N vs) H2) EE) :
    FnOk P w K mg base CX (k + 1) f (PySem.W.ksFn name qual params (.Expr (.Call (.Attribute (.Call (.Name "super" p1) [] [] p2) "__init__" p3) (e :: es) [] p5) p6 :: rest) scope dV kV doc pm an (.ref cda) ct cc) ps sp := by
  refine ⟨len, fun A outer s H args us vs Q E hr e0 hb r hsp => ?_⟩
  have hl := len _ _ _ _ hsp
  have KX : K.In s.heap := e0.mod.kin.keeps fun b o e => (e0.bs b o e).1
  have lim : s.heap.NoLimit := e0.mod.nolimit.keeps fun b o e => (e0.bs b o e).1
  obtain ⟨ccl, cdd, cvs, ccs, file, tf, hcode, hvs, hfile⟩ := T.code
  obtain ⟨cl, cld, csl, hcell⟩ := T.cell
  obtain ⟨cD, hcls⟩ := T.cls
  refine PySem.ks_codeAny_call_defAt (binds := ps.zip us) hr.depth (KX _ _ lk) rfl lim (PySem.W.codeRec_of KX hcd) rfl hb S.nocell (fun x hx => S.par x.1 (List.of_mem_zip hx).1) (fun h₁ hn k => ?_) S.co S.gen S.kind
  obtain ⟨ta, t, self, dx, fs, EE, hta, ht, hself, hins, hEE, q⟩ := hbody A outer s H vs Q E (hr.deeper _) hsp
  have I0 : Inv (cxS CX P w K mg base N qual scope f (.ref cda) cc A outer s H E) [] (L2.start N vs) H { s with heap := h₁, toks := s.toks + (ps.zip us).length } := inv_startS S hcell hr.hd e0 hl r hn k
  obtain ⟨u0, hu0, ru0⟩ := r.get hself
  obtain rfl : u0 = Value.ref self := ru0
  have ndP : ps.Nodup := by rw [← S.pre]; exact S.nd.sublist (List.take_sublist _ _)
  have hm := zip_at hps hu0
  have lself : (ps.zip us).reverse.lookup ("self" : Str) = some (.ref self) := lookup_mem (List.mem_reverse.mpr hm) fun w hw => zip_uni ndP hm (List.mem_reverse.mp hw)
  have hka : scope.names.lookup ("self" : Str) = some .local := S.par _ (List.mem_of_getElem? hps)
  show _root_.PySem.wpAt (model P w) (A.deeper (PySem.W.ksEnv qual scope s.heap.objs.size f (.ref cda) cc)) (.func _ (PySem.W.ksEnv qual scope s.heap.objs.size f (.ref cda) cc)) (execs _ (PySem.W.ksEnv qual scope s.heap.objs.size f (.ref cda) cc)) _ _ _
  obtain ⟨pl, hev⟩ := hev (PySem.W.ksEnv qual scope s.heap.objs.size f (.ref cda) cc)
  have hint : interactive (PySem.W.ksEnv qual scope s.heap.objs.size f (.ref cda) cc) = false := by
    unfold interactive
    simp [S.kind]
  refine PySem.ks_wpAt_execs_cons (PySem.ks_wpAt_Expr_any (hi := hint) (PySem.ks_wpAt_MethodCall (he := hev) ?_))
  have X1 : K.In h₁ := KX.keeps k
  obtain ⟨mb, hB, hmb⟩ := e0.mod.blt
  have G1 : h₁.Ns mainGlobals mg := (e0.mod.glob.keeps fun b o e => (e0.bs b o e).1).keeps k
  have B1 : h₁.Ns builtinsNs mb := (hB.keeps fun b o e => (e0.bs b o e).1).keeps k
  obtain ⟨oD, hD1, hD2⟩ : ∃ oD, h₁.get? C = some oD ∧ oD.data = .cls cD := by
    unfold PySem.W.clsIn at hcls
    split at hcls
    · rename_i c d cd' sl ho
      cases hcls
      exact ⟨_, X1 _ _ ho, rfl⟩
    · cases hcls
  refine PySem.ks_wpAt_super_base (env := PySem.W.ksEnv qual scope s.heap.objs.size f (.ref cda) cc) S.sup S.cls (by decide) rfl (X1 _ _ lk) rfl hpar rfl (X1 _ _ hcode) rfl hvs hfile T.top ?_
  refine PySem.W.ks_loadName_global S.kind S.sup (PySem.Calls.loadGlobal_builtin (env := PySem.W.ksEnv qual scope s.heap.objs.size f (.ref cda) cc) G1 T.sup B1 ((hmb _ (by decide)).trans (by first | boot_by_name | rfl | kernel_rfl)) ⟨rfl, ?_⟩)
  refine PySem.wpAny_loadName_free S.kind S.cls rfl ⟨_, X1 _ _ hcell, rfl⟩ ?_
  rw [har]
  refine PySem.wpAny_loadName_local S.kind hka hn lself ?_
  refine PySem.ks_wpAny_isType_cls hD1 hD2 ⟨rfl, ?_⟩
  obtain ⟨mA, O, _⟩ := ins_get I0.hok hins
  obtain ⟨oid, J, _⟩ := O.look
  refine PySem.ks_wpAny_call_super hD1 hD2 J.at_ J.cls (fun c e => ?_) (PySem.W.looks_mroIn X1 T.sub) (fun h2 hso k2 => ?_)
  · have := J.no
    unfold PySem.W.notCls at this
    rw [e] at this
    exact Bool.noConfusion this
  have I1 := I0.kept (t' := s.toks + (ps.zip us).length) k2
  have X2 : K.In h2 := X1.keeps k2
  obtain ⟨of, hof, hofc⟩ : ∃ of, h2.get? g = some of ∧ of.cls = .type "function" := by
    have ht' : (K.lookup g).map (·.cls) = some (.type "function") := T.tg
    cases z : K.lookup g with
    | none => rw [z] at ht'; cases ht'
    | some of => rw [z] at ht'; exact ⟨of, X2 _ _ z, Option.some.inj ht'⟩
  have hup := T.up
  unfold PySem.W.ks_superIn at hup
  rw [hcls] at hup
  have hxC : self ≠ C := PySem.W.ks_ne X1 J hcls
  refine PySem.ks_wpAny_getMethod_super hso (PySem.W.looks_opaque X2 T.any) (l₀ := cD.mro) (fun A Q E s k q => PySem.wpAny_bind ((PySem.W.looks_clsIn X2 hcls) A _ E s k (PySem.wpAny_pure q))) rfl X2 hup hof hofc hxC (by decide) ?_
  have I2 := ClX.met_new (g := g) (C := self) I1
  have hbq : base.get? h2.objs.size = none := ClX.base_none I1 (Nat.le_refl _)
  refine ClX.callwith_cm (X := cxS CX P w K mg base N qual scope f (.ref cda) cc A outer s H E) I2 hbq T.fg ?_ (hstar _) (hplain _)
  refine thn (hta.run p5 _ _ _ _ _ I2 q) fun vs2 s3 ⟨xs, H3, I3, r3, q3⟩ => ?_
  refine ⟨⟨ClX.pin_at I3, I3.kIn⟩, wpAny_call (PySem.W.method_call (ClX.pin_at I3) ?_)⟩
  have I4 := ClX.unpin I3
  have r4 : Vals (V.ref self :: xs) (Value.ref self :: vs2) := .cons rfl r3
  have hl4 : (Value.ref self :: vs2 ++ ds).length = gps.length := by
    have := Fg.len _ _ _ _ q3
    rw [← this]
    have e1 := r4.length
    have e2 := hdv.length
    simp only [List.length_cons, List.length_append] at e1 ⊢
    omega
  refine PySem.codeAny_mono (Fg.run _ _ s3 H3 ⟨Value.ref self :: vs2, []⟩ (Value.ref self :: vs2 ++ ds) (V.ref self :: (xs ++ dvs)) _ EE (hr.deeper _) I4.env0 (hbg s3 (Value.ref self :: vs2) I4.kIn hl4) (r4.append hdv) q3) fun rr s' hq => ?_
  cases rr with
  | error ee => exact hEE _ H3 s3 ee s' I4 hq
  | ok fl =>
    cases fl with
    | ret u =>
      obtain ⟨v5, H5, I5, _, q5⟩ := I4.after hq
      refine wpAt_of_wpAny (wpAny_mono (ht.run [] s' _ H5 _ I5 q5) (fun fl s6 hs => ?_) fun e s' hs => hs)
      have fin : ∀ {σ' : St} {H' : Hp} {v : V} {u : Value}, Inv (cxS CX P w K mg base N qual scope f (.ref cda) cc A outer s H E) [] σ' H' s6 → RelV v u → Q v H' → CE outer P w H s Q u s6 :=
        fun {σ' H' v u} J rv q => ⟨v, H', J.os, J.bare, J.base, J.hok, rv, q⟩
      cases fl with
      | ret u =>
        obtain ⟨v, σ', H', J, rv, q⟩ := hs
        exact fin J rv q
      | next =>
        obtain ⟨σ', H', J, q⟩ := hs
        exact fin (v := V.non) (u := Value.none) J rfl q
      | brk =>
        obtain ⟨_, _, _, q⟩ := hs
        exact False.elim q
      | cont =>
        obtain ⟨_, _, _, q⟩ := hs
        exact False.elim q
    | next => exact False.elim hq
    | brk => exact False.elim hq
    | cont => exact False.elim hq
end
end PD
set_option Elab.async false
set_option linter.all false
set_option maxRecDepth 100000
set_option maxHeartbeats 4000000
/-! PSB: __init__ with super().__init__(..) ahead, in plain readings. -/
namespace PD
open PySem PySem.Spec L2
/-- all but two objects -/
def but2 (H : Hp) (a b : Addr) : Hp := fun c => if c = a ∨ c = b then none else H c
theorem but2_of {H : Hp} {a b c : Addr} {o : HO} (h : H c = some o) (h1 : c ≠ a) (h2 : c ≠ b) : but2 H a b c = some o := by
  unfold but2
  rw [if_neg (by rintro (z | z); exact h1 z; exact h2 z)]
  exact h
theorem but2_same {H : Hp} {a b : Addr} : Same (but2 H a b) H := fun c o e => by
  unfold but2 at e
  split at e
  · cases e
  · exact e
/-- the arguments as the slots of a base's __init__ -/
theorem RepAs.stS {K : PySem.W.Frag} {F H : Hp} {vs : List V} {as : List Sl} {n : Str} {C x dx : Addr} (r : RepAs K F H vs as) (sF : Same F H) (hx : H x = some (.ins C dx [])) (hdx : H dx = some (.own x)) (fx : F x = none) (fdx : F dx = none) (hn : PySem.W.nsIn K mainGlobals n = some (some (.ref C))) :
    St2 ⟨K, SL (some (.ref x)) (but2 H x dx), but2 H x dx, F⟩ F H ((V.ref x :: vs).map some) (.mt (.ins n []) :: as) := by
  have ne : dx ≠ x := fun z => by
    rw [z, hx] at hdx
    cases hdx
  have get : ∀ {i : Nat} {a : Sl}, ((Sl.mt (.ins n []) :: as)[i]? = some a) → a = Sl.mt (.ins n []) ∧ i = 0 ∨ ∃ v, ((V.ref x :: vs).map some)[i]? = some (some v) ∧ RepA K F H v a := fun {i a} h => by
    cases i with
    | zero =>
      simp at h
      exact .inl ⟨h.symm, rfl⟩
    | succ j =>
      obtain ⟨v, h1, h2⟩ := r.get (i := j) (a := a) (by simpa using h)
      exact .inr ⟨v, by simpa using h1, h2⟩
  refine ⟨⟨Same.refl _, sF, but2_same, fun _ _ _ => rfl, Same.refl _⟩, by simpa using r.length, fun i d h => ?_, fun i d h => ?_, fun i d h => ?_, fun i j p xs ys _ h1 _ => ?_, fun i m h => ?_, fun i j m1 m2 h1 h2 => ?_, fun i xs h => ?_, fun v m e h => ?_⟩
  · rcases get h with ⟨z, _⟩ | ⟨v, h1, h2⟩
    · cases z
    · exact ⟨v, h1, h2⟩
  · rcases get h with ⟨z, _⟩ | ⟨v, h1, h2⟩
    · cases z
    · exact h2.elim
  · rcases get h with ⟨z, _⟩ | ⟨v, h1, h2⟩
    · cases z
    · exact h2.elim
  · rcases get h1 with ⟨z, _⟩ | ⟨v, h1, h2⟩
    · cases z
    · exact h2.elim
  · rcases get h with ⟨z, hi⟩ | ⟨v, h1, h2⟩
    · cases z
      subst hi
      refine ⟨.ref x, [x, dx], by simp, .ins hx hdx hn .nil, ?_, fun p hp => ?_, fun j xs q h1 h2 => ?_⟩
      · exact List.nodup_cons.mpr ⟨fun z => by rw [List.mem_singleton] at z; exact ne z.symm, nodup1 dx⟩
      · rcases List.mem_cons.mp hp with rfl | hp
        · exact ⟨fx, by show but2 H p dx p = none; unfold but2; rw [if_pos (.inl rfl)]⟩
        · rw [List.mem_singleton] at hp
          subst hp
          exact ⟨fdx, by show but2 H x p p = none; unfold but2; rw [if_pos (.inr rfl)]⟩
      · rcases get h1 with ⟨z, _⟩ | ⟨v, _, h3⟩
        · cases z
        · exact h3.elim
    · exact h2.elim
  · rcases get h1 with ⟨_, e1⟩ | ⟨v, _, h3⟩
    · rcases get h2 with ⟨_, e2⟩ | ⟨v, _, h3⟩
      · rw [e1, e2]
      · exact h3.elim
    · exact h3.elim
  · rcases get h with ⟨z, _⟩ | ⟨v, h1, p, us, rfl, h3, h4⟩
    · cases z
    · refine ⟨p, us, h1, ?_, h4⟩
      rcases h3 with (h3 | ⟨z, h3⟩) | h3
      · exact .inl (.inl (but2_of h3 (fun e => by rw [e, hx] at h3; cases h3) (fun e => by rw [e, hdx] at h3; cases h3)))
      · exact .inl (.inr ⟨z, but2_of h3 (fun e => by rw [e, hx] at h3; cases h3) (fun e => by rw [e, hdx] at h3; cases h3)⟩)
      · exact .inr h3
  · cases e
    simp
/-- behind the base's __init__ -/
theorem St2.supBack {K : PySem.W.Frag} {S : Sx} {B F0 F H F' H' : Hp} {σ : St} {ρ : En} {n : Str} {C x dx : Addr} {m : M} {qs : List Addr} (s : St2 ⟨K, S, B, F0⟩ F H σ ρ) (h0 : ρ[0]? = some (.mt (.ins n []))) (hs : σ[0]? = some (some (.ref x))) (hx : H x = some (.ins C dx [])) (hdx : H dx = some (.own x)) (bx : B x = none) (bdx : B dx = none)
    (z : Fz ⟨K, SL (some (.ref x)) (but2 H x dx), but2 H x dx, F⟩ F' H') (r : RepM K F' H' (.ref x) m qs) (nd : qs.Nodup) (nn : ∀ q ∈ qs, F' q = none ∧ but2 H x dx q = none) : St2 ⟨K, S, B, F0⟩ F' H' σ (ρ.set 0 (.mt m)) := by
  have hl : 0 < ρ.length := get_lt h0
  have B' : ∀ b o, B b = some o → but2 H x dx b = some o := fun b o e => but2_of (s.fz.bH b o e) (fun w => by rw [w, bx] at e; cases e) (fun w => by rw [w, bdx] at e; cases e)
  have ff : Same F F' := z.f01
  have inv : ∀ (j : Nat) (y : Sl), (ρ.set 0 (.mt m))[j]? = some y → (∀ w, y ≠ .mt w) → 0 ≠ j ∧ ρ[j]? = some y := fun j y h hy => set_inv h fun w => hy _ w.symm
  have ownB : ∀ (j : Nat) (xs : List D) (q : Addr), ρ[j]? = some (.own xs) → σ[j]? = some (some (.ref q)) → ∃ vs, H q = some (.lst vs) ∧ but2 H x dx q = some (.lst vs) := fun j xs q h1 h2 => by
    obtain ⟨p, vs, e1, e2, _⟩ := s.atO j xs h1
    rw [h2] at e1
    cases e1
    exact ⟨vs, e2, but2_of e2 (fun w => by rw [w, hx] at e2; cases e2) (fun w => by rw [w, hdx] at e2; cases e2)⟩
  have only : ∀ (j : Nat) (k : M), (ρ.set 0 (.mt m))[j]? = some (.mt k) → j = 0 ∧ k = m := fun j k h => by
    by_cases hj : 0 = j
    · subst hj
      rw [List.getElem?_set_self hl] at h
      cases h
      exact ⟨rfl, rfl⟩
    · rw [List.getElem?_set_ne hj] at h
      exact absurd (s.oneM j 0 k _ h h0).symm hj
  refine ⟨⟨s.fz.f01.trans ff, z.fH, fun b o e => z.bH b o (B' b o e), fun b o e => (z.new b o (B' b o e)).trans (s.fz.new b o e), s.fz.lB⟩, by rw [List.length_set]; exact s.len, fun j d h => ?_, fun j xs h => ?_, fun j y h => ?_, fun a b p xs ys hab h1 h2 => ?_, fun j k h => ?_, fun a b k1 k2 h1 h2 => ?_, fun j xs h => ?_, fun v k e h => ?_⟩
  · obtain ⟨_, h'⟩ := inv j _ h fun w e => by cases e
    obtain ⟨v, h1, h2⟩ := s.atD j d h'
    exact ⟨v, h1, h2.mono ff⟩
  · obtain ⟨_, h'⟩ := inv j _ h fun w e => by cases e
    obtain ⟨p, vs, h1, h2, h3, h4, h5⟩ := s.atO j xs h'
    obtain ⟨vs', e1, e2⟩ := ownB j xs p h' h1
    rw [h2] at e1
    cases e1
    exact ⟨p, vs, h1, z.bH _ _ e2, (z.new _ _ e2).trans h3, h4, h5.mono ff⟩
  · obtain ⟨_, h'⟩ := inv j _ h fun w e => by cases e
    obtain ⟨h1, h2⟩ := s.atX j y h'
    exact ⟨h1, h2.mono ff⟩
  · exact s.dis a b p xs ys hab (inv a _ h1 fun w e => by cases e).2 (inv b _ h2 fun w e => by cases e).2
  · obtain ⟨rfl, rfl⟩ := only j k h
    refine ⟨.ref x, qs, hs, r, nd, fun q hq => ⟨(nn q hq).1, ?_⟩, fun j' xs q h1 h2 hq => ?_⟩
    · show B q = none
      cases e : B q with
      | none => rfl
      | some o =>
        have := B' q o e
        rw [(nn q hq).2] at this
        cases this
    · obtain ⟨_, h'⟩ := inv j' _ h1 fun w e => by cases e
      obtain ⟨vs, _, e2⟩ := ownB j' xs q h' h2
      rw [(nn q hq).2] at e2
      cases e2
  · rw [(only a k1 h1).1, (only b k2 h2).1]
  · obtain ⟨_, h'⟩ := inv j _ h fun w e => by cases e
    obtain ⟨p, vs, h1, h2, h3⟩ := s.atL j xs h'
    exact ⟨p, vs, h1, h2, h3.mono ff⟩
  · exact s.pin v _ e h0
/-- super().__init__(..) and what follows -/
def bSup (n : Str) (den0 : List Sl → IR) (fa : En → Res (List Sl)) (dd : List D) (body : En → Fl) : En → Fl := fun ρ => match (ρ[0]? : Option Sl) with
  | some (Sl.mt (M.ins n' [])) => if n' = n then (match fa ρ with
    | .ok as _ => (match den0 (.mt (.ins n' []) :: (as ++ dd.map .d)) with
      | .ok m => body (ρ.set 0 (.mt m))
      | .exc x => .exc x ρ
      | .bad => .bad)
    | .exc x _ => .exc x ρ
    | .bad => .bad) else .bad
  | _ => .bad
theorem takes_cxS {P : Program} {w : World} {K : PySem.W.Frag} {mg : Str → Option Value} {base : Heap} {N : List Str} {qual : Str} {sc : Scope} {f : Addr} {cdv : Value} {cc : Addr} {A : Around} {outer : List Env} {s : Shared} {H : Hp} {E : XK} : Takes (cxS (L2.CX P w) P w K mg base N qual sc f cdv cc A outer s H E) (wE E) := takes_of rfl rfl rfl rfl
theorem owns_cxS {P : Program} {w : World} {K : PySem.W.Frag} {mg : Str → Option Value} {base : Heap} {N : List Str} {qual : Str} {sc : Scope} {f : Addr} {cdv : Value} {cc : Addr} {A : Around} {outer : List Env} {s : Shared} {H : Hp} {E : XK} : PassesOwn (model P w) (cxS (L2.CX P w) P w K mg base N qual sc f cdv cc A outer s H E).A (cxS (L2.CX P w) P w K mg base N qual sc f cdv cc A outer s H E).env (cxS (L2.CX P w) P w K mg base N qual sc f cdv cc A outer s H E).xe :=
  passes_of (X := cxS (L2.CX P w) P w K mg base N qual sc f cdv cc A outer s H E) (K := fun e s'' => L2.CX P w outer H s E e s'') rfl
theorem inS_ofSup {P : Program} {w : World} {K : PySem.W.Frag} {mg : Str → Option Value} {base : Heap} {k : Nat} {f cda cc C g : Addr} {name qual n : Str} {params : Arguments} {rest : List Stmt} {scope : Scope} {dV kV doc pm ct oc : Value} {an od : Option Addr} {osl : Array (Option Value)} {N ps gps : List Str} {gfd : FuncData} {ds : List Value} {dd : List D}
    {p1 p2 p3 p5 p6 : Pos} {e : Expr} {es : List Expr} {ar : Arg} {den0 : List Sl → IR} {fa : En → Res (List Sl)} {body : En → Fl}
    (lk : K.lookup f = some ⟨oc, od, .func (PySem.W.ksFn name qual params (.Expr (.Call (.Attribute (.Call (.Name "super" p1) [] [] p2) "__init__" p3) (e :: es) [] p5) p6 :: rest) scope dV kV doc pm an (.ref cda) ct cc), osl⟩) (hcd : PySem.W.codeIn K (.ref cda) qual = true) (S : SupScope N ps scope)
    (T : SupC P K mg cda cc C g) (c : ClsJ K n C) (hpar : (params.posonlyargs ++ params.args).head? = some ar) (har : ar.arg = "self") (hps : ps[0]? = some ("self" : Str))
    (hev : ∀ env, ∃ pl, eval (.Call (.Attribute (.Call (.Name "super" p1) [] [] p2) "__init__" p3) (e :: es) [] p5) env = (do
      let ov ← attributeBase (.Call (.Name "super" p1) [] [] p2) "__init__" env (eval (.Call (.Name "super" p1) [] [] p2) env)
      standAt p3.atName
      let (f, first) ← holding [ov] (getMethod ov "__init__" pl)
      callWith p5 f first (backTo p5 (starEach (e :: es) env)) []))
    (hstar : ∀ env, starEach (e :: es) env = (false, eval e env) :: starEach es env) (hplain : ∀ env, (backTo p5 (starEach es env)).any (·.1) = false)
    (G : InS P w K mg base k g gfd gps den0) (hbg : Binds K gfd gps ds) (hd : DfJ K ds dd) (hlen : ∀ as, den0 as ≠ .bad → as.length = gps.length)
    (hb : ∀ (me : V) (L : Hp) (A : Around) (outer : List Env) (s : Shared) (H : Hp) (E : XK), Room k (A.deeper (PySem.W.ksEnv qual scope s.heap.objs.size f (.ref cda) cc)) →
      LAJ (cxS (L2.CX P w) P w K mg base N qual scope f (.ref cda) cc A outer s H E) (wE E) (SL (some me) L) (e :: es) fa ∧ BJ (cxS (L2.CX P w) P w K mg base N qual scope f (.ref cda) cc A outer s H E) (wE E) (SL (some me) L) rest body) :
    InS P w K mg base (k + 1) f (PySem.W.ksFn name qual params (.Expr (.Call (.Attribute (.Call (.Name "super" p1) [] [] p2) "__init__" p3) (e :: es) [] p5) p6 :: rest) scope dV kV doc pm an (.ref cda) ct cc) ps (inS ps.length N.length (bSup n den0 fa dd body)) := by
  obtain ⟨dv, hv, hrep⟩ := hd.ex
  refine ⟨fn_ofSup lk hcd S T hpar har hps (fun vs H Q E h => h.1) hev hstar hplain G.ok hbg hv fun A outer s H vs Q E hr h => ?_⟩
  obtain ⟨hl, L, B, F, as, me, s2, post⟩ := h
  obtain ⟨⟨ta, pa, qa⟩, ⟨t, p, q⟩⟩ := (⟨(hb me L A outer s H E hr).1.ex, (hb me L A outer s H E hr).2.ex⟩ : _ ∧ _)
  have s3 := st2_pad (N.length - ps.length) s2
  have hdl : as.length = ps.length := by rw [← s2.len, List.length_map]; exact hl
  unfold inS at post
  rw [if_pos hdl] at post
  have hst : L2.start N vs = vs.map some ++ List.replicate (N.length - ps.length) none := start_pad hl
  rw [← hst] at s3
  generalize hρ : as ++ List.replicate (N.length - ps.length) Sl.un = ρ at *
  unfold bSup at post
  cases e0 : (ρ[0]? : Option Sl) with
  | none => simp only [e0] at post; exact post.elim
  | some sl =>
    cases sl with
    | mt m0 =>
      cases m0 with
      | ins n' fs =>
        cases fs with
        | nil =>
          simp only [e0] at post
          by_cases hn : n' = n
          · subst hn
            rw [if_pos rfl] at post
            obtain ⟨v, qs, h1, h2, h3, h4, _⟩ := s3.atM 0 _ e0
            have hp := s3.pin me _ rfl e0
            rw [h1] at hp
            cases hp
            cases h2 with
            | @ins a C' dx _ vs' _ ps' g1 g2 g3 g4 =>
              cases g4
              have hC := c.ns
              rw [g3] at hC
              cases hC
              have hv0 : vs[0]? = some (.ref a) := by
                rw [hst] at h1
                have hlt : 0 < vs.length := by
                  rw [hl]
                  exact (List.getElem?_eq_some_iff.mp hps).1
                rw [List.getElem?_append_left (by simpa using hlt), List.getElem?_map] at h1
                cases ev : vs[0]? with
                | none => rw [ev] at h1; cases h1
                | some y => rw [ev] at h1; cases h1; rfl
              have fa0 := h4 a (by simp)
              have fdx := h4 dx (by simp)
              refine ⟨ta, t, a, dx, [], WE (wE E) (L2.start N vs), pa, p, hv0, g1, passAt takes_cxS _, ?_⟩
              refine qa B F F H (L2.start N vs) ρ _ s3 ?_
              cases ea : fa ρ with
              | bad => rw [ea] at post; exact post.elim
              | exc x ρ1 =>
                rw [ea] at post
                exact fun cls dd F' H' ex rx => post cls dd F' H' (s3.ext ex).fz rx
              | ok as' ρ1 =>
                simp only [ea] at post
                intro us F1 H1 ex ras
                have st1 := s3.ext ex
                have g1' : H1 a = some (.ins C dx []) := ex.hh _ _ g1
                have g2' : H1 dx = some (.own a) := ex.hh _ _ g2
                have f1 : F1 a = none := (ex.new _ _ g1).trans fa0.1
                have f2 : F1 dx = none := (ex.new _ _ g2).trans fdx.1
                have rr := ras.append (RepAs.of_d (H := H1) (hrep F1))
                have hi := rr.stS st1.fz.fH g1' g2' f1 f2 c.ns
                have back : ∀ {F' H' : Hp}, Fz ⟨K, SL (some (.ref a)) (but2 H1 a dx), but2 H1 a dx, F1⟩ F' H' → Fz ⟨K, SL (some (.ref a)) L, B, F⟩ F' H' := fun {F' H'} z => by
                  have B' : ∀ b o, B b = some o → but2 H1 a dx b = some o := fun b o e => but2_of (st1.fz.bH b o e) (fun w => by rw [w] at e; have := fa0.2; rw [show B a = none from this] at e; cases e) (fun w => by rw [w] at e; have := fdx.2; rw [show B dx = none from this] at e; cases e)
                  exact ⟨st1.fz.f01.trans z.f01, z.fH, fun b o e => z.bH b o (B' b o e), fun b o e => (z.new b o (B' b o e)).trans (st1.fz.new b o e), st1.fz.lB⟩
                refine ⟨?_, but2 H1 a dx, but2 H1 a dx, F1, _, .ref a, hi, ?_⟩
                · have := hlen (.mt (.ins n' []) :: (as' ++ dd.map .d)) fun z => by rw [z] at post; exact post
                  rw [← this, List.length_cons, List.length_cons, rr.length]
                · cases eden : den0 (.mt (.ins n' []) :: (as' ++ dd.map .d)) with
                  | bad => rw [eden] at post; exact post.elim
                  | exc x' =>
                    rw [eden] at post
                    exact fun cls dd F' H' z rx => post cls dd F' H' (back z) rx
                  | ok m =>
                    rw [eden] at post
                    intro qs F' H' z r nd nn
                    have sb := st1.supBack e0 h1 g1' g2' fa0.2 fdx.2 z r nd nn
                    refine q B F F' H' (L2.start N vs) (ρ.set 0 (.mt m)) _ sb ?_
                    cases eb : body (ρ.set 0 (.mt m)) with
                    | nx ρ2 =>
                      simp only [eb] at post
                      unfold Fl.finI at post
                      intro σ' F'' H'' st' _
                      cases e2 : ρ2[0]? with
                      | none => simp only [e2] at post
                      | some sl =>
                        cases sl with
                        | mt m2 =>
                          simp only [e2] at post
                          obtain ⟨v2, qs2, k1, k2, k3, k4, _⟩ := st'.atM 0 m2 e2
                          have hp2 := st'.pin _ m2 rfl e2
                          rw [k1] at hp2
                          cases hp2
                          exact post qs2 F'' H'' ⟨st'.fz.f01, st'.fz.fH, st'.fz.bH, st'.fz.new, st'.fz.lB⟩ k2 k3 k4
                        | un => simp only [e2] at post
                        | d _ => simp only [e2] at post
                        | own _ => simp only [e2] at post
                        | ex _ => simp only [e2] at post
                        | ln _ => simp only [e2] at post
                    | rt d =>
                      simp only [eb] at post
                      exact post.elim
                    | exc x ρ2 =>
                      simp only [eb] at post
                      exact fun cls dd σ' F'' H'' st' _ rx => post cls dd F'' H'' ⟨st'.fz.f01, st'.fz.fH, st'.fz.bH, st'.fz.new, st'.fz.lB⟩ rx
                    | bk ρ2 =>
                      simp only [eb] at post
                      exact post.elim
                    | ct ρ2 =>
                      simp only [eb] at post
                      exact post.elim
                    | bad =>
                      simp only [eb] at post
                      exact post.elim
          · rw [if_neg hn] at post
            exact post.elim
        | cons _ _ => simp only [e0] at post; exact post.elim
      | fz _ => simp only [e0] at post; exact post.elim
      | lst _ => simp only [e0] at post; exact post.elim
      | dK _ => simp only [e0] at post; exact post.elim
      | dT _ => simp only [e0] at post; exact post.elim
    | un => simp only [e0] at post; exact post.elim
    | d _ => simp only [e0] at post; exact post.elim
    | own _ => simp only [e0] at post; exact post.elim
    | ex _ => simp only [e0] at post; exact post.elim
    | ln _ => simp only [e0] at post; exact post.elim
end PD
set_option Elab.async false
set_option linter.all false
set_option maxRecDepth 100000
set_option maxHeartbeats 4000000
/-! PSC: zip, all, dicts of the module, constants of classes, isinstance of instances, list + list as a fresh list, text.index. -/
namespace PD
open PySem PySem.Spec L2 RZ ClX
/-! ### zip of two tuples or two lists -/
def dZip (xs ys : List D) : List D := List.zipWith (fun a b => .tup [a, b]) xs ys
theorem walk_zipT {K : PySem.W.Frag} {a b : Addr} {xs ys : List V} {n : Nat} (hn : n = min xs.length ys.length) : Walk (ItzT K a b) n (fun H => SqT K H a xs ∧ SqT K H b ys) (YPair (fun i => xs[i]?) (fun i => ys[i]?)) where
  goes := fun i H hi h => by
    have h1 : i < xs.length := by omega
    have h2 : i < ys.length := by omega
    exact ⟨xs, ys, _, _, h.1, h.2, List.getElem?_eq_getElem h1, List.getElem?_eq_getElem h2⟩
  stops := fun H h => ⟨xs, ys, h.1, h.2, by omega⟩
  yields := fun i H x H' hi h y => by
    obtain ⟨T, u, v, e1, e2, e3, e4, e5⟩ := y
    exact ⟨T, u, v, e1, e2, e3, e4 xs h.1, e5 ys h.2⟩
theorem zip_yield {K : PySem.W.Frag} {F1 : Hp} {us vs : List V} {xs ys : List D} (hx : RepL K F1 us xs) (hy : RepL K F1 vs ys) :
    ∀ i Fi Hi x Hi', i < (dZip xs ys).length → Same F1 Fi → Same Fi Hi → YPair (fun i => us[i]?) (fun i => vs[i]?) i Hi x Hi' → ∃ Fj d, Ext Fi Hi Fj Hi' ∧ (dZip xs ys)[i]? = some d ∧ Rep K Fj x d := by
  intro i Fi Hi x Hi' hi sF sH y
  obtain ⟨T, a, b, rfl, hT, rfl, e1, e2⟩ := y
  obtain ⟨d1, h1, r1⟩ := hx.get' e1
  obtain ⟨d2, h2, r2⟩ := hy.get' e2
  have ex := Ext.laid (o := .tup [a, b]) sH hT
  refine ⟨_, .tup [d1, d2], ex, ?_, .tup (.inl (.inl upd_same)) (.cons (r1.mono (sF.trans ex.ff)) (.cons (r2.mono (sF.trans ex.ff)) .nil))⟩
  unfold dZip
  rw [List.getElem?_zipWith, h1, h2]
def iZip (f : En → Res (List D)) : En → Res (List D) := fun ρ => (f ρ).bind fun ds ρ1 => match ds with
  | [.lst xs, .lst ys] => .ok (dZip xs ys) ρ1
  | [.tup xs, .tup ys] => .ok (dZip xs ys) ρ1
  | _ => .bad
section
variable {X : Cx} {Wx : WX} {S : Sx}
theorem ij_zip {elts : List Expr} {kk : Nat} {tpos : Pos} {e e2 : Expr} {f : En → Res (List D)} {p pos : Pos} (hm : X.mg "zip" = none) (ha : AJ X Wx S [e, e2] f) (hg : Gl X "zip" := by rfl)
    (hs : starEach [e, e2] X.env = (false, eval e X.env) :: starEach [e2] X.env := by rfl) (hpl : (backTo pos (starEach [e2] X.env)).any (·.1) = false := by rfl) :
    IJ X Wx S (.Tuple elts kk tpos) (.Call (.Name "zip" p) [e, e2] [] pos) (iZip f) := by
  obtain ⟨t, pa, qa⟩ := ha.ex
  refine ⟨_, pi_zipA hg hm pa hs hpl, fun B F0 F H σ ρ R st post => qa B F0 F H σ ρ _ st ?_⟩
  unfold iZip at post
  cases ef : f ρ with
  | bad => rw [ef] at post; exact post
  | exc x ρ1 => rw [ef] at post; exact post
  | ok ds ρ1 =>
    rw [ef, Res.bind_ok] at post
    intro vs F1 H1 st1 s1 r1
    match ds, post, r1 with
    | [.lst xs, .lst ys], post, r1 =>
      obtain ⟨v, w, rfl, rv, rw_⟩ := repL_2 r1
      cases rv with
      | @lst a us _ h1 h2 =>
        cases rw_ with
        | @lst b ws _ h3 h4 =>
          refine ⟨a, b, us, ws, rfl, .inl ⟨Same.seq st1.fz.fH h1, Same.seq st1.fz.fH h3, ?_⟩⟩
          refine post _ (fun H => SqL X.K H a us ∧ SqL X.K H b ws) (YPair (fun i => us[i]?) (fun i => ws[i]?)) F1 H1 st1 s1 (walk_zip ?_) (fun H'' s _ => ⟨Same.seq s h1, Same.seq s h3⟩) (zip_yield h2 h4)
          unfold dZip
          rw [List.length_zipWith, h2.length, h4.length]
    | [.tup xs, .tup ys], post, r1 =>
      obtain ⟨v, w, rfl, rv, rw_⟩ := repL_2 r1
      cases rv with
      | @tup a us _ h1 h2 =>
        cases rw_ with
        | @tup b ws _ h3 h4 =>
          refine ⟨a, b, us, ws, rfl, .inr ⟨Same.seqT st1.fz.fH h1, Same.seqT st1.fz.fH h3, ?_⟩⟩
          refine post _ (fun H => SqT X.K H a us ∧ SqT X.K H b ws) (YPair (fun i => us[i]?) (fun i => ws[i]?)) F1 H1 st1 s1 (walk_zipT ?_) (fun H'' s _ => ⟨Same.seqT s h1, Same.seqT s h3⟩) (zip_yield h2 h4)
          unfold dZip
          rw [List.length_zipWith, h2.length, h4.length]
/-! ### all(bools) -/
def blsOf : List D → Option (List Bool)
  | [] => some []
  | .bl b :: r => (blsOf r).map fun l => b :: l
  | _ :: _ => none
theorem blsOf_rep {K : PySem.W.Frag} {F : Hp} : ∀ {vs : List V} {ds : List D} {bs : List Bool}, RepL K F vs ds → blsOf ds = some bs → vs = bs.map V.bl
  | _, _, bs, .nil, h => by
    simp [blsOf] at h
    subst h
    rfl
  | _, _, bs, .cons (d := d) r1 r2, h => by
    cases d <;> simp [blsOf] at h
    obtain ⟨l, h1, rfl⟩ := h
    cases r1
    rw [blsOf_rep r2 h1]
    rfl
def allL : List D → Option D
  | [.lst xs] => (blsOf xs).map fun bs => .bl (bs.all id)
  | _ => none
theorem cj_all (hc : X.calm = true := by rfl) : CallJ X (.builtin "all") allL := by
  refine ⟨_, cr_all hc, fun F H vs ds z Q s rx hz k => ?_⟩
  match ds, hz with
  | [.lst xs], hz =>
    obtain ⟨v, rfl, rv⟩ := repL_1 rx
    cases rv with
    | @lst a us ds h1 h2 =>
      replace hz : (blsOf xs).map (fun bs => D.bl (bs.all id)) = some z := hz
      cases e : blsOf xs with
      | none => rw [e] at hz; cases hz
      | some bs =>
        rw [e] at hz
        cases hz
        have := blsOf_rep h2 e
        subst this
        exact ⟨a, bs, rfl, Same.seq s h1, k _ F H (Ext.refl s) (.bl _)⟩
/-! ### text.index(text) -/
def fSIdx (fo fe : En → Res D) : En → Res D := fun ρ => (fo ρ).bind fun d ρ1 => match d with
  | .str a => (fe ρ1).bind fun e ρ2 => match e with
    | .str b => (match Builtin.Str.occurrences a b 0 a.length 1 with
      | i :: _ => .ok (.int (i : Nat)) ρ2
      | [] => .bad)
    | _ => .bad
  | _ => .bad
theorem ej_sidx {o e : Expr} {apos cpos : Pos} {fo fe : En → Res D} (ho : EJ X Wx S o fo) (he : EJ X Wx S e fe) (hbase : attributeBase o "index" X.env (eval o X.env) = eval o X.env := by rfl)
    (hfew : ((backTo cpos (starEach [e] X.env)).all (fun x => !x.1) && (backToKw cpos (keywordEach [] X.env)).all (fun x => x.1.isSome)
      && decide (([e] : List Expr).length + ([] : List Keyword).length + (if ([] : List Keyword).isEmpty then 0 else 1) < 30)) = true := by rfl)
    (hline : (apos.endLine == cpos.line) = true := by rfl) (hs : starEach [e] X.env = (false, eval e X.env) :: starEach [] X.env := by rfl) (hplain : (backTo cpos (starEach [] X.env)).any (·.1) = false := by rfl) :
    EJ X Wx S (.Call (.Attribute o "index" apos) [e] [] cpos) (fSIdx fo fe) := by
  obtain ⟨t, p, q⟩ := ho.ex
  obtain ⟨te, pe, qe⟩ := he.ex
  refine ⟨_, pe_bm PySem.F.plainAttrs_str PySem.F.slot_str_index PySem.F.type_str_index mt_sindex p (pa_cons pe pa_nil hs) hbase hfew hline hs hplain, fun B F0 F H σ ρ Q st post => q B F0 F H σ ρ _ st (post.bind fun d ρ1 v F1 H1 post1 st1 s1 r1 => ?_)⟩
  cases r1 with
  | str a =>
    refine ⟨rfl, qe B F0 F1 H1 σ ρ1 _ st1 (post1.bind fun e ρ2 u F2 H2 post2 st2 s2 r2 => ?_)⟩
    cases r2 with
    | str b =>
      replace post2 : Post (Rep X.K) (fx X S B F0) Wx σ F2 (match Builtin.Str.occurrences a b 0 a.length 1 with
        | i :: _ => Res.ok (D.int (i : Nat)) ρ2
        | [] => .bad) Q := post2
      cases eo : Builtin.Str.occurrences a b 0 a.length 1 with
      | nil => rw [eo] at post2; exact post2.elim
      | cons i rest =>
        rw [eo] at post2
        exact ⟨a, b, i, rest, rfl, rfl, eo, post2 _ F2 H2 st2 (Same.refl _) (.int _)⟩
    | _ => exact post2.elim
  | _ => exact post1.elim
/-! ### list + list, fresh -/
def oCat (fa fb : En → Res D) : En → Res (List D) := fun ρ => (fa ρ).bind fun d ρ1 => (fb ρ1).bind fun e ρ2 => match d, e with
  | .lst xs, .lst ys => if xs.length + ys.length ≤ lim then .ok (xs ++ ys) ρ2 else .bad
  | _, _ => .bad
theorem oj_cat {a b : Expr} {fa fb : En → Res D} {pos : Pos} (ha : EJ X Wx S a fa) (hb : EJ X Wx S b fb) : OJ X Wx S (.BinOp a .Add b pos) (oCat fa fb) := by
  obtain ⟨ta, pa, qa⟩ := ha.ex
  obtain ⟨tb, pb, qb⟩ := hb.ex
  refine ⟨_, pe_op op_catL pa pb, fun B F0 F H σ ρ Q st post => ?_⟩
  refine qa B F0 F H σ ρ _ st (post.bind fun d ρ1 v F1 H1 post1 st1 s1 r1 => ?_)
  refine qb B F0 F1 H1 σ ρ1 _ st1 (post1.bind fun e ρ2 u F2 H2 post2 st2 s2 r2 => ?_)
  cases r1 with
  | lst h1 r1 =>
    cases r2 with
    | lst h2 r2 =>
      rename_i a vs ds b ws es
      replace post2 : PostO (fx X S B F0) Wx σ F2 (if ds.length + es.length ≤ lim then .ok (ds ++ es) ρ2 else .bad) Q := post2
      split at post2
      · rename_i hl
        exact ⟨_, _, _, _, rfl, rfl, Same.seqL (s2.trans st2.fz.fH) h1, Same.seqL st2.fz.fH h2, lim_le (by rw [r1.length, r2.length]; exact hl), fun p hp => fresh_lst post2 st2 ((RepL.mono s2 r1).append r2) hp⟩
      · exact post2.elim
    | _ => exact post2.elim
  | _ => exact post2.elim
/-! ### dicts of the module: text keys, tuples of texts and ints -/
structure GD (K : PySem.W.Frag) (w : World) (mg : Str → Option Value) (x : Str) (ents : List (Str × D)) : Prop where
  ex : ∃ (p : Addr) (es : Array DictEntry) (n : Nat), mg x = some (.ref p) ∧ L2.KDict K w p es n ∧
    ∀ z, (ents.lookup z = none ∧ PySem.W.nsIn K p z = some none) ∨ ∃ d u v, ents.lookup z = some d ∧ PySem.W.nsIn K p z = some (some u) ∧ RelV v u ∧ ∀ F, Rep K F v d
def fInG (n : Bool) (ents : List (Str × D)) (f : En → Res D) : En → Res Bool := fun ρ => (f ρ).bind fun d ρ1 => match d with
  | .str z => .ok (nB n (ents.lookup z).isSome) ρ1
  | _ => .bad
def tInG (K : PySem.W.Frag) (n : Bool) (p : Addr) (ty : TE) : TE := fun σ H Q => ty σ H fun y H1 => ∃ (z : Str) (r : Option Value), y = .str z ∧ PySem.W.nsIn K p z = some r ∧ Q (.bl (nB n r.isSome)) H1
theorem ej_inG {op : CmpOp} {n : Bool} {x : Str} {ents : List (Str × D)} {e : Expr} {p2 pos : Pos} {f : En → Res D} (G : GD X.K X.w X.mg x ents) (he : EJ X Wx S e f) (hg : Gl X x := by rfl) (hd : (x == ("__debug__" : Str)) = false := by decide)
    (hop : (op = .In ∧ n = false) ∨ (op = .NotIn ∧ n = true) := by first | exact .inl ⟨rfl, rfl⟩ | exact .inr ⟨rfl, rfl⟩) (hm : behindInMarks op (.Name x p2) = false := by rfl) :
    EJ X Wx S (.Compare e [op] [.Name x p2] pos) (fun ρ => (fInG n ents f ρ).bind fun b ρ1 => .ok (.bl b) ρ1) := by
  obtain ⟨p, es, m, h1, h2, h3⟩ := G.ex
  obtain ⟨t, pe, q⟩ := he.ex
  have pg := pe_glob (X := X) (v := .ref p) (pos := p2) hg h1 rfl hd
  have key : ∀ B F0 F H σ ρ Q, St2 (fx X S B F0) F H σ ρ → Post (Rep X.K) (fx X S B F0) Wx σ F ((fInG n ents f ρ).bind fun b ρ1 => .ok (.bl b) ρ1) Q → t σ H fun y H1 => ∃ (z : Str) (r : Option Value), y = .str z ∧ V.ref p = .ref p ∧ PySem.W.nsIn X.K p z = some r ∧ Q (.bl (nB n r.isSome)) H1 := by
    intro B F0 F H σ ρ Q st post
    unfold fInG at post
    refine q B F0 F H σ ρ _ st ?_
    cases ef : f ρ with
    | bad => rw [ef] at post; exact post
    | exc x ρ1 => rw [ef] at post; exact post
    | ok d ρ1 =>
      rw [ef] at post
      intro v F1 H1 st1 s1 r1
      cases r1 with
      | str z =>
        rcases h3 z with ⟨e1, e2⟩ | ⟨d, u, w, e1, e2, _⟩
        · refine ⟨z, none, rfl, rfl, e2, post _ F1 H1 st1 s1 ?_⟩
          show Rep X.K F1 _ (.bl (nB n (ents.lookup z).isSome))
          rw [e1]
          exact .bl _
        · refine ⟨z, some u, rfl, rfl, e2, post _ F1 H1 st1 s1 ?_⟩
          show Rep X.K F1 _ (.bl (nB n (ents.lookup z).isSome))
          rw [e1]
          exact .bl _
      | _ => exact post.elim
  rcases hop with ⟨rfl, rfl⟩ | ⟨rfl, rfl⟩
  · refine ⟨_, pe_cmpR (op_in_kd h2) pe pg hm, fun B F0 F H σ ρ Q st post => ?_⟩
    exact key B F0 F H σ ρ Q st post
  · refine ⟨_, pe_cmpR (op_notIn_kd h2) pe pg hm, fun B F0 F H σ ρ Q st post => ?_⟩
    exact key B F0 F H σ ρ Q st post
/-- a dict of the module [e] -/
def fSubG (ents : List (Str × D)) (f : En → Res D) : En → Res D := fun ρ => (f ρ).bind fun d ρ1 => match d with
  | .str z => ofO (ents.lookup z) ρ1
  | _ => .bad
theorem ej_subG {x : Str} {ents : List (Str × D)} {e : Expr} {p2 pos : Pos} {f : En → Res D} (G : GD X.K X.w X.mg x ents) (he : EJ X Wx S e f) (hg : Gl X x := by rfl) (hd : (x == ("__debug__" : Str)) = false := by decide) (hs : NoSl e := by intro _ _; rfl) :
    EJ X Wx S (.Subscript (.Name x p2) e pos) (fSubG ents f) := by
  obtain ⟨p, es, m, h1, h2, h3⟩ := G.ex
  obtain ⟨t, pe, q⟩ := he.ex
  have pg := pe_glob (X := X) (v := .ref p) (pos := p2) hg h1 rfl hd
  refine ⟨_, pe_ix ix_kdict pg pe hs, fun B F0 F H σ ρ Q st post => ?_⟩
  unfold fSubG at post
  refine q B F0 F H σ ρ _ st (post.bind fun d ρ1 v F1 H1 post1 st1 s1 r1 => ?_)
  cases r1 with
  | str z =>
    replace post1 : Post (Rep X.K) (fx X S B F0) Wx σ F1 (ofO (ents.lookup z) ρ1) Q := post1
    obtain ⟨d, hd2, k⟩ := post1.ofO
    rcases h3 z with ⟨e1, e2⟩ | ⟨d', u, w, e1, e2, e3, e4⟩
    · rw [e1] at hd2; cases hd2
    · rw [e1] at hd2
      cases hd2
      exact ⟨p, z, w, rfl, rfl, ⟨es, m, u, h2.at_, h2.lit, e2, e3⟩, k _ F1 H1 st1 (Same.refl _) (e4 F1)⟩
  | _ => exact post1.elim
/-! ### constants of classes -/
theorem ej_cval {x f : Str} {C : Addr} {mc u : Value} {v : V} {d : D} {p pos : Pos} (hm : X.mg x = some (.ref C)) (r : CRead X.K C mc) (c : CVal X.K C mc f v u) (hd : ∀ F, Rep X.K F v d) (hg : Gl X x := by rfl) (hdb : (x == ("__debug__" : Str)) = false := by decide)
    (hb : attributeBase (.Name x p) f X.env (eval (.Name x p) X.env) = eval (.Name x p) X.env := by rfl) : EJ X Wx S (.Attribute (.Name x p) f pos) (fC d) :=
  ⟨_, pe_cval (pe_glob (v := .ref C) hg hm rfl hdb) hb, fun _ _ F H _ _ _ st post => ⟨C, mc, v, u, rfl, r, c, post v F H st (Same.refl _) (hd F)⟩⟩
def fCon (n f : Str) (d : D) (fe : En → Res D) : En → Res D := fun ρ => (fe ρ).bind fun e ρ1 => match e with
  | .ins n' fs => if n' = n ∧ (fs.lookup f).isNone then .ok d ρ1 else .bad
  | _ => .bad
theorem ej_con {n f : Str} {C : Addr} {u : Value} {v : V} {d : D} {e : Expr} {pos : Pos} {fe : En → Res D} (c : ClsJ X.K n C) (k : Con X.K C f v u) (hd : ∀ F, Rep X.K F v d) (h : EJ X Wx S e fe)
    (hb : attributeBase e f X.env (eval e X.env) = eval e X.env := by rfl) : EJ X Wx S (.Attribute e f pos) (fCon n f d fe) := by
  obtain ⟨t, p, q⟩ := h.ex
  refine ⟨_, pe_con p hb, fun B F0 F H σ ρ Q st post => q B F0 F H σ ρ _ st (post.bind fun e ρ1 w F1 H1 post1 st1 s1 r1 => ?_)⟩
  split at post1
  · rename_i n' fs
    split at post1
    · rename_i hn
      obtain ⟨rfl, hf⟩ := hn
      cases r1 with
      | ins h1 h2 h3 r =>
        have hC := c.ns
        rw [h3] at hC
        cases hC
        exact ⟨_, _, _, _, v, u, rfl, st1.fz.fH _ _ h1, c.c, k, r.look.1 (Option.isNone_iff_eq_none.mp hf), post1 v F1 H1 st1 (Same.refl _) (hd F1)⟩
    · exact post1.elim
  · exact post1.elim
/-! ### isinstance(instance, class) -/
structure IsI (K : PySem.W.Frag) (C : Addr) : Prop where
  c : Cls K C
  ha : PySem.W.findIn K (.ref C) "__class__" = some (some (.builtin "object.__class__"))
  hn : PySem.W.specialIn K (.builtin "object.__class__") "__get__" = some (some (.builtin "getset_descriptor.__get__"))
  htk : PySem.W.takesIn K (.builtin "object.__class__") = some true
  hm : PySem.W.mroIn K C (.type "object") = some true
def IsT2 (K : PySem.W.Frag) (c : Value) (tbl : Str → Option Bool) : Prop := ∀ n b, tbl n = some b → ∀ C, PySem.W.nsIn K mainGlobals n = some (some (.ref C)) → IsI K C ∧ PySem.W.kitOne K (.ref C) c = some b
def fIsI (tbl : Str → Option Bool) (fe : En → Res D) : En → Res D := fun ρ => (fe ρ).bind fun e ρ1 => match e with
  | .ins n _ => ofO ((tbl n).map D.bl) ρ1
  | _ => .bad
theorem ej_isI {tbl : Str → Option Bool} {cn : Str} {D0 : Addr} {e : Expr} {p p2 pos : Pos} {fe : En → Res D} (T : IsT2 X.K (.ref D0) tbl) (hm : X.mg "isinstance" = none) (hD : X.mg cn = some (.ref D0)) (h : EJ X Wx S e fe) (hg : Gl X "isinstance" := by rfl)
    (hg2 : Gl X cn := by rfl) (hdb : (cn == ("__debug__" : Str)) = false := by decide)
    (he : starEach [e, .Name cn p2] X.env = (false, eval e X.env) :: starEach [.Name cn p2] X.env := by rfl) (he2 : starEach [.Name cn p2] X.env = (false, eval (.Name cn p2) X.env) :: starEach [] X.env := by rfl) (hpl : (backTo pos (starEach [.Name cn p2] X.env)).any (·.1) = false := by rfl) :
    EJ X Wx S (.Call (.Name "isinstance" p) [e, .Name cn p2] [] pos) (fIsI tbl fe) := by
  obtain ⟨t, pe, q⟩ := h.ex
  refine ⟨_, pe_callB call_isi hg hm PyProof.Rows.boot_isinstance (pa_cons pe (pa_cons (pe_glob (v := .ref D0) hg2 hD rfl hdb) pa_nil he2) he) (by decide) (by decide) he hpl, fun B F0 F H σ ρ Q st post => ?_⟩
  unfold fIsI at post
  refine q B F0 F H σ ρ _ st (post.bind fun d ρ1 v F1 H1 post1 st1 s1 r1 => ?_)
  cases r1 with
  | ins h1 h2 h3 r =>
    rename_i a C dx n vs fs
    replace post1 : Post (Rep X.K) (fx X S B F0) Wx σ F1 (ofO ((tbl n).map D.bl) ρ1) Q := post1
    obtain ⟨d, hd2, k⟩ := post1.ofO
    cases et : tbl n with
    | none => rw [et] at hd2; cases hd2
    | some b =>
      rw [et] at hd2
      cases hd2
      obtain ⟨i, ek⟩ := T _ _ et C h3
      exact ⟨_, _, .ref C, .ref D0, b, rfl, .own D0, .base (.ins (st1.fz.fH _ _ h1) i.c i.ha i.hn i.htk i.hm), ek, k _ F1 H1 st1 (Same.refl _) (.bl b)⟩
  | _ => exact post1.elim
end
/-! ### {text: text, ..} -/
def kSS (ents : List (Str × Str)) : List (Key × D) := ents.map fun p => (.inr p.1, .str p.2)
def vSS (ents : List (Str × Str)) : List (Key × V) := ents.map fun p => (.inr p.1, .str p.2)
inductive SS : List (Option Expr) → List Expr → List (Str × Str) → Prop
  | nil : SS [] [] []
  | cons {k v : Str} {j j2 : Nat} {p p2 : Pos} {ks : List (Option Expr)} {vs : List Expr} {es : List (Str × Str)} : SS ks vs es → SS (some (.Constant (.str k) j p) :: ks) (.Constant (.str v) j2 p2 :: vs) ((k, v) :: es)
theorem kSS_rep {K : PySem.W.Frag} {F : Hp} : ∀ (ents : List (Str × Str)), RepK K F (vSS ents) (kSS ents)
  | [] => .nil
  | p :: r => .cons (.str p.2) (kSS_rep r)
theorem SS.len {ks : List (Option Expr)} {vs : List Expr} {es : List (Str × Str)} (h : SS ks vs es) : ks.length = vs.length ∧ ks.length = es.length ∧ ks.all (·.isSome) = true := by
  induction h with
  | nil => exact ⟨rfl, rfl, rfl⟩
  | cons _ ih => exact ⟨by simp [ih.1], by simpa [ih.1] using ih.2.1, by simpa using ih.2.2⟩
theorem SS.pps {X : Cx} {pos : Pos} {ks : List (Option Expr)} {vs : List Expr} {es : List (Str × Str)} (h : SS ks vs es) :
    ∃ trs, PPs X pos ks vs trs ∧ ∀ σ H (Q : List (V × V) → Hp → Prop), Q ((vSS es).map fun kv => (kV kv.1, kv.2)) H → tPairs trs σ H Q := by
  induction h with
  | nil => exact ⟨[], pps_nil, fun σ H Q q => q⟩
  | cons _ ih =>
    obtain ⟨trs, h1, h2⟩ := ih
    exact ⟨_, pps_cons pe_str pe_str h1, fun σ H Q q => h2 σ H _ q⟩
theorem upd_upd {H : Hp} {p : Addr} {a b : HO} : upd (upd H p a) p b = upd H p b := by
  funext q
  by_cases h : q = p
  · subst h
    rw [upd_same, upd_same]
  · rw [upd_ne h, upd_ne h, upd_ne h]
section
variable {X : Cx} {Wx : WX} {S : Sx}
theorem ej_dictSS {ks : List (Option Expr)} {vs : List Expr} {es : List (Str × Str)} {pos : Pos} (h : SS ks vs es) (h0 : ks ≠ [] := by exact List.cons_ne_nil _ _) (h15 : ks.length ≤ 15 := by decide) (hmg : mergeK [] (vSS es) = vSS es := by rfl) : EJ X Wx S (.Dict ks vs pos) (fC (.dic (kSS es))) := by
  obtain ⟨trs, h1, h2⟩ := h.pps (X := X) (pos := pos)
  obtain ⟨l1, l2, l3⟩ := h.len
  refine ⟨_, pe_disp h1 l3 l1 h0 h15, fun B F0 F H σ ρ Q st post p hp => h2 σ _ _ ⟨upd_same, vSS es, rfl, ?_, ?_⟩⟩
  · unfold vSS
    rw [List.length_map, ← l2]
    exact h15
  · rw [hmg, upd_upd]
    have ex := Ext.laid (o := .dK (vSS es)) st.fz.fH hp
    exact post _ _ _ (st.ext ex) ex.ff (.dic upd_same (kSS_rep es))
end
end PD
set_option Elab.async false
set_option linter.all false
set_option maxRecDepth 100000
set_option maxHeartbeats 4000000
/-! PSD: x[::-1] of tuples. -/
namespace HT
open PySem PyProof.Rows
open PySem.SeqAt
open PySem.AutoSeq1 (wpAny_loadPart')
open PySem.MeetsSeq PySem.MeetsSeq2 PySem.MeetsSeq3
section
variable {prog : Program} {w : World} {A : Around} {E : Value → Shared → Prop} {s : Shared}
theorem adjust_rev (n : Nat) : Builtin.Slice.sliceAdjust none none (-1) (n : Int) = ((n : Int) - 1, -1) := by
  unfold Builtin.Slice.sliceAdjust
  simp
theorem places_rev (n : Nat) : Builtin.Slice.slicePlaces ((n : Int) - 1) (-1) (-1) = n := by
  unfold Builtin.Slice.slicePlaces
  have h1 : ¬ ((-1 : Int) > 0) := by omega
  simp only [h1, if_false]
  split
  · have e : - (-1 : Int) = 1 := by omega
    rw [e, Int.ediv_one]
    omega
  · omega
theorem sliceApplied_rev {sl : Addr} {vs : Value} {n : Nat} {Q : Int × Int × Nat → Shared → Prop} (hs : s.heap.IsSliceOf sl .none .none vs) (ps : IsPart vs (some (-1)))
    (h : Q ((n : Int) - 1, -1, n) s) : wpAny (model prog w) A (Builtin.Slice.sliceApplied (.ref sl) (pure (n : Int))) Q E s := by
  obtain ⟨os, hos, hcs, hds⟩ := id hs
  unfold Builtin.Slice.sliceApplied Builtin.Slice.sliceFields
  refine wpAny_bind (wpAny_bind (wpAny_field hos hds (x := .none) rfl (wpAny_bind (wpAny_field hos hds (x := .none) rfl (wpAny_bind (wpAny_field hos hds (x := vs) rfl (wpAny_pure ?_)))))))
  refine wpAny_bind (slicePart_ ps ?_)
  show wpAny _ _ (if ((-1 : Int) == 0) = true then _ else _) _ _ s
  rw [if_neg (by decide)]
  refine wpAny_bind (slicePart_none (wpAny_bind (slicePart_none (wpAny_bind (wpAny_pure ?_)))))
  show wpAny _ _ (match Builtin.Slice.sliceAdjust none none (-1) (n : Int) with | (lo, hi) => pure (lo, (-1 : Int), Builtin.Slice.slicePlaces lo hi (-1))) _ _ s
  rw [adjust_rev n]
  show wpAny _ _ (pure ((n : Int) - 1, (-1 : Int), Builtin.Slice.slicePlaces ((n : Int) - 1) (-1) (-1))) _ _ s
  rw [places_rev]
  exact wpAny_pure h
theorem fm_congr {α β : Type} {f g : α → Option β} : ∀ {l : List α}, (∀ x ∈ l, f x = g x) → l.filterMap f = l.filterMap g
  | [], _ => rfl
  | a :: r, h => by
    rw [List.filterMap_cons, List.filterMap_cons, h a (List.mem_cons_self ..), fm_congr (l := r) fun x hx => h x (List.mem_cons_of_mem _ hx)]
theorem pick_rev (xs : Array Value) : ((List.range xs.size).filterMap fun (m : Nat) => xs[(((xs.size : Int) - 1) + (m : Int) * (-1)).toNat]?).toArray = xs.toList.reverse.toArray := by
  have e : ((List.range xs.size).filterMap fun (m : Nat) => xs[(((xs.size : Int) - 1) + (m : Int) * (-1)).toNat]?) = ((List.range xs.size).map fun k => xs.size - 1 - k).filterMap (xs[·]?) := by
    rw [List.filterMap_map]
    refine fm_congr fun m hm => ?_
    have := List.mem_range.mp hm
    show xs[(((xs.size : Int) - 1) + (m : Int) * (-1)).toNat]? = xs[xs.size - 1 - m]?
    congr 1
    omega
  rw [e, PySem.W.krv_range, List.filterMap_reverse, PySem.W.krv_all]
theorem getItem_tuple_rev {t sl : Addr} {items : Array Value} {vs : Value} {Q : Value → Shared → Prop} (ht : IsTup s.heap t items) (hs : s.heap.IsSliceOf sl .none .none vs) (ps : IsPart vs (some (-1)))
    (h : Q (.ref s.heap.objs.size) { s with heap := s.heap.push { cls := .type "tuple", data := .seq items.toList.reverse.toArray } })
    (hsz : items.size ≤ sizeLine) : wpAny (model prog w) A (getItem (.ref t) (.ref sl)) Q E s := by
  have htake : sizeOk (.seq items.toList.reverse.toArray) := by
    show (items.toList.reverse.toArray).size ≤ sizeLine
    rw [List.size_toArray, List.length_reverse, Array.length_toList]
    omega
  obtain ⟨os, hos, hcs, hds⟩ := id hs
  have hTs : s.TypeIs (.ref sl) "slice" := ⟨os, hos, hcs⟩
  unfold getItem
  try with_reducible refine wpAny_holding ?_
  first | refine wpAny_bind (wpAny_pure ?_) | skip
  refine wpAny_bind (wpAny_sequenceKey ht.typeIs (by decide) ?_)
  refine wpAny_bind (wpAny_callSpecial?_slot (name := Str.ofString "__getitem__") ht.typeIs PyProof.Rows.slot_tuple_getitem
    (wpAny_call_entry PyProof.Rows.slot_tuple_getitem ht.typeIs entry_tuple_getitem ?_ (args_tuple_getitem _ _)))
  show wpAny _ _ (Builtin.Tuple.tupleItemsOf (.ref t) >>= _) _ _ s
  refine wpAny_bind (tupleItemsOf_ ht ?_)
  refine wpAny_bind (wpAny_typeOf hTs ?_)
  rw [if_pos (by decide)]
  refine wpAny_bind (sliceApplied_rev hs ps ?_)
  have hno : ¬ ((((items.size : Int) - 1) == 0 && (-1 : Int) == 1 && items.size == items.size) = true) := by
    intro q
    rw [Bool.and_eq_true, Bool.and_eq_true] at q
    exact absurd q.1.2 (by decide)
  show wpAny _ _ (if (((items.size : Int) - 1) == 0 && (-1 : Int) == 1 && items.size == items.size) = true then _ else _) _ _ s
  rw [if_neg hno, pick_rev]
  first
    | exact wpAny_bind (m := Builtin.Tuple.tupleExact _) (wpAny_newObj_type (wpAny_pure ⟨_, rfl, wpAny_pure h⟩) htake)
    | exact wpAny_bind (m := Builtin.Tuple.tupleExact _) (wpAny_newObj_type (wpAny_bind (wpAny_pure (wpAny_pure ⟨_, rfl, wpAny_pure h⟩))) htake)
    | exact wpAny_bind (wpAny_bind (m := Builtin.Tuple.tupleExact _) (wpAny_newObj_type (wpAny_pure (wpAny_pure ⟨_, rfl, wpAny_pure h⟩)) htake))
    | exact wpAny_bind (wpAny_bind (m := Builtin.Tuple.tupleExact _) (wpAny_newObj_type (wpAny_pure ⟨_, rfl, wpAny_pure h⟩) htake))
end
end HT
namespace PD
open PySem PySem.Spec L2 PyProof.Rows
def tRevT (K : PySem.W.Frag) (te : TE) : TE := fun σ H Q => te σ H fun x H1 => ∃ a xs, x = .ref a ∧ SqT K H1 a xs ∧ ∀ p, H1 p = none → Q (.ref p) (upd H1 p (.tup xs.reverse))
theorem pe_revT {X : Cx} {e : Expr} {te : TE} {k : Nat} {p1 p2 p3 pos : Pos} (he : PE X e te) : PE X (.Subscript e (.Slice none none (some (.UnaryOp .USub (.Constant (.int 1) k p1) p2)) p3) pos) (tRevT X.K te) := by
  refine ⟨fun pins s σ H Q I h => ?_⟩
  refine Subscript_ (thn (he.run pins s σ H _ I h) fun v s1 ⟨x, H1, I1, r1, q1⟩ => ?_)
  obtain ⟨a, xs, ex, hx, q⟩ := q1
  subst ex
  cases r1
  have hst : PO X (some (.UnaryOp .USub (.Constant (.int 1) k p1) p2)) (tPart (tUn (rU fun i => .int (-i)) (tC (.int 1)))) := po_some (pe_un un_neg pe_int)
  refine wpAny_Slice (thn (po_none.run pins s1 σ H1 (fun o H2 => o = none ∧ H2 = H1) I1 ⟨rfl, rfl⟩) fun vl s2 ⟨l, H2, I2, pl, el, e2⟩ => ?_)
  subst el e2
  refine thn (po_none.run pins s2 σ H2 (fun o H3 => o = none ∧ H3 = H2) I2 ⟨rfl, rfl⟩) fun vu s3 ⟨u, H3, I3, pu, eu, e3⟩ => ?_
  subst eu e3
  refine thn (hst.run pins s3 σ H3 (fun o H4 => o = some (-1) ∧ H4 = H3) I3 ⟨1, rfl, -1, rfl, rfl, rfl⟩) fun vs s4 ⟨o, H4, I4, ps, eo, e4⟩ => ?_
  subst eo e4
  have I5 : Inv X pins σ H4 { s4 with heap := s4.heap.push { cls := .type "slice", data := .fields #[vl, vu, vs] } } := I4.kept (t' := s4.toks) fun b ob q => Heap.get?_push_of_some _ q
  obtain ⟨its, r, ht, hz⟩ := I5.tuple hx
  have hlen := r.length
  cases pl
  cases pu
  show wpAny (model X.prog X.w) X.A (subscriptTail e (.Slice none none (some (.UnaryOp .USub (.Constant (.int 1) k p1) p2)) p3) (.ref a) (.ref s4.heap.objs.size)) (EP X pins σ Q) X.xe { s4 with heap := s4.heap.push { cls := .type "slice", data := .fields #[.none, .none, vs] } }
  refine tail_any (ops := [.ref a, .ref s4.heap.objs.size]) ht.typeIs (PyProof.Rows.slot_tuple_getitem.lookup) ?_ (by with_unfolding_all rfl)
  refine HT.getItem_tuple_rev ht (Heap.IsSliceOf.new _ .none .none vs) ps ?_ (by rw [List.size_toArray]; omega)
  refine ⟨.ref _, _, I5.laid (t' := s4.toks) (o := .tup xs.reverse) (fun b ob q => Heap.get?_push_of_some _ q) (Nat.le_refl _) ?_, rfl, q _ (I5.hok.fresh (Nat.le_refl _))⟩
  exact ⟨by rw [List.length_reverse]; exact hz, _, r.reverse, IsTup.new _ _⟩
section
variable {X : Cx} {Wx : WX} {S : Sx}
def fRevT (f : En → Res D) : En → Res D := fun ρ => (f ρ).bind fun d ρ1 => match d with
  | .tup xs => .ok (.tup xs.reverse) ρ1
  | _ => .bad
theorem ej_revT {e : Expr} {k : Nat} {p1 p2 p3 pos : Pos} {f : En → Res D} (he : EJ X Wx S e f) : EJ X Wx S (.Subscript e (.Slice none none (some (.UnaryOp .USub (.Constant (.int 1) k p1) p2)) p3) pos) (fRevT f) := by
  obtain ⟨t, p, q⟩ := he.ex
  refine ⟨_, pe_revT p, fun B F0 F H σ ρ Q st post => q B F0 F H σ ρ _ st (post.bind fun d ρ1 v F1 H1 post1 st1 s1 r1 => ?_)⟩
  cases r1 <;> (try (exact post1.elim))
  rename_i a vs ds h1 h2
  refine ⟨a, vs, rfl, Same.seqT st1.fz.fH h1, fun r hr => ?_⟩
  have ex := Ext.laid (o := .tup vs.reverse) st1.fz.fH hr
  exact post1 _ _ _ (st1.ext ex) ex.ff (.tup (.inl (.inl upd_same)) (h2.reverse.mono ex.ff))
end
end PD
set_option Elab.async false
set_option linter.all false
set_option maxRecDepth 100000
set_option maxHeartbeats 4000000
/-! PSE: the facts behind dicts of the module and classes with a base. -/
namespace PD
open PySem PySem.Spec L2
inductive GE (K : PySem.W.Frag) (P : Params) : List DictEntry → List (Str × D) → Prop
  | nil : GE K P [] []
  | cons {x : Str} {t : Tok} {a : Addr} {od : Option Addr} {us : List Value} {n : Nat} {sl : Array (Option Value)} {ds : List D} {es : List DictEntry} {ents : List (Str × D)} : K.lookup a = some ⟨.type "tuple", od, .seq us.toArray n, sl⟩ → LitVs us ds → ds.length ≤ 1000 → GE K P es ents →
      GE K P (⟨PyData.keyHash P x, .str x t, .ref a⟩ :: es) ((x, .tup ds) :: ents)
theorem GE.lit {K : PySem.W.Frag} {P : Params} {es : List DictEntry} {ents : List (Str × D)} (h : GE K P es ents) : PySem.W.KeysLit P es := by
  induction h with
  | nil => trivial
  | cons _ _ _ _ ih => exact ⟨⟨_, _, rfl, rfl⟩, ih⟩
theorem GE.ref {K : PySem.W.Frag} {P : Params} {es : List DictEntry} {ents : List (Str × D)} (h : GE K P es ents) : es.any (·.refKey) = false := by
  induction h with
  | nil => rfl
  | cons _ _ _ _ ih => rw [List.any_cons, ih]; rfl
theorem GE.find {K : PySem.W.Frag} {P : Params} {es : List DictEntry} {ents : List (Str × D)} (h : GE K P es ents) (z : Str) :
    (ents.lookup z = none ∧ es.find? (·.key.isStr z) = none) ∨ ∃ d e v, ents.lookup z = some d ∧ es.find? (·.key.isStr z) = some e ∧ RelV v e.val ∧ ∀ F, Rep K F v d := by
  induction h with
  | nil => exact .inl ⟨rfl, rfl⟩
  | @cons x t a od us n sl ds es ents h1 h2 h3 _ ih =>
    by_cases e : x = z
    · subst e
      obtain ⟨vs, h4, h5⟩ := LitVs.rep (K := K) h2
      refine .inr ⟨.tup ds, ⟨PyData.keyHash P x, .str x t, .ref a⟩, .ref a, by simp, ?_, rfl, fun F => .tup (.inr ⟨_, us.toArray, n, h1, rfl, rfl, ?_, by simpa using h4⟩) (h5 F)⟩
      · rw [List.find?_cons]
        simp [Value.isStr]
      · have e1 := h4.length
        have e2 := (h5 F).length
        rw [List.size_toArray, ← e1, e2]
        exact Nat.le_trans h3 (by decide)
    · have hb : (x == z) = false := by simpa using e
      have hb2 : (z == x) = false := by simpa using fun w => e w.symm
      have q1 : List.find? (fun y => y.key.isStr z) (⟨PyData.keyHash P x, .str x t, .ref a⟩ :: es) = es.find? (·.key.isStr z) := by
        rw [List.find?_cons]
        simp [Value.isStr, hb]
      rw [List.lookup_cons, hb2, q1]
      exact ih
theorem gd_of {K : PySem.W.Frag} {w : World} {mg : Str → Option Value} {x : Str} {p : Addr} {es : Array DictEntry} {n : Nat} {ents : List (Str × D)} (hm : mg x = some (.ref p)) (hl : K.lookup p = some ⟨.type "dict", none, .dict es n, #[]⟩) (hs : (p == sysModules) = false) (h : GE K w.params es.toList ents) : GD K w mg x ents := by
  refine ⟨p, es, n, hm, ⟨hl, h.lit, hs⟩, fun z => ?_⟩
  unfold PySem.W.nsIn
  rw [hl]
  rcases h.find z with ⟨h1, h2⟩ | ⟨d, e, v, h1, h2, h3, h4⟩
  · refine .inl ⟨h1, ?_⟩
    show (match es.toList.find? (·.key.isStr z) with
      | some e => some (some e.val)
      | none => if es.toList.any (·.refKey) then none else some none) = some none
    rw [h2, h.ref]
    rfl
  · refine .inr ⟨d, e.val, v, h1, ?_, h3, h4⟩
    show (match es.toList.find? (·.key.isStr z) with
      | some e => some (some e.val)
      | none => if es.toList.any (·.refKey) then none else some none) = some (some e.val)
    rw [h2]
/-- a def of a class with a base: it holds the class's cell -/
structure SupD (P : Program) (K : PySem.W.Frag) (mg : Str → Option Value) (qual : Str) (params : Arguments) (bd : List Stmt) (sc : Scope) (C g f : Addr) (fd : FuncData) : Prop where
  ex : ∃ (oc : Value) (od : Option Addr) (kV doc pm : Value) (an : Option Addr) (cda : Addr) (ct : Value) (cc : Addr) (osl : Array (Option Value)), fd = PySem.W.ksFn "__init__" qual params bd sc .none kV doc pm an (.ref cda) ct cc ∧ K.lookup f = some ⟨oc, od, .func fd, osl⟩ ∧ PySem.W.codeIn K (.ref cda) qual = true ∧ SupC P K mg cda cc C g
theorem SupD.bnd {P : Program} {K : PySem.W.Frag} {mg : Str → Option Value} {qual : Str} {params : Arguments} {bd : List Stmt} {sc : Scope} {C g f : Addr} {fd : FuncData} {ps : List Str} (h : SupD P K mg qual params bd sc C g f fd)
    (hb : ∀ (kV doc pm : Value) (an : Option Addr) (cda : Addr) (ct : Value) (cc : Addr) (us : List Value), us.length = ps.length → bindArgs (PySem.W.ksFn "__init__" qual params bd sc .none kV doc pm an (.ref cda) ct cc) ⟨us, []⟩ = pure (ps.zip us)) : ∃ us, DfJ K us [] ∧ Binds K fd ps us := by
  obtain ⟨oc, od, kV, doc, pm, an, cda, ct, cc, osl, rfl, _⟩ := h.ex
  exact ⟨[], ⟨[], .nil, fun F => .nil⟩, Binds.all fun us hl => hb kV doc pm an cda ct cc us hl⟩
theorem inS_ofSupD {P : Program} {w : World} {K : PySem.W.Frag} {mg : Str → Option Value} {base : Heap} {k : Nat} {f C g : Addr} {fd : FuncData} {qual n : Str} {params : Arguments} {rest : List Stmt} {scope : Scope} {N ps gps : List Str} {gfd : FuncData} {ds : List Value} {dd : List D}
    {p1 p2 p3 p5 p6 : Pos} {e : Expr} {es : List Expr} {ar : Arg} {den0 : List Sl → IR} {fa : En → Res (List Sl)} {body : En → Fl}
    (Sd : SupD P K mg qual params (.Expr (.Call (.Attribute (.Call (.Name "super" p1) [] [] p2) "__init__" p3) (e :: es) [] p5) p6 :: rest) scope C g f fd) (S : SupScope N ps scope)
    (c : ClsJ K n C) (hpar : (params.posonlyargs ++ params.args).head? = some ar) (har : ar.arg = "self") (hps : ps[0]? = some ("self" : Str))
    (hev : ∀ env, ∃ pl, eval (.Call (.Attribute (.Call (.Name "super" p1) [] [] p2) "__init__" p3) (e :: es) [] p5) env = (do
      let ov ← attributeBase (.Call (.Name "super" p1) [] [] p2) "__init__" env (eval (.Call (.Name "super" p1) [] [] p2) env)
      standAt p3.atName
      let (f, first) ← holding [ov] (getMethod ov "__init__" pl)
      callWith p5 f first (backTo p5 (starEach (e :: es) env)) []))
    (hstar : ∀ env, starEach (e :: es) env = (false, eval e env) :: starEach es env) (hplain : ∀ env, (backTo p5 (starEach es env)).any (·.1) = false)
    (G : InS P w K mg base k g gfd gps den0) (hbg : Binds K gfd gps ds) (hd : DfJ K ds dd) (hlen : ∀ as, den0 as ≠ .bad → as.length = gps.length)
    (hb : ∀ (cda cc : Addr) (me : V) (L : Hp) (A : Around) (outer : List Env) (s : Shared) (H : Hp) (E : XK), Room k (A.deeper (PySem.W.ksEnv qual scope s.heap.objs.size f (.ref cda) cc)) →
      LAJ (cxS (L2.CX P w) P w K mg base N qual scope f (.ref cda) cc A outer s H E) (wE E) (SL (some me) L) (e :: es) fa ∧ BJ (cxS (L2.CX P w) P w K mg base N qual scope f (.ref cda) cc A outer s H E) (wE E) (SL (some me) L) rest body) :
    InS P w K mg base (k + 1) f fd ps (inS ps.length N.length (bSup n den0 fa dd body)) := by
  obtain ⟨oc, od, kV, doc, pm, an, cda, ct, cc, osl, rfl, lk, hc, sc⟩ := Sd.ex
  exact inS_ofSup lk hc S sc c hpar har hps hev hstar hplain G hbg hd hlen (hb cda cc)
theorem ist2_nil {K : PySem.W.Frag} {c : Value} : IsT2 K c (fun n => List.lookup n []) := fun n b h => by cases h
theorem ist2_cons {K : PySem.W.Frag} {c : Value} {m : Str} {v : Bool} {C : Addr} {l : List (Str × Bool)} (hm : PySem.W.nsIn K mainGlobals m = some (some (.ref C))) (i : IsI K C) (e : PySem.W.kitOne K (.ref C) c = some v) (r : IsT2 K c (fun n => List.lookup n l)) : IsT2 K c (fun n => List.lookup n ((m, v) :: l)) := by
  intro n b h C' hC
  replace h : List.lookup n ((m, v) :: l) = some b := h
  rw [List.lookup_cons] at h
  by_cases hn : n = m
  · subst hn
    simp at h
    subst h
    rw [hm] at hC
    cases hC
    exact ⟨i, e⟩
  · have hb : (n == m) = false := by simpa using hn
    rw [hb] at h
    exact r n b h C' hC
theorem sup_free (sc : Scope) (h : ∀ y ∈ sc.names, y.2 = .free → y.1 = ("__class__" : Str)) : ∀ x : Str, sc.names.lookup x = some .free → x = "__class__" := by
  intro x hx
  have : ∀ (l : List (Str × NameKind)), l.lookup x = some NameKind.free → (x, NameKind.free) ∈ l := by
    intro l
    induction l with
    | nil => intro e; cases e
    | cons p r ih =>
      intro e
      rw [List.lookup_cons] at e
      by_cases hp : x = p.1
      · rw [show (x == p.1) = true by simpa using hp] at e
        have e2 := Option.some.inj e
        subst hp
        have : p = (p.1, NameKind.free) := by rw [← e2]
        rw [← this]
        exact List.mem_cons_self ..
      · rw [show (x == p.1) = false by simpa using hp] at e
        exact List.mem_cons_of_mem _ (ih e)
  exact h _ (this _ hx) rfl
def fInGV (n : Bool) (ents : List (Str × D)) (f : En → Res D) : En → Res D := fun ρ => (fInG n ents f ρ).bind fun b ρ1 => .ok (.bl b) ρ1
section
variable {X : Cx} {Wx : WX} {S : Sx}
theorem tj_inG {op : CmpOp} {n : Bool} {x : Str} {ents : List (Str × D)} {e : Expr} {p2 pos : Pos} {f : En → Res D} (G : GD X.K X.w X.mg x ents) (he : EJ X Wx S e f) (hg : Gl X x := by rfl) (hd : (x == ("__debug__" : Str)) = false := by decide)
    (hop : (op = .In ∧ n = false) ∨ (op = .NotIn ∧ n = true) := by first | exact .inl ⟨rfl, rfl⟩ | exact .inr ⟨rfl, rfl⟩) (hm : behindInMarks op (.Name x p2) = false := by rfl) :
    TJ X Wx S (.Compare e [op] [.Name x p2] pos) (fInG n ents f) := by
  obtain ⟨p, es, m, h1, h2, h3⟩ := G.ex
  obtain ⟨t, pe, q⟩ := he.ex
  have pg := pe_glob (X := X) (v := .ref p) (pos := p2) hg h1 rfl hd
  have key : ∀ B F0 F H σ ρ Q, St2 (fx X S B F0) F H σ ρ → Post (fun _ k b => k = b) (fx X S B F0) Wx σ F (fInG n ents f ρ) Q → t σ H fun y H1 => ∃ (z : Str) (r : Option Value), y = .str z ∧ V.ref p = .ref p ∧ PySem.W.nsIn X.K p z = some r ∧ ∃ k, V.bl (nB n r.isSome) = .bl k ∧ Q k H1 := by
    intro B F0 F H σ ρ Q st post
    unfold fInG at post
    refine q B F0 F H σ ρ _ st ?_
    cases ef : f ρ with
    | bad => rw [ef] at post; exact post
    | exc x ρ1 => rw [ef] at post; exact post
    | ok d ρ1 =>
      rw [ef] at post
      intro v F1 H1 st1 s1 r1
      cases r1 with
      | str z =>
        rcases h3 z with ⟨e1, e2⟩ | ⟨d, u, w, e1, e2, _⟩
        · refine ⟨z, none, rfl, rfl, e2, _, rfl, post _ F1 H1 st1 s1 ?_⟩
          show nB n _ = nB n (ents.lookup z).isSome
          rw [e1]
          rfl
        · refine ⟨z, some u, rfl, rfl, e2, _, rfl, post _ F1 H1 st1 s1 ?_⟩
          show nB n _ = nB n (ents.lookup z).isSome
          rw [e1]
          rfl
      | _ => exact post.elim
  rcases hop with ⟨rfl, rfl⟩ | ⟨rfl, rfl⟩
  · refine ⟨_, pt_cmpR (op_in_kd h2) pe pg hm, fun B F0 F H σ ρ Q st post => ?_⟩
    exact key B F0 F H σ ρ Q st post
  · refine ⟨_, pt_cmpR (op_notIn_kd h2) pe pg hm, fun B F0 F H σ ρ Q st post => ?_⟩
    exact key B F0 F H σ ρ Q st post
def fRev (f : En → Res D) : En → Res D := fun ρ => (f ρ).bind fun d ρ1 => match d with
  | .lst xs => .ok (.lst xs.reverse) ρ1
  | .tup xs => .ok (.tup xs.reverse) ρ1
  | _ => .bad
theorem PE.or2 {e : Expr} {t1 t2 : TE} (h1 : PE X e t1) (h2 : PE X e t2) : PE X e (fun σ H Q => t1 σ H Q ∨ t2 σ H Q) := ⟨fun pins s σ H Q I h => h.elim (fun q => h1.run pins s σ H Q I q) (fun q => h2.run pins s σ H Q I q)⟩
theorem ej_rev {e : Expr} {k : Nat} {p1 p2 p3 pos : Pos} {f : En → Res D} (he : EJ X Wx S e f) : EJ X Wx S (.Subscript e (.Slice none none (some (.UnaryOp .USub (.Constant (.int 1) k p1) p2)) p3) pos) (fRev f) := by
  obtain ⟨t1, h1, q1⟩ := (ej_revL (k := k) (p1 := p1) (p2 := p2) (p3 := p3) (pos := pos) he).ex
  obtain ⟨t2, h2, q2⟩ := (ej_revT (k := k) (p1 := p1) (p2 := p2) (p3 := p3) (pos := pos) he).ex
  refine ⟨_, PE.or2 h1 h2, fun B F0 F H σ ρ Q st post => ?_⟩
  unfold fRev at post
  cases ef : f ρ with
  | bad => rw [ef] at post; exact post.elim
  | exc x ρ1 =>
    rw [ef] at post
    refine .inl (q1 B F0 F H σ ρ Q st ?_)
    unfold fRevL
    rw [ef]
    exact post
  | ok d ρ1 =>
    rw [ef, Res.bind_ok] at post
    cases d with
    | lst xs =>
      refine .inl (q1 B F0 F H σ ρ Q st ?_)
      unfold fRevL
      rw [ef]
      exact post
    | tup xs =>
      refine .inr (q2 B F0 F H σ ρ Q st ?_)
      unfold fRevT
      rw [ef]
      exact post
    | _ => exact post.elim
end
end PD
set_option Elab.async false
set_option linter.all false
set_option maxRecDepth 100000
set_option maxHeartbeats 4000000
/-! PV: plain readings: loops by invariants. -/
namespace PD
open PySem PySem.Spec L2
theorem forD_nil (g : D → En → Fl) (f : En → Fl) (ρ : En) : forD g f [] ρ = .nx ρ := rfl
theorem forD_cons (g : D → En → Fl) (f : En → Fl) (d : D) (r : List D) (ρ : En) : forD g f (d :: r) ρ = (match (g d ρ).seq f with
    | .nx ρ2 => forD g f r ρ2
    | .ct ρ2 => forD g f r ρ2
    | .bk ρ2 => .nx ρ2
    | z => z) := rfl
theorem seq_bNil (r : Fl) : r.seq bNil = r := by cases r <;> rfl
theorem Fl.seq_assoc (r : Fl) (f g : En → Fl) : (r.seq f).seq g = r.seq fun ρ => (f ρ).seq g := by cases r <;> rfl
theorem fnD_app {np n : Nat} {body : En → Fl} {ds : List D} (h : ds.length = np) : fnD np n body ds = (body (startE n ds)).fin := if_pos h
theorem bSeq_app (f g : En → Fl) (ρ : En) : bSeq f g ρ = (f ρ).seq g := rfl
theorem bSeq_assoc (f g h : En → Fl) : bSeq f (bSeq g h) = bSeq (bSeq f g) h := by
  funext ρ
  show (f ρ).seq (fun ρ => (g ρ).seq h) = ((f ρ).seq g).seq h
  rw [Fl.seq_assoc]
theorem seq_bSeq (r : Fl) (f g : En → Fl) : r.seq (bSeq f g) = (r.seq f).seq g := (Fl.seq_assoc r f g).symm
/-- a loop that runs through or ends by return, by an invariant -/
theorem forD_inv {g : D → En → Fl} {f : En → Fl} (P : Nat → En → Prop) (Z : Fl → Prop) : ∀ (ds : List D) (k : Nat) (ρ : En),
    (∀ i d ρ, ds[i]? = some d → P (k + i) ρ → (∃ ρ', ((g d ρ).seq f = .nx ρ' ∨ (g d ρ).seq f = .ct ρ') ∧ P (k + i + 1) ρ') ∨ ((∃ v, (g d ρ).seq f = .rt v) ∧ Z ((g d ρ).seq f)) ∨ ((∃ x ρ', (g d ρ).seq f = .exc x ρ') ∧ Z ((g d ρ).seq f))) → P k ρ →
    (∃ ρ', forD g f ds ρ = .nx ρ' ∧ P (k + ds.length) ρ') ∨ Z (forD g f ds ρ)
  | [], k, ρ, _, h0 => .inl ⟨ρ, rfl, h0⟩
  | d :: r, k, ρ, h, h0 => by
    rw [forD_cons]
    rcases h 0 d ρ rfl h0 with ⟨ρ', e, h1⟩ | ⟨⟨v, e⟩, hz⟩ | ⟨⟨x, ρ', e⟩, hz⟩
    · have ih := forD_inv (g := g) (f := f) P Z r (k + 1) ρ' (fun i d' ρ2 hd hp => by
        have e1 : k + 1 + i = k + (i + 1) := by omega
        rw [e1] at hp ⊢
        exact h (i + 1) d' ρ2 (by simpa using hd) hp) h1
      have e2 : k + (d :: r).length = k + 1 + r.length := by rw [List.length_cons]; omega
      rw [e2]
      rcases e with e | e <;> rw [e] <;> exact ih
    · rw [e] at hz ⊢
      exact .inr hz
    · rw [e] at hz ⊢
      exact .inr hz
/-- a loop that runs through -/
theorem forD_thru {g : D → En → Fl} {f : En → Fl} (P : Nat → En → Prop) {ds : List D} {ρ : En} (h : ∀ i d ρ, ds[i]? = some d → P i ρ → ∃ ρ', ((g d ρ).seq f = .nx ρ' ∨ (g d ρ).seq f = .ct ρ') ∧ P (i + 1) ρ') (h0 : P 0 ρ) :
    ∃ ρ', forD g f ds ρ = .nx ρ' ∧ P ds.length ρ' := by
  have := forD_inv (g := g) (f := f) P (fun _ => False) ds 0 ρ (fun i d ρ hd hp => by
    rw [Nat.zero_add] at hp ⊢
    exact .inl (h i d ρ hd hp)) h0
  rw [Nat.zero_add] at this
  rcases this with h | h
  · exact h
  · exact h.elim
theorem dRange_inv {lo : Int} {n i : Nat} {d : D} (h : (dRange lo n)[i]? = some d) : i < n ∧ d = .int (lo + (i : Nat)) := by
  unfold dRange at h
  rw [List.getElem?_map] at h
  cases e : (List.range n)[i]? with
  | none => rw [e] at h; cases h
  | some j =>
    rw [e] at h
    cases h
    obtain ⟨h1, h2⟩ := List.getElem?_eq_some_iff.mp e
    rw [List.getElem_range] at h2
    subst h2
    exact ⟨by simpa using h1, rfl⟩
theorem dRange_inv0 {n i : Nat} {d : D} (h : (dRange 0 n)[i]? = some d) : i < n ∧ d = .int (i : Nat) := by
  obtain ⟨h1, h2⟩ := dRange_inv h
  rw [Int.zero_add] at h2
  exact ⟨h1, h2⟩
/-- ints as data -/
abbrev IL (ns : List Int) : D := .lst (ns.map D.int)
theorem atI_nat {α : Type} {xs : List α} {i : Nat} (h : i < xs.length) : atI xs (i : Int) = some xs[i] := by
  unfold atI ixN
  rw [if_pos (by omega), if_pos (by omega)]
  simp [h]
theorem subD_int {ns : List Int} {i : Int} (h0 : 0 ≤ i) (h1 : i < ns.length) : ∃ x, x ∈ ns ∧ subD (.lst (ns.map D.int)) (.int i) = some (.int x) := by
  obtain ⟨j, rfl⟩ : ∃ j : Nat, i = (j : Int) := ⟨i.toNat, by omega⟩
  have hj : j < ns.length := by omega
  refine ⟨ns[j], List.getElem_mem hj, ?_⟩
  show atI (ns.map D.int) (j : Int) = _
  rw [atI_nat (by simpa using hj)]
  simp
/-- the drawn row: ints from 0 to 996 -/
def rowLoop : En → Fl := (bSeq (sAsg (fVar 5) (setD 6)) (bSeq (sIf (fTst boolD (fBin gtD (fLenN 0) (fC (.int 0)))) (bSeq (sAsg (fLate 0 subD (fBin modI (fBlt intL (aCons (fVar 5) aNil)) (fBlt minL (aCons (fLenN 0) (aCons (fC (.int 63)) aNil))))) (setD 6)) bNil) bNil) (bSeq (sAsg (fBin modI (fBlt intL (aCons (fBin addD (fBin addD (fBin mulD (fVar 4) (fC (.int 48271))) (fBin mulD (fBin modI (fBlt intL (aCons (fVar 6) aNil)) (fC (.int 1000003))) (fC (.int 69621)))) (fBin mulD (fVar 5) (fC (.int 7907)))) aNil)) (fC (.int 2147483647))) (setD 4)) (bSeq (sIf (fTst boolD (fBin gtD (fVar 2) (fC (.int 0)))) (bSeq (sApp 3 (fBin modI (fBlt intL (aCons (fVar 2) aNil)) (fC (.int 997)))) (bSeq (sAsg (fBin fdivI (fVar 2) (fC (.int 997))) (setD 2)) bNil)) (bSeq (sApp 3 (fBin modI (fBlt intL (aCons (fBin fdivI (fVar 4) (fC (.int 11))) aNil)) (fC (.int 997)))) bNil)) bNil))))
def rowBody : En → Fl := (bSeq (sAsg (fC (.int 0)) (setD 2)) (bSeq (sIf (fAnd (fTst boolD (fBin gtD (fLenN 0) (fC (.int 0)))) (fTst boolD (fBin geD (fLate 0 subD (fC (.int 0))) (fBin powI (fC (.int 10)) (fC (.int 18)))))) (bSeq (sAsg (fLate 0 subD (fC (.int 0))) (setD 2)) bNil) bNil) (bSeq (sAsgO (oLst aNil) 3) (bSeq (sAsg (fC (.int 12345)) (setD 4)) (bSeq (sFor (iRange1 (aCons (fVar 1) aNil)) (setD 5) rowLoop) (bSeq (sRet (fVar 3)) bNil))))))
def rowP (ns : List Int) (many : Int) (i : Nat) (ρ : En) : Prop := ∃ (rest : Int) (row : List Int) (mixed : Int) (x5 x6 : Sl), ρ = [.d (.lst (ns.map D.int)), .d (.int many), .d (.int rest), .own (row.map D.int), .d (.int mixed), x5, x6] ∧ row.length = i ∧ ∀ r ∈ row, 0 ≤ r ∧ r < 997
theorem okM_r (i : Int) {j : Int} (h : j.natAbs < 2 ^ 64) : okM i j = true := by
  unfold okM
  rw [decide_eq_true h, Bool.or_true]
theorem mulD_ii {i j : Int} (h : j.natAbs < 2 ^ 64) : mulD (.int i) (.int j) = some (.int (i * j)) := by
  show (if okM i j = true then some (D.int (i * j)) else none) = _
  rw [if_pos (okM_r i h)]
theorem row_step {ns : List Int} {many : Int} {i : Nat} {j : Int} {ρ : En} (hi : i < 100000) (h : rowP ns many i ρ) : ∃ ρ', (((setD 5 (.int j) ρ).seq rowLoop = .nx ρ') ∨ (setD 5 (.int j) ρ).seq rowLoop = .ct ρ') ∧ rowP ns many (i + 1) ρ' := by
  obtain ⟨rest, row, mixed, x5, x6, rfl, hl, hr⟩ := h
  have e48 : ∀ i : Int, mulD (.int i) (.int 48271) = some (.int (i * 48271)) := fun i => mulD_ii (by decide)
  have e69 : ∀ i : Int, mulD (.int i) (.int 69621) = some (.int (i * 69621)) := fun i => mulD_ii (by decide)
  have e79 : ∀ i : Int, mulD (.int i) (.int 7907) = some (.int (i * 7907)) := fun i => mulD_ii (by decide)
  have hlim : row.length < lim := by rw [hl]; exact Nat.lt_of_lt_of_le hi (by decide)
  have hm : ∃ cell : Int, (bSeq (sAsg (fVar 5) (setD 6)) (sIf (fTst boolD (fBin gtD (fLenN 0) (fC (.int 0)))) (bSeq (sAsg (fLate 0 subD (fBin modI (fBlt intL (aCons (fVar 5) aNil)) (fBlt minL (aCons (fLenN 0) (aCons (fC (.int 63)) aNil))))) (setD 6)) bNil) bNil)) [.d (.lst (ns.map D.int)), .d (.int many), .d (.int rest), .own (row.map D.int), .d (.int mixed), .d (.int j), x6] =
      .nx [.d (.lst (ns.map D.int)), .d (.int many), .d (.int rest), .own (row.map D.int), .d (.int mixed), .d (.int j), .d (.int cell)] := by
    by_cases hn : 0 < ns.length
    · have hmin : minL [.int (ns.length : Nat), .int 63] = some (.int (if (63 : Int) < (ns.length : Nat) then 63 else (ns.length : Nat))) := rfl
      generalize hg : (if (63 : Int) < (ns.length : Nat) then (63 : Int) else (ns.length : Nat)) = m at hmin
      have hm0 : 0 < m := by split at hg <;> omega
      have hm1 : m ≤ ns.length := by split at hg <;> omega
      have h1 := Int.emod_nonneg j (b := m) (by omega)
      have h2 := Int.emod_lt_of_pos j hm0
      obtain ⟨x, hx, hs⟩ := subD_int h1 (Int.lt_of_lt_of_le h2 hm1)
      exact ⟨x, by simp [seq_bNil, bSeq, bNil, sAsg, sAsgO, setO, setD, sIf, sRet, sDrop, sFor, sApp, fC, fVar, fBin, fLate, slotD, fTst, boolD, fAnd, fOr, fNot, fUn, negD, fIf, fBlt, fLenN, fTup, fO, oLst, aNil, aCons, fSl, pNone, pSome, intD, fPop, ownAt, iSeq, iRange1, iRange2, iEnum1, addD, subI, modI, fdivI, cmpI, ltD, leD, gtD, geD, lenOf, lenL, intL, gUn, tsCons, tsNil, List.getElem?_cons_zero, List.getElem?_cons_succ, List.set_cons_zero, List.set_cons_succ, List.length_cons, List.length_nil, hn, hmin, hm0, hs]⟩
    · exact ⟨j, by simp [seq_bNil, bSeq, bNil, sAsg, sAsgO, setO, setD, sIf, sRet, sDrop, sFor, sApp, fC, fVar, fBin, fLate, slotD, fTst, boolD, fAnd, fOr, fNot, fUn, negD, fIf, fBlt, fLenN, fTup, fO, oLst, aNil, aCons, fSl, pNone, pSome, intD, fPop, ownAt, iSeq, iRange1, iRange2, iEnum1, addD, subI, modI, fdivI, cmpI, ltD, leD, gtD, geD, lenOf, lenL, intL, gUn, tsCons, tsNil, List.getElem?_cons_zero, List.getElem?_cons_succ, List.set_cons_zero, List.set_cons_succ, List.length_cons, List.length_nil, hn]⟩
  obtain ⟨cell, hm⟩ := hm
  have hrow : (setD 5 (.int j) [.d (.lst (ns.map D.int)), .d (.int many), .d (.int rest), .own (row.map D.int), .d (.int mixed), x5, x6]).seq rowLoop =
      (bSeq (sAsg (fVar 5) (setD 6)) (sIf (fTst boolD (fBin gtD (fLenN 0) (fC (.int 0)))) (bSeq (sAsg (fLate 0 subD (fBin modI (fBlt intL (aCons (fVar 5) aNil)) (fBlt minL (aCons (fLenN 0) (aCons (fC (.int 63)) aNil))))) (setD 6)) bNil) bNil) [.d (.lst (ns.map D.int)), .d (.int many), .d (.int rest), .own (row.map D.int), .d (.int mixed), .d (.int j), x6]).seq
      (bSeq (sAsg (fBin modI (fBlt intL (aCons (fBin addD (fBin addD (fBin mulD (fVar 4) (fC (.int 48271))) (fBin mulD (fBin modI (fBlt intL (aCons (fVar 6) aNil)) (fC (.int 1000003))) (fC (.int 69621)))) (fBin mulD (fVar 5) (fC (.int 7907)))) aNil)) (fC (.int 2147483647))) (setD 4)) (bSeq (sIf (fTst boolD (fBin gtD (fVar 2) (fC (.int 0)))) (bSeq (sApp 3 (fBin modI (fBlt intL (aCons (fVar 2) aNil)) (fC (.int 997)))) (bSeq (sAsg (fBin fdivI (fVar 2) (fC (.int 997))) (setD 2)) bNil)) (bSeq (sApp 3 (fBin modI (fBlt intL (aCons (fBin fdivI (fVar 4) (fC (.int 11))) aNil)) (fC (.int 997)))) bNil)) bNil)) := by
    unfold rowLoop
    rfl
  rw [hrow, hm]
  have snoc : ∀ z : Int, 0 ≤ z ∧ z < 997 → ∀ r ∈ row ++ [z], 0 ≤ r ∧ r < 997 := fun z hz r hr' => by
    rcases List.mem_append.mp hr' with h | h
    · exact hr r h
    · rw [List.mem_singleton.mp h]; exact hz
  have m997 : ∀ z : Int, 0 ≤ z % 997 ∧ z % 997 < 997 := fun z => ⟨Int.emod_nonneg z (by decide), Int.emod_lt_of_pos z (by decide)⟩
  by_cases hp : 0 < rest
  · simp [seq_bNil, bSeq, bNil, sAsg, sAsgO, setO, setD, sIf, sRet, sDrop, sFor, sApp, fC, fVar, fBin, fLate, slotD, fTst, boolD, fAnd, fOr, fNot, fUn, negD, fIf, fBlt, fLenN, fTup, fO, oLst, aNil, aCons, fSl, pNone, pSome, intD, fPop, ownAt, iSeq, iRange1, iRange2, iEnum1, addD, subI, modI, fdivI, cmpI, ltD, leD, gtD, geD, lenOf, lenL, intL, gUn, tsCons, tsNil, List.getElem?_cons_zero, List.getElem?_cons_succ, List.set_cons_zero, List.set_cons_succ, List.length_cons, List.length_nil, e48, e69, e79, hp, hlim]
    exact ⟨rest / 997, row ++ [rest % 997], _, _, _, by simp; exact ⟨rfl, rfl, rfl⟩, by simp [hl], snoc _ (m997 _)⟩
  · simp [seq_bNil, bSeq, bNil, sAsg, sAsgO, setO, setD, sIf, sRet, sDrop, sFor, sApp, fC, fVar, fBin, fLate, slotD, fTst, boolD, fAnd, fOr, fNot, fUn, negD, fIf, fBlt, fLenN, fTup, fO, oLst, aNil, aCons, fSl, pNone, pSome, intD, fPop, ownAt, iSeq, iRange1, iRange2, iEnum1, addD, subI, modI, fdivI, cmpI, ltD, leD, gtD, geD, lenOf, lenL, intL, gUn, tsCons, tsNil, List.getElem?_cons_zero, List.getElem?_cons_succ, List.set_cons_zero, List.set_cons_succ, List.length_cons, List.length_nil, e48, e69, e79, hp, hlim]
    exact ⟨rest, row ++ [_], _, _, _, by simp; exact ⟨rfl, rfl, rfl, rfl⟩, by simp [hl], snoc _ (m997 _)⟩
/-- what the row is -/
theorem row_ok {ns : List Int} {many : Nat} (hm : many ≤ 100000) : ∃ row : List Int, row.length = many ∧ (∀ r ∈ row, 0 ≤ r ∧ r < 997) ∧ fnD 2 7 rowBody [.lst (ns.map D.int), .int many] = .ok (.lst (row.map D.int)) := by
  have key : ∀ rest : Int, ∃ row : List Int, row.length = many ∧ (∀ r ∈ row, 0 ≤ r ∧ r < 997) ∧
      ((bSeq (sAsgO (oLst aNil) 3) (bSeq (sAsg (fC (.int 12345)) (setD 4)) (bSeq (sFor (iRange1 (aCons (fVar 1) aNil)) (setD 5) rowLoop) (bSeq (sRet (fVar 3)) bNil)))) [.d (.lst (ns.map D.int)), .d (.int many), .d (.int rest), .un, .un, .un, .un]).fin = .ok (.lst (row.map D.int)) := by
    intro rest
    have hR : okR (many : Nat) = true := okR_nat (by omega)
    obtain ⟨ρ', e, rest', row, mixed, x5, x6, rfl, hl, hr⟩ := forD_thru (g := setD 5) (f := rowLoop) (ds := dRange 0 many) (ρ := [.d (.lst (ns.map D.int)), .d (.int many), .d (.int rest), .own [], .d (.int 12345), .un, .un]) (rowP ns many) (fun i d ρ hd hp => by
      obtain ⟨hi, rfl⟩ := dRange_inv hd
      exact row_step (by omega) hp) ⟨rest, [], 12345, .un, .un, rfl, rfl, by simp⟩
    refine ⟨row, by rw [hl, dRange_len], hr, ?_⟩
    have h0 : (0 : Nat) ≤ lim := Nat.zero_le _
    have h1 : (bSeq (sAsgO (oLst aNil) 3) (sAsg (fC (.int 12345)) (setD 4))) [.d (.lst (ns.map D.int)), .d (.int many), .d (.int rest), .un, .un, .un, .un] = .nx [.d (.lst (ns.map D.int)), .d (.int many), .d (.int rest), .own [], .d (.int 12345), .un, .un] := by
      simp [seq_bNil, bSeq, bNil, sAsg, sAsgO, setO, setD, sIf, sRet, sDrop, sFor, sApp, fC, fVar, fBin, fLate, slotD, fTst, boolD, fAnd, fOr, fNot, fUn, negD, fIf, fBlt, fLenN, fTup, fO, oLst, aNil, aCons, fSl, pNone, pSome, intD, fPop, ownAt, iSeq, iRange1, iRange2, iEnum1, addD, subI, modI, fdivI, cmpI, ltD, leD, gtD, geD, lenOf, lenL, intL, gUn, tsCons, tsNil, List.getElem?_cons_zero, List.getElem?_cons_succ, List.set_cons_zero, List.set_cons_succ, List.length_cons, List.length_nil, h0]
    have h2 : sFor (iRange1 (aCons (fVar 1) aNil)) (setD 5) rowLoop [.d (.lst (ns.map D.int)), .d (.int many), .d (.int rest), .own [], .d (.int 12345), .un, .un] = forD (setD 5) rowLoop (dRange 0 many) [.d (.lst (ns.map D.int)), .d (.int many), .d (.int rest), .own [], .d (.int 12345), .un, .un] := by
      simp [seq_bNil, bSeq, bNil, sAsg, sAsgO, setO, setD, sIf, sRet, sDrop, sFor, sApp, fC, fVar, fBin, fLate, slotD, fTst, boolD, fAnd, fOr, fNot, fUn, negD, fIf, fBlt, fLenN, fTup, fO, oLst, aNil, aCons, fSl, pNone, pSome, intD, fPop, ownAt, iSeq, iRange1, iRange2, iEnum1, addD, subI, modI, fdivI, cmpI, ltD, leD, gtD, geD, lenOf, lenL, intL, gUn, tsCons, tsNil, List.getElem?_cons_zero, List.getElem?_cons_succ, List.set_cons_zero, List.set_cons_succ, List.length_cons, List.length_nil, hR]
    rw [bSeq_assoc, bSeq_app, h1, Fl.seq_nx, bSeq_app, h2, e, Fl.seq_nx]
    simp [seq_bNil, bSeq, bNil, sAsg, sAsgO, setO, setD, sIf, sRet, sDrop, sFor, sApp, fC, fVar, fBin, fLate, slotD, fTst, boolD, fAnd, fOr, fNot, fUn, negD, fIf, fBlt, fLenN, fTup, fO, oLst, aNil, aCons, fSl, pNone, pSome, intD, fPop, ownAt, iSeq, iRange1, iRange2, iEnum1, addD, subI, modI, fdivI, cmpI, ltD, leD, gtD, geD, lenOf, lenL, intL, gUn, tsCons, tsNil, List.getElem?_cons_zero, List.getElem?_cons_succ, List.set_cons_zero, List.set_cons_succ, List.length_cons, List.length_nil, Fl.fin]
  obtain ⟨c, h18⟩ : ∃ c : Int, powI (.int 10) (.int 18) = some (.int c) := by
    unfold powI
    exact ⟨_, if_pos (by decide)⟩
  have start : startE 7 [.lst (ns.map D.int), .int many] = [.d (.lst (ns.map D.int)), .d (.int many), .un, .un, .un, .un, .un] := rfl
  have hf : fnD 2 7 rowBody [.lst (ns.map D.int), .int many] = (rowBody [.d (.lst (ns.map D.int)), .d (.int many), .un, .un, .un, .un, .un]).fin := by
    rw [fnD_app (ds := [.lst (ns.map D.int), .int many]) (by rfl : _ = 2), start]
  rw [hf]
  have go : ∃ rest : Int, (bSeq (sAsg (fC (.int 0)) (setD 2)) (sIf (fAnd (fTst boolD (fBin gtD (fLenN 0) (fC (.int 0)))) (fTst boolD (fBin geD (fLate 0 subD (fC (.int 0))) (fBin powI (fC (.int 10)) (fC (.int 18)))))) (bSeq (sAsg (fLate 0 subD (fC (.int 0))) (setD 2)) bNil) bNil)) [.d (.lst (ns.map D.int)), .d (.int many), .un, .un, .un, .un, .un] = .nx [.d (.lst (ns.map D.int)), .d (.int many), .d (.int rest), .un, .un, .un, .un] := by
    by_cases hn : 0 < ns.length
    · obtain ⟨x, hx, hs⟩ := subD_int (ns := ns) (i := 0) (by omega) (by omega)
      by_cases hx : c ≤ x
      · exact ⟨x, by simp [seq_bNil, bSeq, bNil, sAsg, sAsgO, setO, setD, sIf, sRet, sDrop, sFor, sApp, fC, fVar, fBin, fLate, slotD, fTst, boolD, fAnd, fOr, fNot, fUn, negD, fIf, fBlt, fLenN, fTup, fO, oLst, aNil, aCons, fSl, pNone, pSome, intD, fPop, ownAt, iSeq, iRange1, iRange2, iEnum1, addD, subI, modI, fdivI, cmpI, ltD, leD, gtD, geD, lenOf, lenL, intL, gUn, tsCons, tsNil, List.getElem?_cons_zero, List.getElem?_cons_succ, List.set_cons_zero, List.set_cons_succ, List.length_cons, List.length_nil, hn, hs, hx, h18]⟩
      · exact ⟨0, by simp [seq_bNil, bSeq, bNil, sAsg, sAsgO, setO, setD, sIf, sRet, sDrop, sFor, sApp, fC, fVar, fBin, fLate, slotD, fTst, boolD, fAnd, fOr, fNot, fUn, negD, fIf, fBlt, fLenN, fTup, fO, oLst, aNil, aCons, fSl, pNone, pSome, intD, fPop, ownAt, iSeq, iRange1, iRange2, iEnum1, addD, subI, modI, fdivI, cmpI, ltD, leD, gtD, geD, lenOf, lenL, intL, gUn, tsCons, tsNil, List.getElem?_cons_zero, List.getElem?_cons_succ, List.set_cons_zero, List.set_cons_succ, List.length_cons, List.length_nil, hn, hs, hx, h18]⟩
    · exact ⟨0, by simp [seq_bNil, bSeq, bNil, sAsg, sAsgO, setO, setD, sIf, sRet, sDrop, sFor, sApp, fC, fVar, fBin, fLate, slotD, fTst, boolD, fAnd, fOr, fNot, fUn, negD, fIf, fBlt, fLenN, fTup, fO, oLst, aNil, aCons, fSl, pNone, pSome, intD, fPop, ownAt, iSeq, iRange1, iRange2, iEnum1, addD, subI, modI, fdivI, cmpI, ltD, leD, gtD, geD, lenOf, lenL, intL, gUn, tsCons, tsNil, List.getElem?_cons_zero, List.getElem?_cons_succ, List.set_cons_zero, List.set_cons_succ, List.length_cons, List.length_nil, hn]⟩
  obtain ⟨rest, go⟩ := go
  obtain ⟨row, h1, h2, h3⟩ := key rest
  refine ⟨row, h1, h2, ?_⟩
  rw [← h3]
  unfold rowBody
  rw [bSeq_assoc, bSeq_app, go, Fl.seq_nx]
end PD
set_option Elab.async false
set_option linter.all false
set_option maxRecDepth 100000
set_option maxHeartbeats 4000000
/-! PW: the typed deep == of the laws is true of equal data. -/
namespace PD
open PySem PySem.Spec L2
mutual
def D.sz : D → Nat
  | .lst xs => 1 + D.szL xs
  | .tup xs => 1 + D.szL xs
  | _ => 1
def D.szL : List D → Nat
  | [] => 0
  | x :: r => D.sz x + D.szL r
end
theorem szL_app : ∀ (a b : List D), D.szL (a ++ b) = D.szL a + D.szL b
  | [], b => by simp [D.szL]
  | x :: r, b => by
    simp only [List.cons_append, D.szL, szL_app r b]
    omega
def ok1 (d : D) : Prop := (D.py d).isSome = true
theorem pyL_ok : ∀ {xs : List D}, (D.pyL xs).isSome = true → ∀ x ∈ xs, ok1 x
  | [], _, x, hx => by cases hx
  | y :: r, h, x, hx => by
    rw [D.pyL] at h
    cases e : D.py y with
    | none => rw [e] at h; cases h
    | some a =>
      rw [e, Option.bind_some] at h
      rcases List.mem_cons.mp hx with z | z
      · rw [z]; unfold ok1; rw [e]; rfl
      · refine pyL_ok (xs := r) ?_ x z
        cases e2 : D.pyL r with
        | none => rw [e2] at h; cases h
        | some b => rfl
theorem ok_pyL : ∀ {xs : List D}, (∀ x ∈ xs, ok1 x) → ∃ ps, D.pyL xs = some ps ∧ ps.length = xs.length
  | [], _ => ⟨[], by rw [D.pyL], rfl⟩
  | y :: r, h => by
    obtain ⟨ps, e, hl⟩ := ok_pyL (xs := r) fun x hx => h x (List.mem_cons_of_mem _ hx)
    have hy := h y (List.mem_cons_self ..)
    unfold ok1 at hy
    cases e1 : D.py y with
    | none => rw [e1] at hy; cases hy
    | some a => exact ⟨a :: ps, by rw [D.pyL, e1, Option.bind_some, e]; rfl, by simp [hl]⟩
/-- a list == [] -/
theorem eq_nil {xs : List D} (h : ∀ x ∈ xs, ok1 x) : eqD (.lst xs) (.lst []) = some (.bl xs.isEmpty) := by
  obtain ⟨ps, e, hl⟩ := ok_pyL h
  have e1 : D.py (.lst xs) = some (.list ps) := by rw [D.py, e]; rfl
  have e2 : D.py (.lst []) = some (.list []) := by rw [D.py, D.pyL]; rfl
  have hd : min (PyData.list ps).depth (PyData.list []).depth ≤ 64 := by
    have : (PyData.list []).depth = 1 := by rfl
    omega
  have hv : PyData.eqv (.list ps) (.list []) = xs.isEmpty := by
    cases ps with
    | nil => cases xs with
      | nil => simp [PyData.eqv, PyData.eqvAll]
      | cons a b => cases hl
    | cons p q => cases xs with
      | nil => cases hl
      | cons a b => simp [PyData.eqv, PyData.eqvAll]
  show (eqB (.lst xs) (.lst [])).map D.bl = _
  have : eqB (.lst xs) (.lst []) = eqG (.lst xs) (.lst []) := rfl
  rw [this]
  unfold eqG
  rw [e1, e2, Option.bind_some, Option.bind_some, if_pos hd, hv]
  rfl
def sameLoop2 : En → Fl := (bSeq (sIf (fTst boolD (fBin isNonD (fVar 5) (fC .non))) (bSeq (sIf (fTst boolD (fBin isNotNonD (fVar 4) (fC .non))) (bSeq (sRet (fC (.bl false))) bNil) bNil) bNil) (bSeq (sIf (fTst boolD (fBlt isiL (aCons (fVar 5) (aCons (fC (.ty "bool")) aNil)))) (bSeq (sIf (fOr (fNot (fTst boolD (fBlt isiL (aCons (fVar 4) (aCons (fC (.ty "bool")) aNil))))) (fTst boolD (fLate 4 neD (fVar 5)))) (bSeq (sRet (fC (.bl false))) bNil) bNil) bNil) (bSeq (sIf (fTst boolD (fBlt isiL (aCons (fVar 5) (aCons (fC (.ty "int")) aNil)))) (bSeq (sIf (fOr (fNot (fTst boolD (fBlt isiL (aCons (fVar 4) (aCons (fC (.ty "int")) aNil))))) (fOr (fTst boolD (fBlt isiL (aCons (fVar 4) (aCons (fC (.ty "bool")) aNil)))) (fTst boolD (fLate 4 neD (fVar 5))))) (bSeq (sRet (fC (.bl false))) bNil) bNil) bNil) (bSeq (sIf (fTst boolD (fBlt isiL (aCons (fVar 5) (aCons (fC (.ty "str")) aNil)))) (bSeq (sIf (fOr (fNot (fTst boolD (fBlt isiL (aCons (fVar 4) (aCons (fC (.ty "str")) aNil))))) (fTst boolD (fLate 4 neD (fVar 5)))) (bSeq (sRet (fC (.bl false))) bNil) bNil) bNil) (bSeq (sIf (fOr (fTst boolD (fBin neD (fBlt isiL (aCons (fVar 4) (aCons (fC (.ty "list")) aNil))) (fBlt isiL (aCons (fVar 5) (aCons (fC (.ty "list")) aNil))))) (fTst boolD (fBin neD (fBlt isiL (aCons (fVar 4) (aCons (fC (.ty "tuple")) aNil))) (fBlt isiL (aCons (fVar 5) (aCons (fC (.ty "tuple")) aNil)))))) (bSeq (sRet (fC (.bl false))) bNil) bNil) (bSeq (sIf (fTst boolD (fBin neD (fLenN 4) (fLenN 5))) (bSeq (sRet (fC (.bl false))) bNil) bNil) (bSeq (sFor (iRange1 (aCons (fLenN 5) aNil)) (setD 6) (bSeq (sApp 2 (fTup (aCons (fLate 4 subD (fVar 6)) (aCons (fLate 5 subD (fVar 6)) aNil)))) bNil)) bNil)))) bNil)) bNil)) bNil)) bNil)
def sameLoop : En → Fl := (bSeq (sIf (fTst boolD (fLate 2 eqD (fO (oLst aNil)))) (bSeq (sRet (fC (.bl true))) bNil) bNil) (bSeq (sAsg (fPop 2) (gUn 2 (tsCons (setD 4) (tsCons (setD 5) tsNil)))) sameLoop2))
def sameBody : En → Fl := (bSeq (sAsgO (oLst (aCons (fTup (aCons (fVar 0) (aCons (fVar 1) aNil))) aNil)) 2) (bSeq (sFor (iRange1 (aCons (fC (.int 200000)) aNil)) (setD 3) sameLoop) (bSeq (sRet (fC (.bl false))) bNil)))
abbrev prD (x : D) : D := .tup [x, x]
theorem ok_pr {x : D} (h : ok1 x) : ok1 (prD x) := by
  unfold ok1 at h ⊢
  cases e : D.py x with
  | none => rw [e] at h; cases h
  | some a => simp [D.py, D.pyL, e]
/-- pushing the children -/
theorem same_push {a b : Sl} {ws xs : List D} {c : Sl} {x : D} (hx : x = .lst xs ∨ x = .tup xs) (hl : ws.length + xs.length < lim) (x6 : Sl) :
    ∃ y, forD (setD 6) (bSeq (sApp 2 (fTup (aCons (fLate 4 subD (fVar 6)) (aCons (fLate 5 subD (fVar 6)) aNil)))) bNil) (dRange 0 xs.length) [a, b, .own (ws.map prD), c, .d x, .d x, x6] = .nx [a, b, .own ((ws ++ xs).map prD), c, .d x, .d x, y] := by
  obtain ⟨ρ', e, h⟩ := forD_thru (g := setD 6) (f := bSeq (sApp 2 (fTup (aCons (fLate 4 subD (fVar 6)) (aCons (fLate 5 subD (fVar 6)) aNil)))) bNil) (ds := dRange 0 xs.length) (ρ := [a, b, .own (ws.map prD), c, .d x, .d x, x6])
    (fun i ρ => ∃ y, ρ = [a, b, .own ((ws ++ xs.take i).map prD), c, .d x, .d x, y]) (fun i d ρ hd ⟨y, hp⟩ => by
      obtain ⟨hi, rfl⟩ := dRange_inv0 hd
      subst hp
      have hs : subD x (.int (i : Nat)) = some xs[i] := by
        rcases hx with rfl | rfl <;> exact atI_nat hi
      have hlt : (ws ++ xs.take i).length < lim := by
        rw [List.length_append, List.length_take]
        omega
      have ht : ws ++ xs.take (i + 1) = (ws ++ xs.take i) ++ [xs[i]] := by
        rw [List.append_assoc, List.take_succ_eq_append_getElem hi]
      have h2 : 2 ≤ lim := by decide
      refine ⟨_, .inl ?_, .d (.int (i : Nat)), rfl⟩
      rw [ht]
      have hlm : (((ws ++ xs.take i).map prD).length < lim) := by rw [List.length_map]; exact hlt
      generalize ws ++ xs.take i = zs at hlm ⊢
      simp at hlm
      simp [seq_bNil, bSeq, bNil, sAsg, sAsgO, setO, setD, sIf, sRet, sDrop, sFor, sApp, fC, fVar, fBin, fLate, slotD, fTst, boolD, fAnd, fOr, fNot, fUn, negD, fIf, fBlt, fLenN, fTup, fO, oLst, aNil, aCons, fSl, pNone, pSome, intD, fPop, ownAt, iSeq, iRange1, iRange2, iEnum1, addD, subI, modI, fdivI, cmpI, ltD, leD, gtD, geD, lenOf, lenL, intL, gUn, tsCons, tsNil, List.getElem?_cons_zero, List.getElem?_cons_succ, List.set_cons_zero, List.set_cons_succ, List.length_cons, List.length_nil, hs, h2, hlm]) ⟨x6, by simp⟩
  obtain ⟨y, h⟩ := h
  rw [dRange_len] at h
  rw [e, h]
  exact ⟨y, by simp⟩
def samP (d : D) (i : Nat) (ρ : En) : Prop := ∃ (ws : List D) (x3 x4 x5 x6 : Sl), ρ = [.d d, .d d, .own (ws.map prD), x3, x4, x5, x6] ∧ i + D.szL ws = D.sz d ∧ ∀ x ∈ ws, ok1 x
theorem sz_pos (d : D) : 1 ≤ D.sz d := by cases d <;> simp [D.sz]
theorem len_szL : ∀ (ws : List D), ws.length ≤ D.szL ws
  | [] => Nat.le_refl 0
  | x :: r => by
    have := len_szL r
    have := sz_pos x
    simp only [List.length_cons, D.szL]
    omega
theorem isi_of {d : D} {n t : String} {b : Bool} (h1 : tyN d = some t) (h2 : kitB t n = some b) : isiL [d, .ty n] = some (.bl b) := by
  show (tyN d).bind (fun t => (kitB t n).map D.bl) = _
  rw [h1, Option.bind_some, h2]
  rfl
theorem isi_bl_bool (b : Bool) : isiL [.bl b, .ty "bool"] = some (.bl true) := isi_of rfl (by decide +kernel)
theorem isi_int_bool (b : Int) : isiL [.int b, .ty "bool"] = some (.bl false) := isi_of rfl (by decide +kernel)
theorem isi_int_int (b : Int) : isiL [.int b, .ty "int"] = some (.bl true) := isi_of rfl (by decide +kernel)
theorem isi_str_bool (b : Str) : isiL [.str b, .ty "bool"] = some (.bl false) := isi_of rfl (by decide +kernel)
theorem isi_str_int (b : Str) : isiL [.str b, .ty "int"] = some (.bl false) := isi_of rfl (by decide +kernel)
theorem isi_str_str (b : Str) : isiL [.str b, .ty "str"] = some (.bl true) := isi_of rfl (by decide +kernel)
theorem isi_lst (xs : List D) : isiL [.lst xs, .ty "bool"] = some (.bl false) ∧ isiL [.lst xs, .ty "int"] = some (.bl false) ∧ isiL [.lst xs, .ty "str"] = some (.bl false) ∧ isiL [.lst xs, .ty "list"] = some (.bl true) ∧ isiL [.lst xs, .ty "tuple"] = some (.bl false) :=
  ⟨isi_of rfl (by decide +kernel), isi_of rfl (by decide +kernel), isi_of rfl (by decide +kernel), isi_of rfl (by decide +kernel), isi_of rfl (by decide +kernel)⟩
theorem isi_tup (xs : List D) : isiL [.tup xs, .ty "bool"] = some (.bl false) ∧ isiL [.tup xs, .ty "int"] = some (.bl false) ∧ isiL [.tup xs, .ty "str"] = some (.bl false) ∧ isiL [.tup xs, .ty "list"] = some (.bl false) ∧ isiL [.tup xs, .ty "tuple"] = some (.bl true) :=
  ⟨isi_of rfl (by decide +kernel), isi_of rfl (by decide +kernel), isi_of rfl (by decide +kernel), isi_of rfl (by decide +kernel), isi_of rfl (by decide +kernel)⟩
theorem ne_bl (a b : Bool) : neD (.bl a) (.bl b) = some (.bl (!decide (a = b))) := rfl
theorem ne_int (a b : Int) : neD (.int a) (.int b) = some (.bl (!decide (a = b))) := rfl
theorem ne_str (a b : Str) : neD (.str a) (.str b) = some (.bl (!decide (a = b))) := rfl
theorem eq_bl (a b : Bool) : eqD (.bl a) (.bl b) = some (.bl (decide (a = b))) := rfl
theorem eq_int (a b : Int) : eqD (.int a) (.int b) = some (.bl (decide (a = b))) := rfl
theorem eq_str (a b : Str) : eqD (.str a) (.str b) = some (.bl (decide (a = b))) := rfl
theorem isN_non : isNonD .non .non = some (.bl true) := rfl
theorem notN_non : isNotNonD .non .non = some (.bl false) := rfl
theorem isN_any (d : D) : isNonD d .non = some (.bl d.isNon) := by cases d <;> rfl
theorem notN_any (d : D) : isNotNonD d .non = some (.bl (!d.isNon)) := by cases d <;> rfl
theorem same_step {d : D} {i : Nat} {j : Int} {ρ : En} (hz : D.sz d < 200000) (h : samP d i ρ) :
    (∃ ρ', ((setD 3 (.int j) ρ).seq sameLoop = .nx ρ' ∨ (setD 3 (.int j) ρ).seq sameLoop = .ct ρ') ∧ samP d (i + 1) ρ') ∨ (setD 3 (.int j) ρ).seq sameLoop = .rt (.bl true) := by
  obtain ⟨ws, x3, x4, x5, x6, rfl, hs, hok⟩ := h
  have he := eq_nil (xs := ws.map prD) (fun x hx => by
    obtain ⟨y, hy, rfl⟩ := List.mem_map.mp hx
    exact ok_pr (hok y hy))
  rcases List.eq_nil_or_concat ws with rfl | ⟨ini, x, rfl⟩
  · right
    unfold sameLoop
    simp at he
    simp [seq_bNil, bSeq, bNil, sAsg, sAsgO, setO, setD, sIf, sRet, sDrop, sFor, sApp, fC, fVar, fBin, fLate, slotD, fTst, boolD, fAnd, fOr, fNot, fUn, negD, fIf, fBlt, fLenN, fTup, fO, oLst, aNil, aCons, fSl, pNone, pSome, intD, fPop, ownAt, iSeq, iRange1, iRange2, iEnum1, addD, subI, modI, fdivI, cmpI, ltD, leD, gtD, geD, lenOf, lenL, intL, gUn, tsCons, tsNil, List.getElem?_cons_zero, List.getElem?_cons_succ, List.set_cons_zero, List.set_cons_succ, List.length_cons, List.length_nil, he]
  · left
    rw [List.concat_eq_append] at hs hok he ⊢
    rw [szL_app] at hs
    simp only [D.szL, Nat.add_zero] at hs
    have hx := hok x (by simp)
    have hini : ∀ y ∈ ini, ok1 y := fun y hy => hok y (by simp [hy])
    have he' : eqD (.lst (ini.map prD ++ [prD x])) (.lst []) = some (.bl false) := by
      rw [List.map_append] at he
      have e0 : (ini.map prD ++ [x].map prD).isEmpty = false := by simp
      rw [e0] at he
      exact he
    have ret : ∀ {y : Sl}, samP d (i + 1) [.d d, .d d, .own (ini.map prD), .d (.int j), .d x, .d x, y] ∨ 1 < D.sz x := fun {y} => by
      by_cases h1 : D.sz x = 1
      · exact .inl ⟨ini, _, _, _, y, rfl, by omega, hini⟩
      · exact .inr (by have := sz_pos x; omega)
    have key : ∀ y : Sl, sameLoop2 [.d d, .d d, .own (ini.map prD), .d (.int j), .d x, .d x, y] = .nx [.d d, .d d, .own (ini.map prD), .d (.int j), .d x, .d x, y] ∧ D.sz x = 1 ∨
        ∃ xs y', D.sz x = 1 + D.szL xs ∧ (∀ z ∈ xs, ok1 z) ∧ sameLoop2 [.d d, .d d, .own (ini.map prD), .d (.int j), .d x, .d x, y] = .nx [.d d, .d d, .own ((ini ++ xs).map prD), .d (.int j), .d x, .d x, y'] := by
      intro y
      have hlim : ∀ xs : List D, D.sz x = 1 + D.szL xs → ini.length + xs.length < lim := fun xs h => by
        have h1 := len_szL ini
        have h2 := len_szL xs
        have h3 : (200000 : Nat) ≤ lim := by decide
        omega
      unfold sameLoop2
      cases x with
      | non => exact .inl ⟨by simp [seq_bNil, bSeq, bNil, sAsg, sAsgO, setO, setD, sIf, sRet, sDrop, sFor, sApp, fC, fVar, fBin, fLate, slotD, fTst, boolD, fAnd, fOr, fNot, fUn, negD, fIf, fBlt, fLenN, fTup, fO, oLst, aNil, aCons, fSl, pNone, pSome, intD, fPop, ownAt, iSeq, iRange1, iRange2, iEnum1, addD, subI, modI, fdivI, cmpI, ltD, leD, gtD, geD, lenOf, lenL, intL, gUn, tsCons, tsNil, List.getElem?_cons_zero, List.getElem?_cons_succ, List.set_cons_zero, List.set_cons_succ, List.length_cons, List.length_nil, isN_any, notN_any, D.isNon], rfl⟩
      | bl b => exact .inl ⟨by simp [seq_bNil, bSeq, bNil, sAsg, sAsgO, setO, setD, sIf, sRet, sDrop, sFor, sApp, fC, fVar, fBin, fLate, slotD, fTst, boolD, fAnd, fOr, fNot, fUn, negD, fIf, fBlt, fLenN, fTup, fO, oLst, aNil, aCons, fSl, pNone, pSome, intD, fPop, ownAt, iSeq, iRange1, iRange2, iEnum1, addD, subI, modI, fdivI, cmpI, ltD, leD, gtD, geD, lenOf, lenL, intL, gUn, tsCons, tsNil, List.getElem?_cons_zero, List.getElem?_cons_succ, List.set_cons_zero, List.set_cons_succ, List.length_cons, List.length_nil, isN_any, D.isNon, isi_bl_bool, ne_bl], rfl⟩
      | int b => exact .inl ⟨by simp [seq_bNil, bSeq, bNil, sAsg, sAsgO, setO, setD, sIf, sRet, sDrop, sFor, sApp, fC, fVar, fBin, fLate, slotD, fTst, boolD, fAnd, fOr, fNot, fUn, negD, fIf, fBlt, fLenN, fTup, fO, oLst, aNil, aCons, fSl, pNone, pSome, intD, fPop, ownAt, iSeq, iRange1, iRange2, iEnum1, addD, subI, modI, fdivI, cmpI, ltD, leD, gtD, geD, lenOf, lenL, intL, gUn, tsCons, tsNil, List.getElem?_cons_zero, List.getElem?_cons_succ, List.set_cons_zero, List.set_cons_succ, List.length_cons, List.length_nil, isN_any, D.isNon, isi_int_bool, isi_int_int, ne_int], rfl⟩
      | str b => exact .inl ⟨by simp [seq_bNil, bSeq, bNil, sAsg, sAsgO, setO, setD, sIf, sRet, sDrop, sFor, sApp, fC, fVar, fBin, fLate, slotD, fTst, boolD, fAnd, fOr, fNot, fUn, negD, fIf, fBlt, fLenN, fTup, fO, oLst, aNil, aCons, fSl, pNone, pSome, intD, fPop, ownAt, iSeq, iRange1, iRange2, iEnum1, addD, subI, modI, fdivI, cmpI, ltD, leD, gtD, geD, lenOf, lenL, intL, gUn, tsCons, tsNil, List.getElem?_cons_zero, List.getElem?_cons_succ, List.set_cons_zero, List.set_cons_succ, List.length_cons, List.length_nil, isN_any, D.isNon, isi_str_bool, isi_str_int, isi_str_str, ne_str], rfl⟩
      | lst xs =>
        obtain ⟨y', hp⟩ := same_push (a := .d d) (b := .d d) (c := .d (.int j)) (ws := ini) (x := .lst xs) (.inl rfl) (hlim xs rfl) y
        have hR : okR (xs.length : Nat) = true := okR_nat (by have := hlim xs rfl; have h3 : lim ≤ 2 ^ 62 := by decide
                                                              omega)
        refine .inr ⟨xs, y', rfl, ?_, ?_⟩
        · unfold ok1 at hx
          rw [D.py] at hx
          cases e : D.pyL xs with
          | none => rw [e] at hx; cases hx
          | some ps => exact pyL_ok (by rw [e]; rfl)
        · rw [← hp]
          simp [seq_bNil, bSeq, bNil, sAsg, sAsgO, setO, setD, sIf, sRet, sDrop, sFor, sApp, fC, fVar, fBin, fLate, slotD, fTst, boolD, fAnd, fOr, fNot, fUn, negD, fIf, fBlt, fLenN, fTup, fO, oLst, aNil, aCons, fSl, pNone, pSome, intD, fPop, ownAt, iSeq, iRange1, iRange2, iEnum1, addD, subI, modI, fdivI, cmpI, ltD, leD, gtD, geD, lenOf, lenL, intL, gUn, tsCons, tsNil, List.getElem?_cons_zero, List.getElem?_cons_succ, List.set_cons_zero, List.set_cons_succ, List.length_cons, List.length_nil, isN_any, D.isNon, isi_lst, ne_bl, ne_int, hR]
      | tup xs =>
        obtain ⟨y', hp⟩ := same_push (a := .d d) (b := .d d) (c := .d (.int j)) (ws := ini) (x := .tup xs) (.inr rfl) (hlim xs rfl) y
        have hR : okR (xs.length : Nat) = true := okR_nat (by have := hlim xs rfl; have h3 : lim ≤ 2 ^ 62 := by decide
                                                              omega)
        refine .inr ⟨xs, y', rfl, ?_, ?_⟩
        · unfold ok1 at hx
          rw [D.py] at hx
          cases e : D.pyL xs with
          | none => rw [e] at hx; cases hx
          | some ps => exact pyL_ok (by rw [e]; rfl)
        · rw [← hp]
          simp [seq_bNil, bSeq, bNil, sAsg, sAsgO, setO, setD, sIf, sRet, sDrop, sFor, sApp, fC, fVar, fBin, fLate, slotD, fTst, boolD, fAnd, fOr, fNot, fUn, negD, fIf, fBlt, fLenN, fTup, fO, oLst, aNil, aCons, fSl, pNone, pSome, intD, fPop, ownAt, iSeq, iRange1, iRange2, iEnum1, addD, subI, modI, fdivI, cmpI, ltD, leD, gtD, geD, lenOf, lenL, intL, gUn, tsCons, tsNil, List.getElem?_cons_zero, List.getElem?_cons_succ, List.set_cons_zero, List.set_cons_succ, List.length_cons, List.length_nil, isN_any, D.isNon, isi_tup, ne_bl, ne_int, hR]
      | ty _ => unfold ok1 at hx; rw [D.py] at hx; cases hx
      | ins _ _ => unfold ok1 at hx; rw [D.py] at hx; cases hx
      | dic _ => unfold ok1 at hx; rw [D.py] at hx; cases hx
      | dit _ => unfold ok1 at hx; rw [D.py] at hx; cases hx
    have pre : (setD 3 (.int j) [.d d, .d d, .own ((ini ++ [x]).map prD), x3, x4, x5, x6]).seq sameLoop = sameLoop2 [.d d, .d d, .own (ini.map prD), .d (.int j), .d x, .d x, x6] := by
      unfold sameLoop
      generalize sameLoop2 = L
      simp [seq_bNil, bSeq, bNil, sAsg, sAsgO, setO, setD, sIf, sRet, sDrop, sFor, sApp, fC, fVar, fBin, fLate, slotD, fTst, boolD, fAnd, fOr, fNot, fUn, negD, fIf, fBlt, fLenN, fTup, fO, oLst, aNil, aCons, fSl, pNone, pSome, intD, fPop, ownAt, iSeq, iRange1, iRange2, iEnum1, addD, subI, modI, fdivI, cmpI, ltD, leD, gtD, geD, lenOf, lenL, intL, gUn, tsCons, tsNil, List.getElem?_cons_zero, List.getElem?_cons_succ, List.set_cons_zero, List.set_cons_succ, List.length_cons, List.length_nil, he']
    rw [pre]
    rcases key x6 with ⟨e, h1⟩ | ⟨xs, y', h1, h2, e⟩
    · exact ⟨_, .inl e, ini, _, _, _, _, rfl, by omega, hini⟩
    · refine ⟨_, .inl e, ini ++ xs, _, _, _, _, rfl, by rw [szL_app]; omega, fun z hz => ?_⟩
      rcases List.mem_append.mp hz with h | h
      · exact hini z h
      · exact h2 z h
theorem same_ok {d : D} (hd : ok1 d) (hz : D.sz d < 200000) : fnD 2 7 sameBody [d, d] = .ok (.bl true) := by
  have start : startE 7 [d, d] = [.d d, .d d, .un, .un, .un, .un, .un] := rfl
  rw [fnD_app (ds := [d, d]) (by rfl : _ = 2), start]
  have h2 : 2 ≤ lim := by decide
  have h1 : 1 ≤ lim := by decide
  have hR : okR 200000 = true := okR_nat (n := 200000) (by decide)
  have e1 : (sAsgO (oLst (aCons (fTup (aCons (fVar 0) (aCons (fVar 1) aNil))) aNil)) 2) [.d d, .d d, .un, .un, .un, .un, .un] = .nx [.d d, .d d, .own [prD d], .un, .un, .un, .un] := by
    simp [seq_bNil, bSeq, bNil, sAsg, sAsgO, setO, setD, sIf, sRet, sDrop, sFor, sApp, fC, fVar, fBin, fLate, slotD, fTst, boolD, fAnd, fOr, fNot, fUn, negD, fIf, fBlt, fLenN, fTup, fO, oLst, aNil, aCons, fSl, pNone, pSome, intD, fPop, ownAt, iSeq, iRange1, iRange2, iEnum1, addD, subI, modI, fdivI, cmpI, ltD, leD, gtD, geD, lenOf, lenL, intL, gUn, tsCons, tsNil, List.getElem?_cons_zero, List.getElem?_cons_succ, List.set_cons_zero, List.set_cons_succ, List.length_cons, List.length_nil, h1, h2]
  have e2 : sFor (iRange1 (aCons (fC (.int 200000)) aNil)) (setD 3) sameLoop [.d d, .d d, .own [prD d], .un, .un, .un, .un] = forD (setD 3) sameLoop (dRange 0 200000) [.d d, .d d, .own [prD d], .un, .un, .un, .un] := by
    generalize sameLoop = L
    unfold sFor iRange1 aCons aNil fC
    simp [hR]
  have e3 := forD_inv (g := setD 3) (f := sameLoop) (samP d) (fun z => z = .rt (.bl true)) (dRange 0 200000) 0 [.d d, .d d, .own [prD d], .un, .un, .un, .un] (fun i x ρ hx hp => by
    obtain ⟨_, rfl⟩ := dRange_inv0 hx
    rw [Nat.zero_add] at hp ⊢
    rcases same_step hz hp with h | h
    · exact .inl h
    · exact .inr (.inl ⟨⟨_, h⟩, h⟩)) ⟨[d], _, _, _, _, rfl, by simp [D.szL], by simpa using hd⟩
  unfold sameBody
  rw [bSeq_app, e1, Fl.seq_nx, bSeq_app, e2]
  rcases e3 with ⟨ρ', h, ws, _, _, _, _, _, hs, _⟩ | h
  · rw [dRange_len] at hs
    omega
  · rw [h]
    rfl
end PD
set_option Elab.async false
set_option linter.all false
set_option maxRecDepth 100000
set_option maxHeartbeats 4000000
/-! PQ: == of equal data is true. -/
namespace PD
open PySem PySem.Spec L2
mutual
def D.dp : D → Nat
  | .lst xs => D.dpL xs + 1
  | .tup xs => D.dpL xs + 1
  | _ => 0
def D.dpL : List D → Nat
  | [] => 0
  | x :: r => max (D.dp x) (D.dpL r)
end
mutual
theorem py_dp : ∀ {d : D} {p : PyData}, D.py d = some p → p.depth = D.dp d ∧ p.plain = true
  | .non, p, h => by rw [D.py] at h; cases h; exact ⟨rfl, rfl⟩
  | .bl _, p, h => by rw [D.py] at h; cases h; exact ⟨rfl, rfl⟩
  | .int _, p, h => by rw [D.py] at h; cases h; exact ⟨rfl, rfl⟩
  | .str _, p, h => by rw [D.py] at h; cases h; exact ⟨rfl, rfl⟩
  | .ty _, p, h => by rw [D.py] at h; cases h
  | .ins _ _, p, h => by rw [D.py] at h; cases h
  | .dic _, p, h => by rw [D.py] at h; cases h
  | .dit _, p, h => by rw [D.py] at h; cases h
  | .lst xs, p, h => by
    rw [D.py] at h
    cases e : D.pyL xs with
    | none => rw [e] at h; cases h
    | some ps =>
      rw [e] at h
      cases h
      obtain ⟨h1, h2⟩ := pyL_dp e
      exact ⟨by simp only [PyData.depth, D.dp, h1], by simpa only [PyData.plain] using h2⟩
  | .tup xs, p, h => by
    rw [D.py] at h
    cases e : D.pyL xs with
    | none => rw [e] at h; cases h
    | some ps =>
      rw [e] at h
      cases h
      obtain ⟨h1, h2⟩ := pyL_dp e
      exact ⟨by simp only [PyData.depth, D.dp, h1], by simpa only [PyData.plain] using h2⟩
theorem pyL_dp : ∀ {xs : List D} {ps : List PyData}, D.pyL xs = some ps → PyData.depthAll ps = D.dpL xs ∧ PyData.plainAll ps = true
  | [], ps, h => by rw [D.pyL] at h; cases h; exact ⟨rfl, rfl⟩
  | x :: r, ps, h => by
    rw [D.pyL] at h
    cases e : D.py x with
    | none => rw [e] at h; cases h
    | some a =>
      rw [e, Option.bind_some] at h
      cases e2 : D.pyL r with
      | none => rw [e2] at h; cases h
      | some b =>
        rw [e2] at h
        cases h
        obtain ⟨h1, h2⟩ := py_dp e
        obtain ⟨h3, h4⟩ := pyL_dp e2
        exact ⟨by simp only [PyData.depthAll, D.dpL, h1, h3], by simp only [PyData.plainAll, h2, h4, Bool.and_self]⟩
end
theorem eqB_same {d : D} (h : ok1 d) (hd : D.dp d ≤ 60) : eqB d d = some true := by
  have key : eqG d d = some true := by
    unfold ok1 at h
    cases e : D.py d with
    | none => rw [e] at h; cases h
    | some p =>
      obtain ⟨h1, h2⟩ := py_dp e
      unfold eqG
      rw [e, Option.bind_some, Option.bind_some, if_pos (by rw [h1]; omega), PySem.SeqAt.eqv_refl_plain p h2]
  cases d <;> first | exact key | (simp [eqB])
theorem eq_same {d : D} (h : ok1 d) (hd : D.dp d ≤ 60) : eqD d d = some (.bl true) := by
  unfold eqD
  rw [eqB_same h hd]
  rfl
theorem ne_same {d : D} (h : ok1 d) (hd : D.dp d ≤ 60) : neD d d = some (.bl false) := by
  unfold neD
  rw [eqB_same h hd]
  rfl
theorem ok1_lst {xs : List D} (h : ∀ x ∈ xs, ok1 x) : ok1 (.lst xs) := by
  obtain ⟨ps, e, _⟩ := ok_pyL h
  unfold ok1
  rw [D.py, e]
  rfl
theorem ok1_tup {xs : List D} (h : ∀ x ∈ xs, ok1 x) : ok1 (.tup xs) := by
  obtain ⟨ps, e, _⟩ := ok_pyL h
  unfold ok1
  rw [D.py, e]
  rfl
theorem ok1_int (i : Int) : ok1 (.int i) := by unfold ok1; rw [D.py]; rfl
theorem ok1_str (i : Str) : ok1 (.str i) := by unfold ok1; rw [D.py]; rfl
theorem ok1_bl (i : Bool) : ok1 (.bl i) := by unfold ok1; rw [D.py]; rfl
theorem ok1_ints (ns : List Int) : ∀ x ∈ ns.map D.int, ok1 x := fun x hx => by
  obtain ⟨i, _, rfl⟩ := List.mem_map.mp hx
  exact ok1_int i
theorem dpL_le {k : Nat} : ∀ {xs : List D}, (∀ x ∈ xs, D.dp x ≤ k) → D.dpL xs ≤ k
  | [], _ => by simp [D.dpL]
  | x :: r, h => by
    have h1 := h x (List.mem_cons_self ..)
    have h2 := dpL_le (xs := r) fun y hy => h y (List.mem_cons_of_mem _ hy)
    simp only [D.dpL]
    omega
theorem szL_le {k : Nat} : ∀ {xs : List D}, (∀ x ∈ xs, D.sz x ≤ k) → D.szL xs ≤ k * xs.length
  | [], _ => by simp [D.szL]
  | x :: r, h => by
    have h1 := h x (List.mem_cons_self ..)
    have h2 := szL_le (xs := r) fun y hy => h y (List.mem_cons_of_mem _ hy)
    simp only [D.szL, List.length_cons]
    rw [Nat.mul_add]
    omega
end PD
set_option Elab.async false
set_option linter.all false
set_option maxRecDepth 100000
set_option maxHeartbeats 4000000
/-! PR: comprehensions with one name. -/
namespace PD
open PySem PySem.Spec L2
theorem set_un_self {ρ : En} {v : Nat} {x : Sl} (h : ρ[v]? = some .un) : (ρ.set v x).set v .un = ρ := by
  rw [set_set]
  obtain ⟨h1, h2⟩ := List.getElem?_eq_some_iff.mp h
  rw [← h2, List.set_getElem_self]
theorem lcGo_map {α : Type} {tt : En → Res Bool} {te : En → Res D} {v : Nat} {ρ : En} (f : α → D) (p : α → Bool) (g : α → D) (hv : ρ[v]? = some .un) : ∀ (xs : List α) (acc : List D),
    (∀ x ∈ xs, tt (ρ.set v (.d (f x))) = .ok (p x) (ρ.set v (.d (f x)))) → (∀ x ∈ xs, p x = true → te (ρ.set v (.d (f x))) = .ok (g x) (ρ.set v (.d (f x)))) → acc.length + xs.length < lim →
    lcGo (setD v) tt te [v] (xs.map f) acc ρ = .ok (acc ++ (xs.filter p).map g) ρ
  | [], acc, _, _, _ => by
    rw [List.map_nil]
    unfold lcGo
    simp
  | x :: r, acc, h1, h2, hl => by
    rw [List.map_cons]
    unfold lcGo
    have hs : setD v (f x) ρ = .nx (ρ.set v (.d (f x))) := if_pos (get_lt hv)
    simp only [hs, h1 x (List.mem_cons_self ..)]
    rw [List.length_cons] at hl
    have w : wipeE (ρ.set v (.d (f x))) [v] = ρ := set_un_self hv
    cases hp : p x with
    | false =>
      simp only [Bool.false_eq_true, if_false, w]
      rw [lcGo_map f p g hv r acc (fun y hy => h1 y (List.mem_cons_of_mem _ hy)) (fun y hy => h2 y (List.mem_cons_of_mem _ hy)) (by omega), List.filter_cons_of_neg (by simp [hp])]
    | true =>
      simp only [if_true, h2 x (List.mem_cons_self ..) hp, w]
      rw [if_pos (by omega), lcGo_map f p g hv r (acc ++ [g x]) (fun y hy => h1 y (List.mem_cons_of_mem _ hy)) (fun y hy => h2 y (List.mem_cons_of_mem _ hy)) (by rw [List.length_append, List.length_singleton]; omega), List.filter_cons_of_pos hp]
      simp
theorem eqB_nil {xs : List D} (h : ∀ x ∈ xs, ok1 x) : eqB (.lst xs) (.lst []) = some xs.isEmpty := by
  have := eq_nil h
  unfold eqD at this
  cases e : eqB (.lst xs) (.lst []) with
  | none => rw [e] at this; cases this
  | some b =>
    rw [e] at this
    cases this
    rfl
theorem ne_nil {xs : List D} (h : ∀ x ∈ xs, ok1 x) : neD (.lst xs) (.lst []) = some (.bl (!xs.isEmpty)) := by
  unfold neD
  rw [eqB_nil h]
  rfl
end PD
set_option Elab.async false
set_option linter.all false
set_option maxRecDepth 100000
set_option maxHeartbeats 4000000
/-! PT: plain helps: texts, slices, searching loops, comprehensions with two names. -/
namespace PD
open PySem PySem.Spec L2
abbrev ch (c : Nat) : D := .str ⟨#[c]⟩
def tx (x : Str) : List Nat := x.cps.toList
theorem tx_len (x : Str) : (tx x).length = x.length := by
  show x.cps.toList.length = x.cps.size
  simp
theorem len_str {x : Str} (h : x.length ≤ lim) : lenOf (.str x) = some (.int ((tx x).length : Nat)) := by
  show (if x.length ≤ lim then some (D.int x.length) else none) = _
  rw [if_pos h, tx_len]
theorem subS {x : Str} {i : Nat} (hl : x.length ≤ lim) (hi : i < (tx x).length) : subD (.str x) (.int (i : Nat)) = some (ch (tx x)[i]) := by
  show (if x.length ≤ lim then (atI x.cps.toList (i : Nat)).map fun c => D.str ⟨#[c]⟩ else none) = _
  rw [if_pos hl]
  show (atI (tx x) (i : Nat)).map (fun c => D.str ⟨#[c]⟩) = _
  rw [PD.atI_nat hi]
  rfl
abbrev LT : Str := "abcdefghijklmnopqrstuvwxyz"
def isL (c : Nat) : Bool := decide (c ∈ tx LT)
theorem nin_ch (c : Nat) : ninD (ch c) (.str "abcdefghijklmnopqrstuvwxyz") = some (.bl (!isL c)) := by
  have h : inStr true (ch c) (.str "abcdefghijklmnopqrstuvwxyz") = some (.bl (!isL c)) := by
    show (if (#[c] : Array Nat).size = 1 then some (D.bl (true != decide ((#[c] : Array Nat).getD 0 0 ∈ tx ("abcdefghijklmnopqrstuvwxyz" : Str)))) else none) = _
    rw [if_pos (by rfl)]
    simp [isL, tx]
  exact h
/-- the first bad place, from i on -/
def badF (m : Int) : Nat → List Nat → Int
  | _, [] => -1
  | i, c :: r => if m ≤ (i : Int) ∨ isL c = false then (i : Int) else badF m (i + 1) r
theorem badF_drop {m : Int} {l : List Nat} {i : Nat} (hi : i < l.length) : badF m i (l.drop i) = if m ≤ (i : Int) ∨ isL l[i] = false then (i : Int) else badF m (i + 1) (l.drop (i + 1)) := by
  rw [List.drop_eq_getElem_cons hi]
  rfl
theorem badF_neg {m : Nat} : ∀ (l : List Nat) (i : Nat), i ≤ m → (decide (badF m i l < 0)) = (decide (i + l.length ≤ m) && l.all isL)
  | [], i, h => by simp [badF, h]
  | c :: r, i, h => by
    unfold badF
    by_cases h1 : (m : Int) ≤ (i : Int)
    · rw [if_pos (.inl h1)]
      have : ¬ ((i : Int) < 0) := by omega
      have h2 : ¬ (i + (c :: r).length ≤ m) := by rw [List.length_cons]; omega
      simp [this, h2]
      intro z
      rw [List.length_cons] at h2
      omega
    · by_cases h2 : isL c = false
      · rw [if_pos (.inr h2)]
        have : ¬ ((i : Int) < 0) := by omega
        simp [this, h2]
      · rw [if_neg (fun z => z.elim h1 h2), badF_neg r (i + 1) (by omega)]
        have h2' : isL c = true := by simpa using h2
        have e : i + 1 + r.length = i + (c :: r).length := by rw [List.length_cons]; omega
        rw [e, List.all_cons, h2', Bool.true_and]
def blBody : En → Fl := bSeq (sFor (iEnum1 (aCons (fVar 0) aNil)) (gUn 2 (tsCons (setD 2) (tsCons (setD 3) tsNil))) (bSeq (sIf (fOr (fTst boolD (fBin geD (fVar 2) (fVar 1))) (fTst boolD (fBin ninD (fVar 3) (fC (.str "abcdefghijklmnopqrstuvwxyz"))))) (bSeq (sRet (fVar 2)) bNil) bNil) bNil)) (bSeq (sRet (fUn negD (fC (.int 1)))) bNil)
theorem bad_letter_ok {x : Str} {m : Int} : fnD 2 4 blBody [.str x, .int m] = .ok (.int (badF m 0 (tx x))) := by
  rw [fnD_app (ds := [.str x, .int m]) (by rfl : _ = 2)]
  show (blBody [.d (.str x), .d (.int m), .un, .un]).fin = _
  have e0 : sFor (iEnum1 (aCons (fVar 0) aNil)) (gUn 2 (tsCons (setD 2) (tsCons (setD 3) tsNil))) (bSeq (sIf (fOr (fTst boolD (fBin geD (fVar 2) (fVar 1))) (fTst boolD (fBin ninD (fVar 3) (fC (.str "abcdefghijklmnopqrstuvwxyz"))))) (bSeq (sRet (fVar 2)) bNil) bNil) bNil) [.d (.str x), .d (.int m), .un, .un] =
      forD (gUn 2 (tsCons (setD 2) (tsCons (setD 3) tsNil))) (bSeq (sIf (fOr (fTst boolD (fBin geD (fVar 2) (fVar 1))) (fTst boolD (fBin ninD (fVar 3) (fC (.str "abcdefghijklmnopqrstuvwxyz"))))) (bSeq (sRet (fVar 2)) bNil) bNil) bNil) (dEnum (chars x)) [.d (.str x), .d (.int m), .un, .un] := by rfl
  have h := forD_inv (g := gUn 2 (tsCons (setD 2) (tsCons (setD 3) tsNil))) (f := bSeq (sIf (fOr (fTst boolD (fBin geD (fVar 2) (fVar 1))) (fTst boolD (fBin ninD (fVar 3) (fC (.str "abcdefghijklmnopqrstuvwxyz"))))) (bSeq (sRet (fVar 2)) bNil) bNil) bNil)
    (fun i ρ => i ≤ (tx x).length ∧ (∃ a b, ρ = [.d (.str x), .d (.int m), a, b]) ∧ badF m i ((tx x).drop i) = badF m 0 (tx x)) (fun z => z = .rt (.int (badF m 0 (tx x)))) (dEnum (chars x)) 0 [.d (.str x), .d (.int m), .un, .un] (fun i d ρ hd hp => by
      obtain ⟨hle, ⟨a, b, rfl⟩, hb⟩ := hp
      rw [Nat.zero_add] at hb ⊢
      have hlen : (dEnum (chars x)).length = (tx x).length := by
        unfold dEnum chars
        rw [dEnumAux_len, List.length_map]
        rfl
      have hi : i < (tx x).length := by rw [← hlen]; exact get_lt hd
      have hg := dEnumAux_get 0 (chars x) i (ch (tx x)[i]) (by unfold chars; rw [List.getElem?_map]; show ((tx x)[i]?).map _ = _; rw [List.getElem?_eq_getElem hi]; rfl)
      rw [Nat.zero_add] at hg
      have hd' : some d = some (.tup [.int (i : Nat), ch (tx x)[i]]) := by
        rw [← hd]
        exact hg
      cases hd'
      rw [badF_drop hi] at hb
      by_cases h1 : m ≤ (i : Int)
      · rw [if_pos (.inl h1)] at hb
        right; left
        rw [← hb]
        simp [seq_bNil, bSeq, bNil, sAsg, sAsgO, setO, setD, sIf, sRet, sDrop, sFor, sApp, fC, fVar, fBin, fLate, slotD, fTst, boolD, fAnd, fOr, fNot, fUn, negD, fIf, fBlt, fLenN, fTup, fO, oLst, aNil, aCons, fSl, pNone, pSome, intD, fPop, ownAt, iSeq, iRange1, iRange2, iEnum1, addD, subI, modI, fdivI, cmpI, ltD, leD, gtD, geD, lenOf, lenL, intL, gUn, tsCons, tsNil, List.getElem?_cons_zero, List.getElem?_cons_succ, List.set_cons_zero, List.set_cons_succ, List.length_cons, List.length_nil, h1]
      · by_cases h2 : isL (tx x)[i] = false
        · rw [if_pos (.inr h2)] at hb
          right; left
          rw [← hb]
          simp [seq_bNil, bSeq, bNil, sAsg, sAsgO, setO, setD, sIf, sRet, sDrop, sFor, sApp, fC, fVar, fBin, fLate, slotD, fTst, boolD, fAnd, fOr, fNot, fUn, negD, fIf, fBlt, fLenN, fTup, fO, oLst, aNil, aCons, fSl, pNone, pSome, intD, fPop, ownAt, iSeq, iRange1, iRange2, iEnum1, addD, subI, modI, fdivI, cmpI, ltD, leD, gtD, geD, lenOf, lenL, intL, gUn, tsCons, tsNil, List.getElem?_cons_zero, List.getElem?_cons_succ, List.set_cons_zero, List.set_cons_succ, List.length_cons, List.length_nil, h1, nin_ch, h2]
        · rw [if_neg (fun z => z.elim h1 h2)] at hb
          left
          have h2' : isL (tx x)[i] = true := by simpa using h2
          exact ⟨[.d (.str x), .d (.int m), .d (.int (i : Nat)), .d (ch (tx x)[i])], .inl (by simp [seq_bNil, bSeq, bNil, sAsg, sAsgO, setO, setD, sIf, sRet, sDrop, sFor, sApp, fC, fVar, fBin, fLate, slotD, fTst, boolD, fAnd, fOr, fNot, fUn, negD, fIf, fBlt, fLenN, fTup, fO, oLst, aNil, aCons, fSl, pNone, pSome, intD, fPop, ownAt, iSeq, iRange1, iRange2, iEnum1, addD, subI, modI, fdivI, cmpI, ltD, leD, gtD, geD, lenOf, lenL, intL, gUn, tsCons, tsNil, List.getElem?_cons_zero, List.getElem?_cons_succ, List.set_cons_zero, List.set_cons_succ, List.length_cons, List.length_nil, h1, nin_ch, h2']), by omega, ⟨_, _, rfl⟩, hb⟩) ⟨by omega, ⟨_, _, rfl⟩, rfl⟩
  unfold blBody
  rw [bSeq_app, e0]
  have hlen : (dEnum (chars x)).length = (tx x).length := by
    unfold dEnum chars
    rw [dEnumAux_len, List.length_map]
    rfl
  rcases h with ⟨ρ', h, _, ⟨a, b, rfl⟩, hb⟩ | h
  · rw [h, Fl.seq_nx]
    rw [Nat.zero_add, hlen, List.drop_length] at hb
    rw [← hb]
    simp [seq_bNil, bSeq, bNil, sAsg, sAsgO, setO, setD, sIf, sRet, sDrop, sFor, sApp, fC, fVar, fBin, fLate, slotD, fTst, boolD, fAnd, fOr, fNot, fUn, negD, fIf, fBlt, fLenN, fTup, fO, oLst, aNil, aCons, fSl, pNone, pSome, intD, fPop, ownAt, iSeq, iRange1, iRange2, iEnum1, addD, subI, modI, fdivI, cmpI, ltD, leD, gtD, geD, lenOf, lenL, intL, gUn, tsCons, tsNil, List.getElem?_cons_zero, List.getElem?_cons_succ, List.set_cons_zero, List.set_cons_succ, List.length_cons, List.length_nil, Fl.fin, badF]
  · rw [h]
    rfl
theorem sIf_t {c : En → Res Bool} {a b : En → Fl} {ρ ρ' : En} (h : c ρ = .ok true ρ') : sIf c a b ρ = a ρ' := by
  unfold sIf
  rw [h]
  rfl
theorem sIf_f {c : En → Res Bool} {a b : En → Fl} {ρ ρ' : En} (h : c ρ = .ok false ρ') : sIf c a b ρ = b ρ' := by
  unfold sIf
  rw [h]
  rfl
theorem fBin_ok {g : D → D → Option D} {fa fb : En → Res D} {ρ ρ1 ρ2 : En} {x y z : D} (ha : fa ρ = .ok x ρ1) (hb : fb ρ1 = .ok y ρ2) (h : g x y = some z) : fBin g fa fb ρ = .ok z ρ2 := by
  unfold fBin
  rw [ha, Res.bind_ok, hb, Res.bind_ok, h]
  rfl
/-! ### slices -/
theorem cut_drop {α : Type} (f : α → D) (xs : List α) {p : Int} (h : 0 ≤ p) : cutD (xs.map f) (some p) none = (xs.drop p.toNat).map f := by
  obtain ⟨k, rfl⟩ : ∃ k : Nat, p = (k : Int) := ⟨p.toNat, by omega⟩
  show ((xs.map f).drop (HT.sIx (xs.map f).length 0 (some (k : Int)))).take (HT.sIx (xs.map f).length (xs.map f).length none - HT.sIx (xs.map f).length 0 (some (k : Int))) = _
  rw [HT.sIx_none, HT.sIx_nat, List.length_map, Int.toNat_natCast, ← List.map_drop, ← List.map_take]
  congr 1
  rcases Nat.le_total k xs.length with q | q
  · rw [Nat.min_eq_left q, List.take_of_length_le (Nat.le_of_eq List.length_drop)]
  · rw [Nat.min_eq_right q, Nat.sub_self, List.take_zero, List.drop_eq_nil_of_le q]
theorem cut_take {α : Type} (f : α → D) (xs : List α) {p : Int} (h : 0 ≤ p) : cutD (xs.map f) none (some p) = (xs.take p.toNat).map f := by
  obtain ⟨k, rfl⟩ : ∃ k : Nat, p = (k : Int) := ⟨p.toNat, by omega⟩
  show ((xs.map f).drop (HT.sIx (xs.map f).length 0 none)).take (HT.sIx (xs.map f).length (xs.map f).length (some (k : Int)) - HT.sIx (xs.map f).length 0 none) = _
  rw [HT.sIx_none, HT.sIx_nat, List.length_map, Int.toNat_natCast, List.drop_zero, Nat.sub_zero, ← List.map_take]
  congr 1
  rcases Nat.le_total k xs.length with q | q
  · rw [Nat.min_eq_left q]
  · rw [Nat.min_eq_right q, List.take_of_length_le (Nat.le_refl _), List.take_of_length_le q]
theorem cut_mid {α : Type} (f : α → D) (xs : List α) {p q : Int} (h : 0 ≤ p) (h2 : p ≤ q) (h3 : q ≤ xs.length) : cutD (xs.map f) (some p) (some q) = ((xs.drop p.toNat).take (q - p).toNat).map f := by
  obtain ⟨k, rfl⟩ : ∃ k : Nat, p = (k : Int) := ⟨p.toNat, by omega⟩
  obtain ⟨l, rfl⟩ : ∃ l : Nat, q = (l : Int) := ⟨q.toNat, by omega⟩
  show ((xs.map f).drop (HT.sIx (xs.map f).length 0 (some (k : Int)))).take (HT.sIx (xs.map f).length (xs.map f).length (some (l : Int)) - HT.sIx (xs.map f).length 0 (some (k : Int))) = _
  rw [HT.sIx_nat, HT.sIx_nat, List.length_map, Int.toNat_natCast, ← List.map_drop, ← List.map_take]
  have h4 : k ≤ xs.length := by omega
  have h5 : l ≤ xs.length := by omega
  rw [Nat.min_eq_left h4, Nat.min_eq_left h5]
  have : ((l : Int) - (k : Int)).toNat = l - k := by omega
  rw [this]
theorem slL_drop {α : Type} (f : α → D) (xs : List α) {p : Int} (h : 0 ≤ p) : slD (.lst (xs.map f)) (some p) none = some (.lst ((xs.drop p.toNat).map f)) := by
  show some (D.lst _) = _
  rw [cut_drop f xs h]
theorem slL_take {α : Type} (f : α → D) (xs : List α) {p : Int} (h : 0 ≤ p) : slD (.lst (xs.map f)) none (some p) = some (.lst ((xs.take p.toNat).map f)) := by
  show some (D.lst _) = _
  rw [cut_take f xs h]
theorem slT_drop {α : Type} (f : α → D) (xs : List α) {p : Int} (h : 0 ≤ p) : slD (.tup (xs.map f)) (some p) none = some (.tup ((xs.drop p.toNat).map f)) := by
  show some (D.tup _) = _
  rw [cut_drop f xs h]
theorem slT_take {α : Type} (f : α → D) (xs : List α) {p : Int} (h : 0 ≤ p) : slD (.tup (xs.map f)) none (some p) = some (.tup ((xs.take p.toNat).map f)) := by
  show some (D.tup _) = _
  rw [cut_take f xs h]
theorem sl_str {t : Str} (h : t.length ≤ lim) (lo hi : Option Int) : ∃ u : Str, slD (.str t) lo hi = some (.str u) ∧ u.length ≤ t.length := by
  refine ⟨cutS t lo hi, if_pos h, ?_⟩
  rw [← tx_len, ← tx_len]
  show (((tx t).drop (HT.sIx t.length 0 lo)).take (HT.sIx t.length t.length hi - HT.sIx t.length 0 lo)).length ≤ _
  rw [List.length_take, List.length_drop]
  omega
theorem let_get : ∀ z : Nat, z < 26 → (tx LT)[z]? = some (97 + z) := by decide +kernel
theorem let_isL : ∀ z : Nat, z < 26 → isL (97 + z) = true := by decide +kernel
theorem let_at {z : Int} (h0 : 0 ≤ z) (h1 : z < 26) : subD (.str LT) (.int z) = some (ch (97 + z.toNat)) := by
  obtain ⟨k, rfl⟩ : ∃ k : Nat, z = (k : Int) := ⟨z.toNat, by omega⟩
  have hk : k < 26 := by omega
  have hl : LT.length ≤ lim := by decide +kernel
  show (if LT.length ≤ lim then (atI (tx LT) (k : Int)).map fun c => D.str ⟨#[c]⟩ else none) = _
  rw [if_pos hl]
  have h2 := let_get k hk
  obtain ⟨hl2, he⟩ := List.getElem?_eq_some_iff.mp h2
  rw [PD.atI_nat hl2, he, Int.toNat_natCast]
  rfl
theorem mod_ok (a : Int) {b : Int} (h : 0 < b) : 0 ≤ a % b ∧ a % b < b := ⟨Int.emod_nonneg a (by omega), Int.emod_lt_of_pos a h⟩
theorem one_len (c : Nat) : (⟨#[c]⟩ : Str).length = 1 := rfl
theorem addS' {a b : Str} (h : a.length + b.length ≤ lim) : addD (.str a) (.str b) = some (.str (a ++ b)) := if_pos h
theorem tx_cat (a b : Str) : tx (a ++ b) = tx a ++ tx b := by
  show ((a.cps ++ b.cps).toList) = _
  rw [Array.toList_append]
  rfl
theorem len_cat (a b : Str) : (a ++ b).length = a.length + b.length := by
  rw [← tx_len, ← tx_len, ← tx_len, ← List.length_append, tx_cat]
theorem addL' {a b : List D} (h : a.length + b.length ≤ lim) : addD (.lst a) (.lst b) = some (.lst (a ++ b)) := if_pos h
theorem addT' {a b : List D} (h : a.length + b.length ≤ lim) : addD (.tup a) (.tup b) = some (.tup (a ++ b)) := if_pos h
theorem subL_map {α : Type} (f : α → D) {xs : List α} {z : Int} (h0 : 0 ≤ z) (h1 : z < xs.length) : ∃ x ∈ xs, subD (.lst (xs.map f)) (.int z) = some (f x) := by
  obtain ⟨k, rfl⟩ : ∃ k : Nat, z = (k : Int) := ⟨z.toNat, by omega⟩
  have hk : k < xs.length := by omega
  refine ⟨xs[k], List.getElem_mem hk, ?_⟩
  show atI (xs.map f) (k : Nat) = _
  rw [PD.atI_nat (by rw [List.length_map]; exact hk), List.getElem_map]
theorem subL_at {α : Type} (f : α → D) {xs : List α} {k : Nat} (hk : k < xs.length) : subD (.lst (xs.map f)) (.int (k : Nat)) = some (f xs[k]) := by
  show atI (xs.map f) (k : Nat) = _
  rw [PD.atI_nat (by rw [List.length_map]; exact hk), List.getElem_map]
theorem len_map {α : Type} (f : α → D) (xs : List α) : lenOf (.lst (xs.map f)) = some (.int (xs.length : Nat)) := by
  show some (D.int (xs.map f).length) = _
  rw [List.length_map]
theorem len_mapT {α : Type} (f : α → D) (xs : List α) : lenOf (.tup (xs.map f)) = some (.int (xs.length : Nat)) := by
  show some (D.int (xs.map f).length) = _
  rw [List.length_map]
/-- the row: ints from 0 to 996 -/
def RowOk (k : Nat) (R : List Int) : Prop := k ≤ R.length ∧ ∀ r ∈ R, 0 ≤ r ∧ r < 997
theorem RowOk.at {k : Nat} {R : List Int} (h : RowOk k R) {i : Int} (h0 : 0 ≤ i) (h1 : i < k) : ∃ x : Int, (0 ≤ x ∧ x < 997) ∧ subD (.lst (R.map D.int)) (.int i) = some (.int x) := by
  obtain ⟨x, hx, e⟩ := subD_int (ns := R) h0 (by have := h.1; omega)
  exact ⟨x, h.2 x hx, e⟩
/-! ### a loop that looks for the first place at which p is false -/
theorem forD_scan {g : D → En → Fl} {f : En → Fl} (I : En → Prop) (p : Nat → Bool) (Z : Nat → Fl → Prop) (hz : ∀ i z, Z i z → (∃ v, z = .rt v) ∨ ∃ x ρ', z = .exc x ρ') {ds : List D} {ρ : En}
    (h : ∀ i d ρ, ds[i]? = some d → I ρ → (p i = true ∧ ∃ ρ', (g d ρ).seq f = .nx ρ' ∧ I ρ') ∨ (p i = false ∧ Z i ((g d ρ).seq f))) (h0 : I ρ) :
    ((∀ i, i < ds.length → p i = true) ∧ ∃ ρ', forD g f ds ρ = .nx ρ' ∧ I ρ') ∨ ∃ i, i < ds.length ∧ p i = false ∧ (∀ j, j < i → p j = true) ∧ Z i (forD g f ds ρ) := by
  have := forD_inv (g := g) (f := f) (fun i ρ => I ρ ∧ ∀ j, j < i → p j = true) (fun z => ∃ i, i < ds.length ∧ p i = false ∧ (∀ j, j < i → p j = true) ∧ Z i z) ds 0 ρ (fun i d ρ hd hp => by
    rw [Nat.zero_add] at hp ⊢
    rcases h i d ρ hd hp.1 with ⟨h1, ρ', e, hi⟩ | ⟨h1, h2⟩
    · refine .inl ⟨ρ', .inl e, hi, fun j hj => ?_⟩
      by_cases e : j = i
      · rw [e]; exact h1
      · exact hp.2 j (by omega)
    · have : ∃ i, i < ds.length ∧ p i = false ∧ (∀ j, j < i → p j = true) ∧ Z i ((g d ρ).seq f) := ⟨i, get_lt hd, h1, hp.2, h2⟩
      rcases hz _ _ h2 with e | e
      · exact .inr (.inl ⟨e, this⟩)
      · exact .inr (.inr ⟨e, this⟩)) ⟨h0, fun j hj => by omega⟩
  rw [Nat.zero_add] at this
  rcases this with ⟨ρ', e, h1, h2⟩ | h
  · exact .inl ⟨h2, ρ', e, h1⟩
  · exact .inr h
/-! ### comprehensions over pairs -/
theorem lcGo_map2 {α : Type} {te : En → Res D} {v1 v2 : Nat} {ρ : En} (f1 f2 : α → D) (g : α → D) (h1 : ρ[v1]? = some .un) (h2 : ρ[v2]? = some .un) (hv : v1 ≠ v2) : ∀ (xs : List α) (acc : List D),
    (∀ x ∈ xs, te ((ρ.set v1 (.d (f1 x))).set v2 (.d (f2 x))) = .ok (g x) ((ρ.set v1 (.d (f1 x))).set v2 (.d (f2 x)))) → acc.length + xs.length < lim →
    lcGo (gUn 2 (tsCons (setD v1) (tsCons (setD v2) tsNil))) tYesD te [v1, v2] (xs.map fun x => .tup [f1 x, f2 x]) acc ρ = .ok (acc ++ xs.map g) ρ
  | [], acc, _, _ => by
    rw [List.map_nil]
    unfold lcGo
    simp
  | x :: r, acc, he, hl => by
    rw [List.map_cons]
    unfold lcGo
    have hs : gUn 2 (tsCons (setD v1) (tsCons (setD v2) tsNil)) (.tup [f1 x, f2 x]) ρ = .nx ((ρ.set v1 (.d (f1 x))).set v2 (.d (f2 x))) := by
      show tsCons (setD v1) (tsCons (setD v2) tsNil) [f1 x, f2 x] ρ = _
      have e1 : setD v1 (f1 x) ρ = .nx (ρ.set v1 (.d (f1 x))) := if_pos (get_lt h1)
      have e2 : setD v2 (f2 x) (ρ.set v1 (.d (f1 x))) = .nx ((ρ.set v1 (.d (f1 x))).set v2 (.d (f2 x))) := if_pos (by rw [List.length_set]; exact get_lt h2)
      show (setD v1 (f1 x) ρ).seq (fun ρ => (setD v2 (f2 x) ρ).seq (tsNil [])) = _
      rw [e1, Fl.seq_nx]
      show (setD v2 (f2 x) (ρ.set v1 (.d (f1 x)))).seq _ = _
      rw [e2, Fl.seq_nx]
      rfl
    simp only [hs]
    rw [List.length_cons] at hl
    have w : wipeE ((ρ.set v1 (.d (f1 x))).set v2 (.d (f2 x))) [v1, v2] = ρ := by
      show ((((ρ.set v1 (.d (f1 x))).set v2 (.d (f2 x))).set v2 .un).set v1 .un) = ρ
      rw [set_set, List.set_comm _ _ hv, set_set]
      have e2 : (ρ.set v2 .un) = ρ := by
        obtain ⟨q1, q2⟩ := List.getElem?_eq_some_iff.mp h2
        rw [← q2, List.set_getElem_self]
      rw [e2]
      obtain ⟨q1, q2⟩ := List.getElem?_eq_some_iff.mp h1
      rw [← q2, List.set_getElem_self]
    simp only [tYesD, he x (List.mem_cons_self ..), w, if_true]
    rw [if_pos (by omega), lcGo_map2 f1 f2 g h1 h2 hv r (acc ++ [g x]) (fun y hy => he y (List.mem_cons_of_mem _ hy)) (by rw [List.length_append, List.length_singleton]; omega)]
    simp
theorem aGet_kSS (k : Str) : ∀ es : List (Str × Str), aGet (kSS es) (.inr k) = (es.lookup k).map D.str
  | [] => rfl
  | p :: r => by
    have ih := aGet_kSS k r
    unfold kSS at ih ⊢
    rw [List.map_cons, aGet_cons, ih, List.lookup_cons]
    by_cases e : p.1 = k
    · subst e
      simp
    · have e1 : ¬ ((Sum.inr p.1 : Key) = .inr k) := fun z => e (Sum.inr.inj z)
      have e2 : (k == p.1) = false := by simpa using fun z => e z.symm
      rw [if_neg e1, e2]
theorem blsOf_map {α : Type} (f : α → Bool) : ∀ xs : List α, blsOf (xs.map fun x => .bl (f x)) = some (xs.map f)
  | [] => rfl
  | x :: r => by
    rw [List.map_cons]
    show (blsOf _).map _ = _
    rw [blsOf_map f r]
    rfl
theorem all_map {α : Type} (f : α → Bool) (xs : List α) : allL [.lst (xs.map fun x => .bl (f x))] = some (.bl (xs.all f)) := by
  show (blsOf _).map _ = _
  rw [blsOf_map]
  show some (D.bl ((xs.map f).all id)) = _
  congr 2
  induction xs with
  | nil => rfl
  | cons x r ih => simp [List.all_cons, ih]
end PD
set_option Elab.async false
set_option linter.all false
set_option maxRecDepth 100000
set_option maxHeartbeats 4000000
/-! generated by wip/gen.py for adjoinedtongues_k19_stack_rules_refused -/
namespace G
open PySem PySem.Spec L2 PD
def top (i : Nat) : Stmt := PySem.Challenge.pw_adjoinedtongues_k19_stack_rules_refused.main.body.getD i (.Pass ⟨0, 0, 0, 0⟩)
abbrev s_bad_letter : Stmt := (top 11)
abbrev s_is_leaf_text : Stmt := (top 22)
abbrev s_is_name : Stmt := (top 23)
abbrev s_is_part : Stmt := (top 26)
abbrev s_is_stack_rule : Stmt := (top 27)
abbrev s_StackGrammar_init : Stmt := (inCls (top 31) 1)
abbrev s_Grammar_init_StackGrammar : Stmt := (inCls (top 13) 1)
abbrev s__law_row : Stmt := (top 33)
abbrev s__law_text : Stmt := (top 34)
abbrev s__law_rule : Stmt := (top 35)
abbrev s__law_rules : Stmt := (top 36)
abbrev s__law_same : Stmt := (top 37)
abbrev s__law_good_rule : Stmt := (top 38)
abbrev s__law_due_answer : Stmt := (top 39)
abbrev s__law_told : Stmt := (top 40)
abbrev s__law_odd_parts : Stmt := (top 41)
abbrev s__law_bent : Stmt := (top 42)
abbrev s__law_edges : Stmt := (top 43)
abbrev s__law_limits : Stmt := (top 44)
abbrev s_law : Stmt := (top 45)
theorem sc_bad_letter : FnScope ["text", "most", "place", "letter"] ["text", "most"] (defScope s_bad_letter) := ⟨rfl, rfl, rfl, by decide +kernel, rfl, by decide +kernel, by decide +kernel⟩
theorem sc_is_leaf_text : FnScope ["text"] ["text"] (defScope s_is_leaf_text) := ⟨rfl, rfl, rfl, by decide +kernel, rfl, by decide +kernel, by decide +kernel⟩
theorem sc_is_name : FnScope ["name", "names"] ["name", "names"] (defScope s_is_name) := ⟨rfl, rfl, rfl, by decide +kernel, rfl, by decide +kernel, by decide +kernel⟩
theorem sc_is_part : FnScope ["value", "part", "names", "signs"] ["value", "part", "names", "signs"] (defScope s_is_part) := ⟨rfl, rfl, rfl, by decide +kernel, rfl, by decide +kernel, by decide +kernel⟩
theorem sc_is_stack_rule : FnScope ["rule", "names", "signs", "parts", "value", "part"] ["rule", "names", "signs"] (defScope s_is_stack_rule) := ⟨rfl, rfl, rfl, by decide +kernel, rfl, by decide +kernel, by decide +kernel⟩
theorem sc_StackGrammar_init : SupScope ["self", "names", "signs", "rules", "place", "rule"] ["self", "names", "signs", "rules"] (defScope s_StackGrammar_init) := ⟨rfl, rfl, rfl, by decide +kernel, rfl, by decide +kernel, by decide +kernel, sup_free _ (by decide +kernel), rfl, rfl⟩
theorem sc_Grammar_init_StackGrammar : FnScope ["self", "names", "rules"] ["self", "names", "rules"] (defScope s_Grammar_init_StackGrammar) := ⟨rfl, rfl, rfl, by decide +kernel, rfl, by decide +kernel, by decide +kernel⟩
theorem sc__law_row : FnScope ["script", "many", "rest", "row", "mixed", "k", "cell"] ["script", "many"] (defScope s__law_row) := ⟨rfl, rfl, rfl, by decide +kernel, rfl, by decide +kernel, by decide +kernel⟩
theorem sc__law_text : FnScope ["number", "length", "letters", "k"] ["number"] (defScope s__law_text) := ⟨rfl, rfl, rfl, by decide +kernel, rfl, by decide +kernel, by decide +kernel⟩
theorem sc__law_rule : FnScope ["drawn", "names", "signs", "wide", "tall", "kind", "head", "name"] ["drawn", "names", "signs", "wide", "tall"] (defScope s__law_rule) := ⟨rfl, rfl, rfl, by decide +kernel, rfl, by decide +kernel, by decide +kernel⟩
theorem sc__law_rules : FnScope ["row", "names", "signs", "wide", "tall", "rules", "k", "f", "turn"] ["row", "names", "signs", "wide", "tall"] (defScope s__law_rules) := ⟨rfl, rfl, rfl, by decide +kernel, rfl, by decide +kernel, by decide +kernel⟩
theorem sc__law_same : FnScope ["told", "due", "waiting", "k", "one", "two", "at"] ["told", "due"] (defScope s__law_same) := ⟨rfl, rfl, rfl, by decide +kernel, rfl, by decide +kernel, by decide +kernel⟩
theorem sc__law_good_rule : FnScope ["rule", "names", "signs", "forms", "k", "sort", "part", "strange", "letter"] ["rule", "names", "signs"] (defScope s__law_good_rule) := ⟨rfl, rfl, rfl, by decide +kernel, rfl, by decide +kernel, by decide +kernel⟩
theorem sc__law_due_answer : FnScope ["names", "signs", "rules", "place"] ["names", "signs", "rules"] (defScope s__law_due_answer) := ⟨rfl, rfl, rfl, by decide +kernel, rfl, by decide +kernel, by decide +kernel⟩
theorem sc__law_told : FnScope ["names", "signs", "rules", "passed", "grammar", "e", "kinds"] ["names", "signs", "rules"] (defScope s__law_told) := ⟨rfl, rfl, rfl, by decide +kernel, rfl, by decide +kernel, by decide +kernel⟩
theorem sc__law_odd_parts : FnScope ["names", "signs", "odd"] ["names", "signs"] (defScope s__law_odd_parts) := ⟨rfl, rfl, rfl, by decide +kernel, rfl, by decide +kernel, by decide +kernel⟩
theorem sc__law_bent : FnScope ["rule", "way", "pick", "names", "signs", "odd", "place", "rest", "kinds", "bent"] ["rule", "way", "pick", "names", "signs"] (defScope s__law_bent) := ⟨rfl, rfl, rfl, by decide +kernel, rfl, by decide +kernel, by decide +kernel⟩
theorem sc__law_edges : FnScope ["names", "signs", "edges", "forms", "kind", "sorts", "plain", "k", "part", "sort"] ["names", "signs"] (defScope s__law_edges) := ⟨rfl, rfl, rfl, by decide +kernel, rfl, by decide +kernel, by decide +kernel⟩
theorem sc__law_limits : FnScope ["names", "signs", "rules", "row", "stop", "bad", "full", "place", "spoilt", "asked", "one", "two", "rows"] ["names", "signs", "rules", "row"] (defScope s__law_limits) := ⟨rfl, rfl, rfl, by decide +kernel, rfl, by decide +kernel, by decide +kernel⟩
theorem sc_law : FnScope ["script", "row", "names", "signs", "rules", "edge", "ways", "way", "one", "two", "drawn", "bent", "place"] ["script"] (defScope s_law) := ⟨rfl, rfl, rfl, by decide +kernel, rfl, by decide +kernel, by decide +kernel⟩
def ex_Fault : Str → Option Bool := fun n => List.lookup n [("BadRule", true), ("TooMany", true)]
def ok_limit : Str → Bool := fun n => List.contains (["TooMany"] : List Str) n
def ok_place : Str → Bool := fun n => List.contains (["BadRule"] : List Str) n
def is_BadLine : Str → Option Bool := fun n => List.lookup n [("BadRule", false), ("TooMany", false)]
def is_BadRule : Str → Option Bool := fun n => List.lookup n [("BadRule", true), ("TooMany", false)]
def is_TooMany : Str → Option Bool := fun n => List.lookup n [("BadRule", false), ("TooMany", true)]
def is_ValueError : Str → Option Bool := fun n => List.lookup n [("BadRule", true), ("TooMany", true)]
def isI_Grammar : Str → Option Bool := fun n => List.lookup n [("StackGrammar", true)]
def ents_PARTS : List (Str × D) := [("emit", .tup [(.str "name"), (.str "name"), (.str "text"), (.str "text")]), ("before", .tup [(.str "name"), (.str "name"), (.str "name")]), ("after", .tup [(.str "name"), (.str "name"), (.str "name")]), ("push", .tup [(.str "name"), (.str "name"), (.str "sign")]), ("pop", .tup [(.str "name"), (.str "sign"), (.str "name")]), ("stop", .tup [(.str "name"), (.str "text")])]
def bod_bad_letter : En → Fl := (bSeq (sFor (iEnum1 (aCons (fVar 0) aNil)) (gUn 2 (tsCons (setD 2) (tsCons (setD 3) tsNil))) (bSeq (sIf (fOr (fTst boolD (fBin geD (fVar 2) (fVar 1))) (fTst boolD (fBin ninD (fVar 3) (fC (.str "abcdefghijklmnopqrstuvwxyz"))))) (bSeq (sRet (fVar 2)) bNil) bNil) bNil)) (bSeq (sRet (fUn negD (fC (.int 1)))) bNil))
def den_bad_letter : List D → FR := fnD 2 4 bod_bad_letter
def bod_is_name : En → Fl := (bSeq (sRet (fAndV (fBlt isiL (aCons (fVar 0) (aCons (fC (.ty "int")) aNil))) (fChain leD ltD (fC (.int 0)) (fVar 0) (fVar 1)))) bNil)
def den_is_name : List D → FR := fnD 2 2 bod_is_name
def bod__law_row : En → Fl := (bSeq (sAsg (fC (.int 0)) (setD 2)) (bSeq (sIf (fAnd (fTst boolD (fBin gtD (fLenN 0) (fC (.int 0)))) (fTst boolD (fBin geD (fLate 0 subD (fC (.int 0))) (fBin powI (fC (.int 10)) (fC (.int 18)))))) (bSeq (sAsg (fLate 0 subD (fC (.int 0))) (setD 2)) bNil) bNil) (bSeq (sAsgO (oLst aNil) 3) (bSeq (sAsg (fC (.int 12345)) (setD 4)) (bSeq (sFor (iRange1 (aCons (fVar 1) aNil)) (setD 5) (bSeq (sAsg (fVar 5) (setD 6)) (bSeq (sIf (fTst boolD (fBin gtD (fLenN 0) (fC (.int 0)))) (bSeq (sAsg (fLate 0 subD (fBin modI (fBlt intL (aCons (fVar 5) aNil)) (fBlt minL (aCons (fLenN 0) (aCons (fC (.int 63)) aNil))))) (setD 6)) bNil) bNil) (bSeq (sAsg (fBin modI (fBlt intL (aCons (fBin addD (fBin addD (fBin mulD (fVar 4) (fC (.int 48271))) (fBin mulD (fBin modI (fBlt intL (aCons (fVar 6) aNil)) (fC (.int 1000003))) (fC (.int 69621)))) (fBin mulD (fVar 5) (fC (.int 7907)))) aNil)) (fC (.int 2147483647))) (setD 4)) (bSeq (sIf (fTst boolD (fBin gtD (fVar 2) (fC (.int 0)))) (bSeq (sApp 3 (fBin modI (fBlt intL (aCons (fVar 2) aNil)) (fC (.int 997)))) (bSeq (sAsg (fBin fdivI (fVar 2) (fC (.int 997))) (setD 2)) bNil)) (bSeq (sApp 3 (fBin modI (fBlt intL (aCons (fBin fdivI (fVar 4) (fC (.int 11))) aNil)) (fC (.int 997)))) bNil)) bNil))))) (bSeq (sRet (fVar 3)) bNil))))))
def den__law_row : List D → FR := fnD 2 7 bod__law_row
def bod__law_text : En → Fl := (bSeq (sAsg (fBin subD (fO (oLst (aCons (fC (.int 0)) (aCons (fC (.int 1)) (aCons (fC (.int 1)) (aCons (fC (.int 2)) (aCons (fC (.int 2)) (aCons (fC (.int 3)) (aCons (fC (.int 0)) (aCons (fC (.int 1)) (aCons (fC (.int 1)) (aCons (fC (.int 2)) (aCons (fC (.int 1)) (aCons (fC (.int 12)) aNil)))))))))))))) (fBin modI (fBlt intL (aCons (fVar 0) aNil)) (fC (.int 12)))) (setD 1)) (bSeq (sAsg (fC (.str "")) (setD 2)) (bSeq (sFor (iRange1 (aCons (fVar 1) aNil)) (setD 3) (bSeq (sAsg (fBin addD (fVar 2) (fBin subD (fC (.str "abcdefghijklmnopqrstuvwxyz")) (fBin modI (fBlt intL (aCons (fBin addD (fBin fdivI (fVar 0) (fC (.int 12))) (fBin mulD (fVar 3) (fBin addD (fC (.int 1)) (fBin modI (fBlt intL (aCons (fVar 0) aNil)) (fC (.int 5)))))) aNil)) (fC (.int 26))))) (setD 2)) bNil)) (bSeq (sRet (fVar 2)) bNil))))
def den__law_text : List D → FR := fnD 1 4 bod__law_text
def bod__law_same : En → Fl := (bSeq (sAsgO (oLst (aCons (fTup (aCons (fVar 0) (aCons (fVar 1) aNil))) aNil)) 2) (bSeq (sFor (iRange1 (aCons (fC (.int 200000)) aNil)) (setD 3) (bSeq (sIf (fTst boolD (fLate 2 eqD (fO (oLst aNil)))) (bSeq (sRet (fC (.bl true))) bNil) bNil) (bSeq (sAsg (fPop 2) (gUn 2 (tsCons (setD 4) (tsCons (setD 5) tsNil)))) (bSeq (sIf (fTst boolD (fBin isNonD (fVar 5) (fC .non))) (bSeq (sIf (fTst boolD (fBin isNotNonD (fVar 4) (fC .non))) (bSeq (sRet (fC (.bl false))) bNil) bNil) bNil) (bSeq (sIf (fTst boolD (fBlt isiL (aCons (fVar 5) (aCons (fC (.ty "bool")) aNil)))) (bSeq (sIf (fOr (fNot (fTst boolD (fBlt isiL (aCons (fVar 4) (aCons (fC (.ty "bool")) aNil))))) (fTst boolD (fLate 4 neD (fVar 5)))) (bSeq (sRet (fC (.bl false))) bNil) bNil) bNil) (bSeq (sIf (fTst boolD (fBlt isiL (aCons (fVar 5) (aCons (fC (.ty "int")) aNil)))) (bSeq (sIf (fOr (fNot (fTst boolD (fBlt isiL (aCons (fVar 4) (aCons (fC (.ty "int")) aNil))))) (fOr (fTst boolD (fBlt isiL (aCons (fVar 4) (aCons (fC (.ty "bool")) aNil)))) (fTst boolD (fLate 4 neD (fVar 5))))) (bSeq (sRet (fC (.bl false))) bNil) bNil) bNil) (bSeq (sIf (fTst boolD (fBlt isiL (aCons (fVar 5) (aCons (fC (.ty "str")) aNil)))) (bSeq (sIf (fOr (fNot (fTst boolD (fBlt isiL (aCons (fVar 4) (aCons (fC (.ty "str")) aNil))))) (fTst boolD (fLate 4 neD (fVar 5)))) (bSeq (sRet (fC (.bl false))) bNil) bNil) bNil) (bSeq (sIf (fOr (fTst boolD (fBin neD (fBlt isiL (aCons (fVar 4) (aCons (fC (.ty "list")) aNil))) (fBlt isiL (aCons (fVar 5) (aCons (fC (.ty "list")) aNil))))) (fTst boolD (fBin neD (fBlt isiL (aCons (fVar 4) (aCons (fC (.ty "tuple")) aNil))) (fBlt isiL (aCons (fVar 5) (aCons (fC (.ty "tuple")) aNil)))))) (bSeq (sRet (fC (.bl false))) bNil) bNil) (bSeq (sIf (fTst boolD (fBin neD (fLenN 4) (fLenN 5))) (bSeq (sRet (fC (.bl false))) bNil) bNil) (bSeq (sFor (iRange1 (aCons (fLenN 5) aNil)) (setD 6) (bSeq (sApp 2 (fTup (aCons (fLate 4 subD (fVar 6)) (aCons (fLate 5 subD (fVar 6)) aNil)))) bNil)) bNil)))) bNil)) bNil)) bNil)) bNil)))) (bSeq (sRet (fC (.bl false))) bNil)))
def den__law_same : List D → FR := fnD 2 7 bod__law_same
def bod__law_good_rule : En → Fl := (bSeq (sAsg (fC (.dic (kSS [("emit", "nntt"), ("before", "nnn"), ("after", "nnn"), ("push", "nns"), ("pop", "nsn"), ("stop", "nt")]))) (setD 3)) (bSeq (sIf (fOr (fInD true (kOf (fLate 0 subD (fC (.int 0)))) (fVar 3)) (fTst boolD (fBin neD (fLenN 0) (fBin addD (fBlt lenL (aCons (fSubDk (fVar 3) (kOf (fLate 0 subD (fC (.int 0))))) aNil)) (fC (.int 1)))))) (bSeq (sRet (fC (.bl false))) bNil) bNil) (bSeq (sFor (iRange1 (aCons (fBin subI (fLenN 0) (fC (.int 1))) aNil)) (setD 4) (bSeq (sAsg (fBin subD (fSubDk (fVar 3) (kOf (fLate 0 subD (fC (.int 0))))) (fVar 4)) (setD 5)) (bSeq (sAsg (fLate 0 subD (fBin addD (fVar 4) (fC (.int 1)))) (setD 6)) (bSeq (sIf (fTst boolD (fBlt isiL (aCons (fVar 6) (aCons (fC (.ty "str")) aNil)))) (bSeq (sAsgO (fLc (iSeq (fVar 6)) (setD 8) (fTst boolD (fBin ninD (fVar 8) (fC (.str "abcdefghijklmnopqrstuvwxyz")))) (fVar 8) [8]) 7) (bSeq (sIf (fOr (fTst boolD (fLate 5 neD (fC (.str "t")))) (fOr (fTst boolD (fBin gtD (fLenN 6) (fC (.int 12)))) (fTst boolD (fLate 7 neD (fO (oLst aNil)))))) (bSeq (sRet (fC (.bl false))) bNil) bNil) bNil)) (bSeq (sIf (fOr (fTst boolD (fLate 5 eqD (fC (.str "t")))) (fOr (fTst boolD (fBin ltD (fVar 6) (fC (.int 0)))) (fOr (fAnd (fTst boolD (fLate 5 eqD (fC (.str "n")))) (fTst boolD (fBin geD (fVar 6) (fVar 1)))) (fAnd (fTst boolD (fLate 5 eqD (fC (.str "s")))) (fTst boolD (fBin geD (fVar 6) (fVar 2))))))) (bSeq (sRet (fC (.bl false))) bNil) bNil) bNil)) bNil)))) (bSeq (sRet (fC (.bl true))) bNil))))
def den__law_good_rule : List D → FR := fnD 3 9 bod__law_good_rule
def bod__law_odd_parts : En → Fl := (bSeq (sAsgO (oLst (aCons (fUn negD (fC (.int 1))) (aCons (fVar 0) (aCons (fBin addD (fVar 0) (fC (.int 1))) (aCons (fBin subI (fVar 0) (fC (.int 1))) (aCons (fVar 1) (aCons (fBin addD (fVar 1) (fC (.int 1))) (aCons (fBin subI (fVar 1) (fC (.int 1))) (aCons (fC (.int 0)) (aCons (fC (.int 300)) (aCons (fBin powI (fC (.int 10)) (fC (.int 9))) (aCons (fUn negD (fVar 0)) (aCons (fBin subI (fUn negD (fVar 1)) (fC (.int 1))) aNil))))))))))))) 2) (bSeq (sRet (fBin addD (fVar 2) (fO (oLst (aCons (fC (.str "")) (aCons (fC (.str "a")) (aCons (fC (.str "abcdefghijkl")) (aCons (fC (.str "abcdefghijklm")) (aCons (fC (.str "aB")) (aCons (fC (.str "a b")) (aCons (fC (.str " a")) (aCons (fC (.str "z1")) (aCons (fC (.str "0")) (aCons (fC (.str "`")) (aCons (fC (.str "{")) (aCons (fC (.str "-")) aNil)))))))))))))))) bNil))
def den__law_odd_parts : List D → FR := fnD 2 3 bod__law_odd_parts
def bod__law_edges : En → Fl := (bSeq (sAsgO (oLst aNil) 2) (bSeq (sAsgO (oLst (aCons (fTup (aCons (fC (.str "emit")) (aCons (fC (.str "nntt")) aNil))) (aCons (fTup (aCons (fC (.str "before")) (aCons (fC (.str "nnn")) aNil))) (aCons (fTup (aCons (fC (.str "after")) (aCons (fC (.str "nnn")) aNil))) (aCons (fTup (aCons (fC (.str "push")) (aCons (fC (.str "nns")) aNil))) (aCons (fTup (aCons (fC (.str "pop")) (aCons (fC (.str "nsn")) aNil))) (aCons (fTup (aCons (fC (.str "stop")) (aCons (fC (.str "nt")) aNil))) aNil))))))) 3) (bSeq (sFor (iSeq (fVar 3)) (gUn 2 (tsCons (setD 4) (tsCons (setD 5) tsNil))) (bSeq (sAsgO (fLc (iSeq (fVar 5)) (setD 9) tYesD (fBin subD (fO (oLst (aCons (fC (.int 0)) (aCons (fBin subI (fVar 1) (fC (.int 1))) (aCons (fC (.str "")) aNil))))) (fSIdx (fC (.str "nst")) (fVar 9))) [9]) 6) (bSeq (sFor (iRange1 (aCons (fLenN 5) aNil)) (setD 7) (bSeq (sFor (iSeq (fO (oLst (aCons (fUn negD (fC (.int 1))) (aCons (fBin subI (fVar 0) (fC (.int 1))) (aCons (fVar 0) (aCons (fBin subI (fVar 1) (fC (.int 1))) (aCons (fVar 1) (aCons (fC (.str "abcdefghijkl")) (aCons (fC (.str "abcdefghijklm")) aNil)))))))))) (setD 8) (bSeq (sApp 2 (fBlt tupleL (aCons (fBin addD (fBin addD (fBin addD (fO (oLst (aCons (fVar 4) aNil))) (fSl (fVar 6) pNone (pSome (fVar 7)))) (fO (oLst (aCons (fVar 8) aNil)))) (fSl (fVar 6) (pSome (fBin addD (fVar 7) (fC (.int 1)))) pNone)) aNil))) bNil)) bNil)) bNil))) (bSeq (sRet (fVar 2)) bNil))))
def den__law_edges : List D → FR := fnD 2 10 bod__law_edges
def bod_is_leaf_text : En → Fl := (bSeq (sRet (fAndV (fBlt isiL (aCons (fVar 0) (aCons (fC (.ty "str")) aNil))) (fBin ltD (fCall den_bad_letter (aCons (fVar 0) (aCons (fC (.int 12)) aNil)) []) (fC (.int 0))))) bNil)
def den_is_leaf_text : List D → FR := fnD 1 1 bod_is_leaf_text
def bod_Grammar_init_StackGrammar : En → Fl := (bSeq (sIf (fTst boolD (fBin gtD (fVar 1) (fC (.int 300)))) (bSeq (fRaise1 "TooMany" "limit" (aCons (fC (.int 300)) aNil)) bNil) bNil) (bSeq (sIf (fTst boolD (fBin gtD (fStD (fLenN 2)) (fC (.int 900)))) (bSeq (fRaise1 "TooMany" "limit" (aCons (fC (.int 900)) aNil)) bNil) bNil) (bSeq (sFldM "StackGrammar" "names" 0 (lName 0) (mFz (fVar 1))) (bSeq (sFldM "StackGrammar" "rules" 0 (lName 0) (mFz (fTupN 2))) bNil))))
def den_Grammar_init_StackGrammar : List Sl → IR := inS 3 3 bod_Grammar_init_StackGrammar
def bod__law_rule : En → Fl := (bSeq (sAsg (fBin subD (fO (oLst (aCons (fC (.str "emit")) (aCons (fC (.str "before")) (aCons (fC (.str "after")) (aCons (fC (.str "push")) (aCons (fC (.str "emit")) (aCons (fC (.str "push")) (aCons (fC (.str "pop")) (aCons (fC (.str "stop")) aNil)))))))))) (fBin modI (fBlt intL (aCons (fLate 0 subD (fC (.int 0))) aNil)) (fC (.int 8)))) (setD 5)) (bSeq (sAsg (fBin mulD (fBin modI (fBlt intL (aCons (fLate 0 subD (fC (.int 1))) aNil)) (fVar 1)) (fVar 3)) (setD 6)) (bSeq (sAsg (fBin mulD (fBin modI (fBlt intL (aCons (fLate 0 subD (fC (.int 2))) aNil)) (fVar 1)) (fVar 3)) (setD 7)) (bSeq (sIf (fAnd (fTst boolD (fLate 2 eqD (fC (.int 0)))) (fOr (fTst boolD (fLate 5 eqD (fC (.str "push")))) (fTst boolD (fLate 5 eqD (fC (.str "pop")))))) (bSeq (sAsg (fC (.str "emit")) (setD 5)) bNil) bNil) (bSeq (sIf (fTst boolD (fLate 5 eqD (fC (.str "emit")))) (bSeq (sRet (fTup (aCons (fVar 5) (aCons (fVar 6) (aCons (fVar 7) (aCons (fCall den__law_text (aCons (fLate 0 subD (fC (.int 3))) aNil) []) (aCons (fCall den__law_text (aCons (fLate 0 subD (fC (.int 4))) aNil) []) aNil))))))) bNil) bNil) (bSeq (sIf (fTst boolD (fLate 5 eqD (fC (.str "stop")))) (bSeq (sRet (fTup (aCons (fVar 5) (aCons (fVar 6) (aCons (fCall den__law_text (aCons (fLate 0 subD (fC (.int 3))) aNil) []) aNil))))) bNil) bNil) (bSeq (sIf (fTst boolD (fLate 5 eqD (fC (.str "push")))) (bSeq (sRet (fTup (aCons (fVar 5) (aCons (fVar 6) (aCons (fVar 7) (aCons (fBin mulD (fBin modI (fBlt intL (aCons (fLate 0 subD (fC (.int 3))) aNil)) (fVar 2)) (fVar 4)) aNil)))))) bNil) bNil) (bSeq (sIf (fTst boolD (fLate 5 eqD (fC (.str "pop")))) (bSeq (sRet (fTup (aCons (fVar 5) (aCons (fVar 6) (aCons (fBin mulD (fBin modI (fBlt intL (aCons (fLate 0 subD (fC (.int 3))) aNil)) (fVar 2)) (fVar 4)) (aCons (fVar 7) aNil)))))) bNil) bNil) (bSeq (sRet (fTup (aCons (fVar 5) (aCons (fVar 6) (aCons (fVar 7) (aCons (fBin mulD (fBin modI (fBlt intL (aCons (fLate 0 subD (fC (.int 3))) aNil)) (fVar 1)) (fVar 3)) aNil)))))) bNil)))))))))
def den__law_rule : List D → FR := fnD 5 8 bod__law_rule
def bod__law_due_answer : En → Fl := (bSeq (sIf (fTst boolD (fBin gtD (fVar 0) (fC (.int 300)))) (bSeq (sRet (fTup (aCons (fC (.str "many")) (aCons (fC (.int 300)) aNil)))) bNil) bNil) (bSeq (sIf (fTst boolD (fBin gtD (fLenN 2) (fC (.int 900)))) (bSeq (sRet (fTup (aCons (fC (.str "many")) (aCons (fC (.int 900)) aNil)))) bNil) bNil) (bSeq (sIf (fTst boolD (fBin gtD (fVar 1) (fC (.int 300)))) (bSeq (sRet (fTup (aCons (fC (.str "many")) (aCons (fC (.int 300)) aNil)))) bNil) bNil) (bSeq (sFor (iRange1 (aCons (fLenN 2) aNil)) (setD 3) (bSeq (sIf (fNot (fTst boolD (fCall den__law_good_rule (aCons (fLate 2 subD (fVar 3)) (aCons (fVar 0) (aCons (fVar 1) aNil))) []))) (bSeq (sRet (fTup (aCons (fC (.str "rule")) (aCons (fVar 3) aNil)))) bNil) bNil) bNil)) (bSeq (sRet (fTup (aCons (fC (.str "made")) (aCons (fC (.bl true)) (aCons (fO (oLst (aCons (fC (.str "stacks")) (aCons (fC (.str "stacks")) aNil)))) (aCons (fVar 0) (aCons (fVar 1) (aCons (fBlt tupleL (aCons (fVar 2) aNil)) aNil)))))))) bNil)))))
def den__law_due_answer : List D → FR := fnD 3 4 bod__law_due_answer
def bod__law_bent : En → Fl := (bSeq (sAsg (fCall den__law_odd_parts (aCons (fVar 3) (aCons (fVar 4) aNil)) []) (setD 5)) (bSeq (sIf (fTst boolD (fBin ltD (fVar 1) (fLenN 5))) (bSeq (sAsg (fBin addD (fC (.int 1)) (fBin modI (fBlt intL (aCons (fVar 2) aNil)) (fBlt maxL (aCons (fC (.int 1)) (aCons (fBin subI (fLenN 0) (fC (.int 1))) aNil))))) (setD 6)) (bSeq (sRet (fBin addD (fBin addD (fSl (fVar 0) pNone (pSome (fVar 6))) (fTup (aCons (fLate 5 subD (fVar 1)) aNil))) (fSl (fVar 0) (pSome (fBin addD (fVar 6) (fC (.int 1)))) pNone))) bNil)) bNil) (bSeq (sAsg (fBin subI (fVar 1) (fLenN 5)) (setD 7)) (bSeq (sAsgO (oLst (aCons (fC (.str "leaf")) (aCons (fC (.str "wrap")) (aCons (fC (.str "left")) (aCons (fC (.str "Emit")) (aCons (fC (.str "")) (aCons (fC (.str "emits")) (aCons (fC (.str "stop ")) (aCons (fC (.str "emit")) (aCons (fC (.str "before")) (aCons (fC (.str "after")) (aCons (fC (.str "push")) (aCons (fC (.str "pop")) (aCons (fC (.str "stop")) aNil)))))))))))))) 8) (bSeq (sIf (fTst boolD (fBin ltD (fVar 7) (fLenN 8))) (bSeq (sRet (fBin addD (fTup (aCons (fLate 8 subD (fVar 7)) aNil)) (fSl (fVar 0) (pSome (fC (.int 1))) pNone))) bNil) bNil) (bSeq (sAsgO (oLst (aCons (fSl (fVar 0) pNone (pSome (fBlt maxL (aCons (fC (.int 1)) (aCons (fBin subI (fLenN 0) (fC (.int 1))) aNil))))) (aCons (fBin addD (fVar 0) (fTup (aCons (fC (.str "a")) aNil))) (aCons (fBin addD (fVar 0) (fTup (aCons (fC (.int 0)) aNil))) (aCons (fSl (fVar 0) pNone (pSome (fC (.int 1)))) (aCons (fBin addD (fVar 0) (fSl (fVar 0) (pSome (fC (.int 1))) pNone)) (aCons (fBin addD (fSl (fVar 0) pNone (pSome (fC (.int 1)))) (fRev (fSl (fVar 0) (pSome (fC (.int 1))) pNone))) (aCons (fSl (fVar 0) pNone (pSome (fC (.int 2)))) aNil)))))))) 9) (bSeq (sRet (fLate 9 subD (fBin modI (fBlt intL (aCons (fBin subI (fVar 7) (fLenN 8)) aNil)) (fLenN 9)))) bNil)))))))
def den__law_bent : List D → FR := fnD 5 10 bod__law_bent
def bod_is_part : En → Fl := (bSeq (sIf (fTst boolD (fLate 1 eqD (fC (.str "text")))) (bSeq (sRet (fCall den_is_leaf_text (aCons (fVar 0) aNil) [])) bNil) bNil) (bSeq (sIf (fTst boolD (fLate 1 eqD (fC (.str "sign")))) (bSeq (sRet (fCall den_is_name (aCons (fVar 0) (aCons (fVar 3) aNil)) [])) bNil) bNil) (bSeq (sRet (fCall den_is_name (aCons (fVar 0) (aCons (fVar 2) aNil)) [])) bNil)))
def den_is_part : List D → FR := fnD 4 4 bod_is_part
def bod__law_rules : En → Fl := (bSeq (sAsgO (oLst aNil) 5) (bSeq (sIf (fTst boolD (fBin gtD (fBin modI (fBlt intL (aCons (fLate 0 subD (fC (.int 3))) aNil)) (fC (.int 4))) (fC (.int 0)))) (bSeq (sFor (iRange1 (aCons (fVar 1) aNil)) (setD 6) (bSeq (sApp 5 (fTup (aCons (fC (.str "stop")) (aCons (fBin mulD (fVar 6) (fVar 3)) (aCons (fCall den__law_text (aCons (fLate 0 subD (fBin addD (fC (.int 57)) (fVar 6))) aNil) []) aNil))))) (bSeq (sFor (iRange1 (aCons (fVar 2) aNil)) (setD 7) (bSeq (sApp 5 (fTup (aCons (fC (.str "pop")) (aCons (fBin mulD (fVar 6) (fVar 3)) (aCons (fBin mulD (fVar 7) (fVar 4)) (aCons (fBin mulD (fBin modI (fBlt intL (aCons (fLate 0 subD (fBin addD (fBin addD (fC (.int 61)) (fBin mulD (fC (.int 3)) (fVar 6))) (fVar 7))) aNil)) (fVar 1)) (fVar 3)) aNil)))))) bNil)) bNil))) bNil) bNil) (bSeq (sFor (iRange1 (aCons (fBin addD (fBin modI (fBlt intL (aCons (fLate 0 subD (fC (.int 1))) aNil)) (fC (.int 9))) (fC (.int 1))) aNil)) (setD 6) (bSeq (sApp 5 (fCall den__law_rule (aCons (fSl (fVar 0) (pSome (fBin addD (fC (.int 12)) (fBin mulD (fC (.int 5)) (fVar 6)))) (pSome (fBin addD (fC (.int 17)) (fBin mulD (fC (.int 5)) (fVar 6))))) (aCons (fVar 1) (aCons (fVar 2) (aCons (fVar 3) (aCons (fVar 4) aNil))))) [])) bNil)) (bSeq (sAsg (fBin modI (fBlt intL (aCons (fLate 0 subD (fC (.int 2))) aNil)) (fLenN 5)) (setD 8)) (bSeq (sRet (fBin addD (fSl (fVar 5) (pSome (fVar 8)) pNone) (fSl (fVar 5) pNone (pSome (fVar 8))))) bNil)))))
def den__law_rules : List D → FR := fnD 5 9 bod__law_rules
def bod_is_stack_rule : En → Fl := (bSeq (sIf (fInG true ents_PARTS (fLate 0 subD (fC (.int 0)))) (bSeq (sRet (fC (.bl false))) bNil) bNil) (bSeq (sAsg (fSubG ents_PARTS (fLate 0 subD (fC (.int 0)))) (setD 3)) (bSeq (sIf (fTst boolD (fBin neD (fLenN 0) (fBin addD (fLenN 3) (fC (.int 1))))) (bSeq (sRet (fC (.bl false))) bNil) bNil) (bSeq (sRet (fBlt allL (aCons (fO (fLc (iZip (aCons (fSl (fVar 0) (pSome (fC (.int 1))) pNone) (aCons (fVar 3) aNil))) (gUn 2 (tsCons (setD 4) (tsCons (setD 5) tsNil))) tYesD (fCall den_is_part (aCons (fVar 4) (aCons (fVar 5) (aCons (fVar 1) (aCons (fVar 2) aNil)))) []) [4, 5])) aNil))) bNil))))
def den_is_stack_rule : List D → FR := fnD 3 6 bod_is_stack_rule
def bod_StackGrammar_init : En → Fl := (bSeq (sIf (fTst boolD (fBin gtD (fVar 2) (fC (.int 300)))) (bSeq (fRaise1 "TooMany" "limit" (aCons (fC (.int 300)) aNil)) bNil) bNil) (bSeq (sFor (iEnum1 (aCons (fPlc 0 (lFld "StackGrammar" "rules" 0 (lName 0))) aNil)) (gUn 2 (tsCons (setD 4) (tsCons (setD 5) tsNil))) (bSeq (sIf (fNot (fTst boolD (fCall den_is_stack_rule (aCons (fVar 5) (aCons (fVar 1) (aCons (fVar 2) aNil))) []))) (bSeq (fRaise1 "BadRule" "place" (aCons (fVar 4) aNil)) bNil) bNil) bNil)) (bSeq (sFldM "StackGrammar" "signs" 0 (lName 0) (mFz (fVar 2))) bNil)))
def den_StackGrammar_init : List Sl → IR := inS 4 6 (bSup "StackGrammar" den_Grammar_init_StackGrammar (laE (fVar 1) (laN 3 (fun ρ => .ok [] ρ))) [] bod_StackGrammar_init)
def bod__law_told : En → Fl := (bSeq (sAsgO (oList (aCons (fVar 2) aNil)) 3) (bSeq (fTry 5 ex_Fault (bSeq (sAsg (fFrz (fMake "StackGrammar" den_StackGrammar_init (laE (fVar 0) (laE (fVar 1) (laN 3 (fun ρ => .ok [] ρ)))) [])) (setD 4)) bNil) (bSeq (sIf (fOr (fNot (fTst boolD (fIsE 5 is_ValueError))) (fTst boolD (fIsE 5 is_BadLine))) (bSeq (sRet (fTup (aCons (fC (.str "other")) (aCons (fC (.int 0)) aNil)))) bNil) bNil) (bSeq (sIf (fAnd (fTst boolD (fIsE 5 is_TooMany)) (fNot (fTst boolD (fIsE 5 is_BadRule)))) (bSeq (sRet (fTup (aCons (fC (.str "many")) (aCons (fXf 5 ok_limit "limit") aNil)))) bNil) bNil) (bSeq (sIf (fAnd (fTst boolD (fIsE 5 is_BadRule)) (fNot (fTst boolD (fIsE 5 is_TooMany)))) (bSeq (sRet (fTup (aCons (fC (.str "rule")) (aCons (fXf 5 ok_place "place") aNil)))) bNil) bNil) (bSeq (sRet (fTup (aCons (fC (.str "other")) (aCons (fC (.int 1)) aNil)))) bNil))))) (bSeq (sIf (fTst boolD (fLate 3 neD (fVar 2))) (bSeq (sRet (fTup (aCons (fC (.str "other")) (aCons (fC (.int 2)) aNil)))) bNil) bNil) (bSeq (sApp 3 (fTup (aCons (fC (.str "stop")) (aCons (fC (.int 0)) (aCons (fC (.str "zz")) aNil))))) (bSeq (sSetIx 3 (fTup (aCons (fC (.str "stop")) (aCons (fC (.int 0)) (aCons (fC (.str "z")) aNil)))) (fC (.int 0))) (bSeq (sAsgO (oLst (aCons (fCon "StackGrammar" "KIND" (.str "stacks") (fVar 4)) (aCons (fC (.str "stacks")) aNil))) 6) (bSeq (sRet (fTup (aCons (fC (.str "made")) (aCons (fIsI isI_Grammar (fVar 4)) (aCons (fVar 6) (aCons (fFldD "StackGrammar" "names" (fVar 4)) (aCons (fFldD "StackGrammar" "signs" (fVar 4)) (aCons (fFldD "StackGrammar" "rules" (fVar 4)) aNil)))))))) bNil)))))))
def den__law_told : List D → FR := fnD 3 7 bod__law_told
def bod__law_limits : En → Fl := (bSeq (sAsg (fTup (aCons (fC (.str "stop")) (aCons (fC (.int 0)) (aCons (fC (.str "a")) aNil)))) (setD 4)) (bSeq (sAsg (fTup (aCons (fC (.str "stop")) (aCons (fC (.int 0)) (aCons (fC (.str "A")) aNil)))) (setD 5)) (bSeq (sAsgO (oRep (oLst (aCons (fVar 4) aNil)) (fC (.int 900))) 6) (bSeq (sAsg (fBin modI (fBlt intL (aCons (fLate 3 subD (fC (.int 44))) aNil)) (fC (.int 900))) (setD 7)) (bSeq (sAsg (fBin addD (fBin addD (fSl (fVar 6) pNone (pSome (fVar 7))) (fO (oLst (aCons (fVar 5) aNil)))) (fSl (fVar 6) (pSome (fBin addD (fVar 7) (fC (.int 1)))) pNone)) (setD 8)) (bSeq (sAsgO (oLst (aCons (fTup (aCons (fC (.int 300)) (aCons (fC (.int 300)) (aCons (fO (oLst (aCons (fVar 4) aNil))) aNil)))) (aCons (fTup (aCons (fC (.int 301)) (aCons (fC (.int 300)) (aCons (fO (oLst (aCons (fVar 4) aNil))) aNil)))) (aCons (fTup (aCons (fC (.int 300)) (aCons (fC (.int 301)) (aCons (fO (oLst (aCons (fVar 4) aNil))) aNil)))) (aCons (fTup (aCons (fC (.int 301)) (aCons (fC (.int 0)) (aCons (fO (oLst (aCons (fVar 5) aNil))) aNil)))) (aCons (fTup (aCons (fC (.int 1)) (aCons (fC (.int 301)) (aCons (fO (oLst (aCons (fVar 5) aNil))) aNil)))) (aCons (fTup (aCons (fC (.int 1)) (aCons (fC (.int 0)) (aCons (fO (oLst aNil)) aNil)))) aNil))))))) 9) (bSeq (sAsgO (oCat (fVar 9) (fO (oLst (aCons (fTup (aCons (fC (.int 301)) (aCons (fC (.int 301)) (aCons (fBin addD (fVar 6) (fO (oLst (aCons (fVar 4) aNil)))) aNil)))) (aCons (fTup (aCons (fC (.int 300)) (aCons (fC (.int 301)) (aCons (fBin addD (fVar 6) (fO (oLst (aCons (fVar 4) aNil)))) aNil)))) (aCons (fTup (aCons (fC (.int 1)) (aCons (fC (.int 0)) (aCons (fBin addD (fVar 8) (fO (oLst (aCons (fVar 4) aNil)))) aNil)))) (aCons (fTup (aCons (fVar 0) (aCons (fVar 1) (aCons (fVar 2) aNil)))) aNil))))))) 9) (bSeq (sApp 9 (fTup (aCons (fBin addD (fC (.int 299)) (fBin modI (fBlt intL (aCons (fLate 3 subD (fC (.int 45))) aNil)) (fC (.int 4)))) (aCons (fBin addD (fC (.int 299)) (fBin modI (fBlt intL (aCons (fLate 3 subD (fC (.int 46))) aNil)) (fC (.int 4)))) (aCons (fVar 2) aNil))))) (bSeq (sIf (fTst boolD (fBin eqD (fBin modI (fBlt intL (aCons (fLate 3 subD (fC (.int 47))) aNil)) (fC (.int 4))) (fC (.int 1)))) (bSeq (sApp 9 (fTup (aCons (fVar 0) (aCons (fVar 1) (aCons (fVar 6) aNil))))) bNil) bNil) (bSeq (sIf (fTst boolD (fBin eqD (fBin modI (fBlt intL (aCons (fLate 3 subD (fC (.int 47))) aNil)) (fC (.int 4))) (fC (.int 3)))) (bSeq (sApp 9 (fTup (aCons (fC (.int 300)) (aCons (fBin addD (fC (.int 300)) (fBin modI (fBlt intL (aCons (fLate 3 subD (fC (.int 45))) aNil)) (fC (.int 2)))) (aCons (fVar 8) aNil))))) bNil) bNil) (bSeq (sFor (iSeq (fVar 9)) (gUn 3 (tsCons (setD 10) (tsCons (setD 11) (tsCons (setD 12) tsNil)))) (bSeq (sIf (fNot (fTst boolD (fCall den__law_same (aCons (fCall den__law_told (aCons (fVar 10) (aCons (fVar 11) (aCons (fVar 12) aNil))) []) (aCons (fCall den__law_due_answer (aCons (fVar 10) (aCons (fVar 11) (aCons (fVar 12) aNil))) []) aNil)) []))) (bSeq (sRet (fC (.bl false))) bNil) bNil) bNil)) (bSeq (sRet (fC (.bl true))) bNil))))))))))))
def den__law_limits : List D → FR := fnD 4 13 bod__law_limits
def bod_law : En → Fl := (bSeq (sAsg (fCall den__law_row (aCons (fVar 0) (aCons (fC (.int 240)) aNil)) []) (setD 1)) (bSeq (sAsg (fBin addD (fC (.int 1)) (fBin modI (fBlt intL (aCons (fLate 1 subD (fC (.int 0))) aNil)) (fC (.int 4)))) (setD 2)) (bSeq (sAsg (fBin modI (fBlt intL (aCons (fLate 1 subD (fC (.int 5))) aNil)) (fC (.int 4))) (setD 3)) (bSeq (sIf (fTst boolD (fBin eqD (fBin modI (fBlt intL (aCons (fLate 1 subD (fC (.int 7))) aNil)) (fC (.int 8))) (fC (.int 1)))) (bSeq (sAsg (fC (.int 300)) (setD 2)) (bSeq (sAsg (fC (.int 300)) (setD 3)) bNil)) bNil) (bSeq (sAsg (fCall den__law_rules (aCons (fVar 1) (aCons (fBlt minL (aCons (fVar 2) (aCons (fC (.int 4)) aNil))) (aCons (fBlt minL (aCons (fVar 3) (aCons (fC (.int 3)) aNil))) (aCons (fC (.int 1)) (aCons (fC (.int 1)) aNil))))) []) (setD 4)) (bSeq (sFor (iSeq (fCall den__law_edges (aCons (fVar 2) (aCons (fVar 3) aNil)) [])) (setD 5) (bSeq (sIf (fNot (fTst boolD (fCall den__law_same (aCons (fCall den__law_told (aCons (fVar 2) (aCons (fVar 3) (aCons (fO (oLst (aCons (fVar 5) aNil))) aNil))) []) (aCons (fCall den__law_due_answer (aCons (fVar 2) (aCons (fVar 3) (aCons (fO (oLst (aCons (fVar 5) aNil))) aNil))) []) aNil)) []))) (bSeq (sRet (fC (.bl false))) bNil) bNil) bNil)) (bSeq (sAsg (fBin addD (fBlt lenL (aCons (fCall den__law_odd_parts (aCons (fVar 2) (aCons (fVar 3) aNil)) []) aNil)) (fC (.int 20))) (setD 6)) (bSeq (sFor (iRange1 (aCons (fVar 6) aNil)) (setD 7) (bSeq (sAsg (fLate 1 subD (fBin addD (fC (.int 135)) (fBin mulD (fC (.int 2)) (fVar 7)))) (setD 8)) (bSeq (sAsg (fLate 1 subD (fBin addD (fC (.int 136)) (fBin mulD (fC (.int 2)) (fVar 7)))) (setD 9)) (bSeq (sAsg (fCall den__law_rule (aCons (fO (oLst (aCons (fBin addD (fVar 7) (fLate 1 subD (fC (.int 48)))) (aCons (fVar 8) (aCons (fVar 9) (aCons (fBin fdivI (fVar 8) (fC (.int 4))) (aCons (fBin fdivI (fVar 9) (fC (.int 4))) aNil))))))) (aCons (fBlt minL (aCons (fVar 2) (aCons (fC (.int 4)) aNil))) (aCons (fBlt minL (aCons (fVar 3) (aCons (fC (.int 3)) aNil))) (aCons (fC (.int 1)) (aCons (fC (.int 1)) aNil))))) []) (setD 10)) (bSeq (sAsgO (oList (aCons (fVar 4) aNil)) 11) (bSeq (sAsg (fBin modI (fBlt intL (aCons (fVar 9) aNil)) (fBin addD (fLenN 4) (fC (.int 1)))) (setD 12)) (bSeq (sIns 11 (aCons (fVar 12) (aCons (fCall den__law_bent (aCons (fVar 10) (aCons (fVar 7) (aCons (fBin fdivI (fVar 8) (fC (.int 10))) (aCons (fVar 2) (aCons (fVar 3) aNil))))) []) aNil))) (bSeq (sIf (fTst boolD (fBin eqD (fBin modI (fBlt intL (aCons (fVar 8) aNil)) (fC (.int 2))) (fC (.int 1)))) (bSeq (sAsg (fBin modI (fBlt intL (aCons (fBin fdivI (fVar 8) (fC (.int 2))) aNil)) (fLenN 11)) (setD 12)) (bSeq (sSetIx 11 (fCall den__law_bent (aCons (fLate 11 subD (fVar 12)) (aCons (fBin modI (fBlt intL (aCons (fBin fdivI (fVar 9) (fC (.int 7))) aNil)) (fVar 6)) (aCons (fBin fdivI (fVar 8) (fC (.int 20))) (aCons (fVar 2) (aCons (fVar 3) aNil))))) []) (fVar 12)) bNil)) bNil) (bSeq (sIf (fNot (fTst boolD (fCall den__law_same (aCons (fCall den__law_told (aCons (fVar 2) (aCons (fVar 3) (aCons (fVar 11) aNil))) []) (aCons (fCall den__law_due_answer (aCons (fVar 2) (aCons (fVar 3) (aCons (fVar 11) aNil))) []) aNil)) []))) (bSeq (sRet (fC (.bl false))) bNil) bNil) bNil))))))))) (bSeq (sRet (fCall den__law_limits (aCons (fVar 2) (aCons (fVar 3) (aCons (fVar 4) (aCons (fVar 1) aNil)))) [])) bNil)))))))))
def den_law : List D → FR := fnD 1 13 bod_law
structure Ad where
  a_bad_letter : Addr
  d_bad_letter : FuncData
  a_is_leaf_text : Addr
  d_is_leaf_text : FuncData
  a_is_name : Addr
  d_is_name : FuncData
  a_is_part : Addr
  d_is_part : FuncData
  a_is_stack_rule : Addr
  d_is_stack_rule : FuncData
  a_StackGrammar_init : Addr
  d_StackGrammar_init : FuncData
  a_Grammar_init_StackGrammar : Addr
  d_Grammar_init_StackGrammar : FuncData
  a__law_row : Addr
  d__law_row : FuncData
  a__law_text : Addr
  d__law_text : FuncData
  a__law_rule : Addr
  d__law_rule : FuncData
  a__law_rules : Addr
  d__law_rules : FuncData
  a__law_same : Addr
  d__law_same : FuncData
  a__law_good_rule : Addr
  d__law_good_rule : FuncData
  a__law_due_answer : Addr
  d__law_due_answer : FuncData
  a__law_told : Addr
  d__law_told : FuncData
  a__law_odd_parts : Addr
  d__law_odd_parts : FuncData
  a__law_bent : Addr
  d__law_bent : FuncData
  a__law_edges : Addr
  d__law_edges : FuncData
  a__law_limits : Addr
  d__law_limits : FuncData
  a_law : Addr
  d_law : FuncData
  c_Fault : Addr
  c_TooMany : Addr
  c_BadRule : Addr
  c_BadLine : Addr
  c_Grammar : Addr
  c_StackGrammar : Addr
  i_BadRule : Addr
  i_TooMany : Addr
  u_StackGrammar_KIND : Value
/-- a constant of the module -/
structure GC (mg : Str → Option Value) (x : Str) (v : V) : Prop where
  ex : ∃ u, mg x = some u ∧ RelV v u
theorem GC.glI {X : Cx} {x : Str} {i : Int} (g : GC X.mg x (.int i)) : GlJ X x (.int i) := by
  obtain ⟨u, h1, h2⟩ := g.ex
  exact ⟨u, _, h1, h2, fun F => .int i⟩
theorem GC.glS {X : Cx} {x : Str} {i : Str} (g : GC X.mg x (.str i)) : GlJ X x (.str i) := by
  obtain ⟨u, h1, h2⟩ := g.ex
  exact ⟨u, _, h1, h2, fun F => .str i⟩
structure Tx (P : Program) (w : World) (K : PySem.W.Frag) (mg : Str → Option Value) (ad : Ad) : Prop where
  z_ValueError : mg "ValueError" = none
  z_all : mg "all" = none
  z_bool : mg "bool" = none
  z_enumerate : mg "enumerate" = none
  z_int : mg "int" = none
  z_isinstance : mg "isinstance" = none
  z_len : mg "len" = none
  z_list : mg "list" = none
  z_max : mg "max" = none
  z_min : mg "min" = none
  z_range : mg "range" = none
  z_str : mg "str" = none
  z_tuple : mg "tuple" = none
  z_zip : mg "zip" = none
  g_LETTERS : GC mg "LETTERS" (.str "abcdefghijklmnopqrstuvwxyz")
  g_MOST_LEAF : GC mg "MOST_LEAF" (.int 12)
  g_MOST_NAMES : GC mg "MOST_NAMES" (.int 300)
  g_MOST_RULES : GC mg "MOST_RULES" (.int 900)
  g_PARTS : GD K w mg "PARTS" ents_PARTS
  F_bad_letter : FunD K "bad_letter" "bad_letter" (defArgs s_bad_letter) (defBody s_bad_letter) (defScope s_bad_letter) [] [] ad.a_bad_letter ad.d_bad_letter
  m_bad_letter : mg "bad_letter" = some (.ref ad.a_bad_letter)
  F_is_leaf_text : FunD K "is_leaf_text" "is_leaf_text" (defArgs s_is_leaf_text) (defBody s_is_leaf_text) (defScope s_is_leaf_text) [] [] ad.a_is_leaf_text ad.d_is_leaf_text
  m_is_leaf_text : mg "is_leaf_text" = some (.ref ad.a_is_leaf_text)
  F_is_name : FunD K "is_name" "is_name" (defArgs s_is_name) (defBody s_is_name) (defScope s_is_name) [] [] ad.a_is_name ad.d_is_name
  m_is_name : mg "is_name" = some (.ref ad.a_is_name)
  F_is_part : FunD K "is_part" "is_part" (defArgs s_is_part) (defBody s_is_part) (defScope s_is_part) [] [] ad.a_is_part ad.d_is_part
  m_is_part : mg "is_part" = some (.ref ad.a_is_part)
  F_is_stack_rule : FunD K "is_stack_rule" "is_stack_rule" (defArgs s_is_stack_rule) (defBody s_is_stack_rule) (defScope s_is_stack_rule) [] [] ad.a_is_stack_rule ad.d_is_stack_rule
  m_is_stack_rule : mg "is_stack_rule" = some (.ref ad.a_is_stack_rule)
  F_StackGrammar_init : SupD P K mg "StackGrammar.__init__" (defArgs s_StackGrammar_init) (defBody s_StackGrammar_init) (defScope s_StackGrammar_init) ad.c_StackGrammar ad.a_Grammar_init_StackGrammar ad.a_StackGrammar_init ad.d_StackGrammar_init
  F_Grammar_init_StackGrammar : FunD K "__init__" "Grammar.__init__" (defArgs s_Grammar_init_StackGrammar) (defBody s_Grammar_init_StackGrammar) (defScope s_Grammar_init_StackGrammar) [] [] ad.a_Grammar_init_StackGrammar ad.d_Grammar_init_StackGrammar
  F__law_row : FunD K "_law_row" "_law_row" (defArgs s__law_row) (defBody s__law_row) (defScope s__law_row) [] [] ad.a__law_row ad.d__law_row
  m__law_row : mg "_law_row" = some (.ref ad.a__law_row)
  F__law_text : FunD K "_law_text" "_law_text" (defArgs s__law_text) (defBody s__law_text) (defScope s__law_text) [] [] ad.a__law_text ad.d__law_text
  m__law_text : mg "_law_text" = some (.ref ad.a__law_text)
  F__law_rule : FunD K "_law_rule" "_law_rule" (defArgs s__law_rule) (defBody s__law_rule) (defScope s__law_rule) [] [] ad.a__law_rule ad.d__law_rule
  m__law_rule : mg "_law_rule" = some (.ref ad.a__law_rule)
  F__law_rules : FunD K "_law_rules" "_law_rules" (defArgs s__law_rules) (defBody s__law_rules) (defScope s__law_rules) [] [] ad.a__law_rules ad.d__law_rules
  m__law_rules : mg "_law_rules" = some (.ref ad.a__law_rules)
  F__law_same : FunD K "_law_same" "_law_same" (defArgs s__law_same) (defBody s__law_same) (defScope s__law_same) [] [] ad.a__law_same ad.d__law_same
  m__law_same : mg "_law_same" = some (.ref ad.a__law_same)
  F__law_good_rule : FunD K "_law_good_rule" "_law_good_rule" (defArgs s__law_good_rule) (defBody s__law_good_rule) (defScope s__law_good_rule) [] [] ad.a__law_good_rule ad.d__law_good_rule
  m__law_good_rule : mg "_law_good_rule" = some (.ref ad.a__law_good_rule)
  F__law_due_answer : FunD K "_law_due_answer" "_law_due_answer" (defArgs s__law_due_answer) (defBody s__law_due_answer) (defScope s__law_due_answer) [] [] ad.a__law_due_answer ad.d__law_due_answer
  m__law_due_answer : mg "_law_due_answer" = some (.ref ad.a__law_due_answer)
  F__law_told : FunD K "_law_told" "_law_told" (defArgs s__law_told) (defBody s__law_told) (defScope s__law_told) [] [] ad.a__law_told ad.d__law_told
  m__law_told : mg "_law_told" = some (.ref ad.a__law_told)
  F__law_odd_parts : FunD K "_law_odd_parts" "_law_odd_parts" (defArgs s__law_odd_parts) (defBody s__law_odd_parts) (defScope s__law_odd_parts) [] [] ad.a__law_odd_parts ad.d__law_odd_parts
  m__law_odd_parts : mg "_law_odd_parts" = some (.ref ad.a__law_odd_parts)
  F__law_bent : FunD K "_law_bent" "_law_bent" (defArgs s__law_bent) (defBody s__law_bent) (defScope s__law_bent) [] [] ad.a__law_bent ad.d__law_bent
  m__law_bent : mg "_law_bent" = some (.ref ad.a__law_bent)
  F__law_edges : FunD K "_law_edges" "_law_edges" (defArgs s__law_edges) (defBody s__law_edges) (defScope s__law_edges) [] [] ad.a__law_edges ad.d__law_edges
  m__law_edges : mg "_law_edges" = some (.ref ad.a__law_edges)
  F__law_limits : FunD K "_law_limits" "_law_limits" (defArgs s__law_limits) (defBody s__law_limits) (defScope s__law_limits) [] [] ad.a__law_limits ad.d__law_limits
  m__law_limits : mg "_law_limits" = some (.ref ad.a__law_limits)
  F_law : FunD K "law" "law" (defArgs s_law) (defBody s_law) (defScope s_law) [] [] ad.a_law ad.d_law
  m_law : mg "law" = some (.ref ad.a_law)
  m_Grammar : mg "Grammar" = some (.ref ad.c_Grammar)
  m_StackGrammar : mg "StackGrammar" = some (.ref ad.c_StackGrammar)
  cj_StackGrammar : ClsJ K "StackGrammar" ad.c_StackGrammar
  mk_StackGrammar : Mk K ad.c_StackGrammar ad.a_StackGrammar_init
  na_StackGrammar_signs : NoAttr K ad.c_StackGrammar "signs"
  na_StackGrammar_names : NoAttr K ad.c_StackGrammar "names"
  na_StackGrammar_rules : NoAttr K ad.c_StackGrammar "rules"
  b_Grammar_init_StackGrammar_3 : ∃ us, DfJ K us [] ∧ Binds K ad.d_Grammar_init_StackGrammar ["self", "names", "rules"] us
  b_StackGrammar_init_4 : ∃ us, DfJ K us [] ∧ Binds K ad.d_StackGrammar_init ["self", "names", "signs", "rules"] us
  b__law_bent_5 : ∃ us, DfJ K us [] ∧ Binds K ad.d__law_bent ["rule", "way", "pick", "names", "signs"] us
  b__law_due_answer_3 : ∃ us, DfJ K us [] ∧ Binds K ad.d__law_due_answer ["names", "signs", "rules"] us
  b__law_edges_2 : ∃ us, DfJ K us [] ∧ Binds K ad.d__law_edges ["names", "signs"] us
  b__law_good_rule_3 : ∃ us, DfJ K us [] ∧ Binds K ad.d__law_good_rule ["rule", "names", "signs"] us
  b__law_limits_4 : ∃ us, DfJ K us [] ∧ Binds K ad.d__law_limits ["names", "signs", "rules", "row"] us
  b__law_odd_parts_2 : ∃ us, DfJ K us [] ∧ Binds K ad.d__law_odd_parts ["names", "signs"] us
  b__law_row_2 : ∃ us, DfJ K us [] ∧ Binds K ad.d__law_row ["script", "many"] us
  b__law_rule_5 : ∃ us, DfJ K us [] ∧ Binds K ad.d__law_rule ["drawn", "names", "signs", "wide", "tall"] us
  b__law_rules_5 : ∃ us, DfJ K us [] ∧ Binds K ad.d__law_rules ["row", "names", "signs", "wide", "tall"] us
  b__law_same_2 : ∃ us, DfJ K us [] ∧ Binds K ad.d__law_same ["told", "due"] us
  b__law_text_1 : ∃ us, DfJ K us [] ∧ Binds K ad.d__law_text ["number"] us
  b__law_told_3 : ∃ us, DfJ K us [] ∧ Binds K ad.d__law_told ["names", "signs", "rules"] us
  b_bad_letter_2 : ∃ us, DfJ K us [] ∧ Binds K ad.d_bad_letter ["text", "most"] us
  b_is_leaf_text_1 : ∃ us, DfJ K us [] ∧ Binds K ad.d_is_leaf_text ["text"] us
  b_is_name_2 : ∃ us, DfJ K us [] ∧ Binds K ad.d_is_name ["name", "names"] us
  b_is_part_4 : ∃ us, DfJ K us [] ∧ Binds K ad.d_is_part ["value", "part", "names", "signs"] us
  b_is_stack_rule_3 : ∃ us, DfJ K us [] ∧ Binds K ad.d_is_stack_rule ["rule", "names", "signs"] us
  m_Fault : mg "Fault" = some (.ref ad.c_Fault)
  n_Fault : PySem.W.nsIn K mainGlobals "Fault" = some (some (.ref ad.c_Fault))
  m_TooMany : mg "TooMany" = some (.ref ad.c_TooMany)
  n_TooMany : PySem.W.nsIn K mainGlobals "TooMany" = some (some (.ref ad.c_TooMany))
  m_BadRule : mg "BadRule" = some (.ref ad.c_BadRule)
  n_BadRule : PySem.W.nsIn K mainGlobals "BadRule" = some (some (.ref ad.c_BadRule))
  m_BadLine : mg "BadLine" = some (.ref ad.c_BadLine)
  n_BadLine : PySem.W.nsIn K mainGlobals "BadLine" = some (some (.ref ad.c_BadLine))
  s_BadRule : PySem.PDX.SupTxt P K mg ad.c_BadRule ad.i_BadRule "invalid rule" "place"
  s_TooMany : PySem.PDX.SupTxt P K mg ad.c_TooMany ad.i_TooMany "limit exceeded" "limit"
  e_Fault : ExT K (.ref ad.c_Fault) ex_Fault
  x_limit : XfT K ok_limit "limit"
  x_place : XfT K ok_place "place"
  i_BadLine : IsT K (.ref ad.c_BadLine) is_BadLine
  i_BadRule : IsT K (.ref ad.c_BadRule) is_BadRule
  i_TooMany : IsT K (.ref ad.c_TooMany) is_TooMany
  i_ValueError : IsT K (.type "ValueError") is_ValueError
  j_Grammar : IsT2 K (.ref ad.c_Grammar) isI_Grammar
  cr_StackGrammar : ClX.CRead K ad.c_StackGrammar (.type "type")
  cv_StackGrammar_KIND : ClX.CVal K ad.c_StackGrammar (.type "type") "KIND" (.str "stacks") ad.u_StackGrammar_KIND
  cc_StackGrammar_KIND : Con K ad.c_StackGrammar "KIND" (.str "stacks") ad.u_StackGrammar_KIND
section
variable {P : Program} {w : World} {K : PySem.W.Frag} {mg : Str → Option Value} {base : Heap} {ad : Ad}
theorem fnj_bad_letter (T : Tx P w K mg ad) : FnJ P w K mg base 1 ad.a_bad_letter ad.d_bad_letter ["text", "most"] den_bad_letter := by
  refine fnj_ofD T.F_bad_letter sc_bad_letter fun cdv A outer s H E hr => ?_
  have tk := takes_cx (P := P) (w := w) (K := K) (mg := mg) (base := base) (N := ["text", "most", "place", "letter"]) (qual := "bad_letter") (sc := defScope s_bad_letter) (f := ad.a_bad_letter) (cdv := cdv) (A := A) (outer := outer) (s := s) (H := H) (E := E)
  have hp := owns_cx (P := P) (w := w) (K := K) (mg := mg) (base := base) (N := ["text", "most", "place", "letter"]) (qual := "bad_letter") (sc := defScope s_bad_letter) (f := ad.a_bad_letter) (cdv := cdv) (A := A) (outer := outer) (s := s) (H := H) (E := E)
  have nd := sc_bad_letter.nd
  have hu := hu64 hr
  have hu1 := hu1_of hu
  exact (bj_cons (sj_for hp (ij_enum T.z_enumerate (aj_cons (ej_var 0) aj_nil)) (gj_tup 2 (gsj_cons (gj_name 2 nd) (gsj_cons (gj_name 3 nd) gsj_nil))) (calm_un (calm_cons (calm_set 2) (calm_cons (calm_set 3) calm_nil))) (bj_cons (sj_if (TWJ.tj (twj_or (tj_cmp oj_ge (ej_var 2) (ej_var 1)) (twj_or1 (tj_cmp oj_nin (ej_var 3) (ej_glob (T.g_LETTERS.glS)))))) (bj_cons (sj_ret (ej_var 2)) bj_nil) bj_nil) bj_nil)) (bj_cons (sj_ret (ej_neg ej_int)) bj_nil))
theorem fnj_is_name (T : Tx P w K mg ad) : FnJ P w K mg base 1 ad.a_is_name ad.d_is_name ["name", "names"] den_is_name := by
  refine fnj_ofD T.F_is_name sc_is_name fun cdv A outer s H E hr => ?_
  have tk := takes_cx (P := P) (w := w) (K := K) (mg := mg) (base := base) (N := ["name", "names"]) (qual := "is_name") (sc := defScope s_is_name) (f := ad.a_is_name) (cdv := cdv) (A := A) (outer := outer) (s := s) (H := H) (E := E)
  have hp := owns_cx (P := P) (w := w) (K := K) (mg := mg) (base := base) (N := ["name", "names"]) (qual := "is_name") (sc := defScope s_is_name) (f := ad.a_is_name) (cdv := cdv) (A := A) (outer := outer) (s := s) (H := H) (E := E)
  have nd := sc_is_name.nd
  have hu := hu64 hr
  have hu1 := hu1_of hu
  exact (bj_cons (sj_ret (ej_andV (ej_blt cj_isi T.z_isinstance (aj_cons (ej_var 0) (aj_cons (ej_ty T.z_int) aj_nil))) (ej_one (ej_chain oj_le oj_lt ej_int (ej_var 0) (ej_var 1))))) bj_nil)
theorem fnj__law_row (T : Tx P w K mg ad) : FnJ P w K mg base 1 ad.a__law_row ad.d__law_row ["script", "many"] den__law_row := by
  refine fnj_ofD T.F__law_row sc__law_row fun cdv A outer s H E hr => ?_
  have tk := takes_cx (P := P) (w := w) (K := K) (mg := mg) (base := base) (N := ["script", "many", "rest", "row", "mixed", "k", "cell"]) (qual := "_law_row") (sc := defScope s__law_row) (f := ad.a__law_row) (cdv := cdv) (A := A) (outer := outer) (s := s) (H := H) (E := E)
  have hp := owns_cx (P := P) (w := w) (K := K) (mg := mg) (base := base) (N := ["script", "many", "rest", "row", "mixed", "k", "cell"]) (qual := "_law_row") (sc := defScope s__law_row) (f := ad.a__law_row) (cdv := cdv) (A := A) (outer := outer) (s := s) (H := H) (E := E)
  have nd := sc__law_row.nd
  have hu := hu64 hr
  have hu1 := hu1_of hu
  exact (bj_cons (sj_set 2 nd ej_int) (bj_cons (sj_if (TWJ.tj (twj_and (tj_cmp oj_gt (ej_lenN 0 T.z_len) ej_int) (twj_and1 (tj_cmp oj_ge (ej_subN 0 ej_int) (ej_bin oj_pow ej_int ej_int))))) (bj_cons (sj_set 2 nd (ej_subN 0 ej_int)) bj_nil) bj_nil) (bj_cons (sj_setO 3 nd (oj_lst aj_nil)) (bj_cons (sj_set 4 nd ej_int) (bj_cons (sj_for hp (ij_range1 T.z_range (aj_cons (ej_var 1) aj_nil)) (gj_name 5 nd) (calm_set 5) (bj_cons (sj_set 6 nd (ej_var 5)) (bj_cons (sj_if (tj_cmp oj_gt (ej_lenN 0 T.z_len) ej_int) (bj_cons (sj_set 6 nd (ej_subN 0 (ej_bin oj_mod (ej_bty cj_int T.z_int (aj_cons (ej_var 5) aj_nil)) (ej_blt cj_min T.z_min (aj_cons (ej_lenN 0 T.z_len) (aj_cons ej_int aj_nil)))))) bj_nil) bj_nil) (bj_cons (sj_set 4 nd (ej_bin oj_mod (ej_bty cj_int T.z_int (aj_cons (ej_bin oj_add (ej_bin oj_add (ej_bin oj_mul (ej_var 4) ej_int) (ej_bin oj_mul (ej_bin oj_mod (ej_bty cj_int T.z_int (aj_cons (ej_var 6) aj_nil)) ej_int) ej_int)) (ej_bin oj_mul (ej_var 5) ej_int)) aj_nil)) ej_int)) (bj_cons (sj_if (tj_cmp oj_gt (ej_var 2) ej_int) (bj_cons (sj_app 3 (ej_bin oj_mod (ej_bty cj_int T.z_int (aj_cons (ej_var 2) aj_nil)) ej_int)) (bj_cons (sj_set 2 nd (ej_bin oj_fdiv (ej_var 2) ej_int)) bj_nil)) (bj_cons (sj_app 3 (ej_bin oj_mod (ej_bty cj_int T.z_int (aj_cons (ej_bin oj_fdiv (ej_var 4) ej_int) aj_nil)) ej_int)) bj_nil)) bj_nil))))) (bj_cons (sj_ret (ej_var 3)) bj_nil))))))
theorem fnj__law_text (T : Tx P w K mg ad) : FnJ P w K mg base 1 ad.a__law_text ad.d__law_text ["number"] den__law_text := by
  refine fnj_ofD T.F__law_text sc__law_text fun cdv A outer s H E hr => ?_
  have tk := takes_cx (P := P) (w := w) (K := K) (mg := mg) (base := base) (N := ["number", "length", "letters", "k"]) (qual := "_law_text") (sc := defScope s__law_text) (f := ad.a__law_text) (cdv := cdv) (A := A) (outer := outer) (s := s) (H := H) (E := E)
  have hp := owns_cx (P := P) (w := w) (K := K) (mg := mg) (base := base) (N := ["number", "length", "letters", "k"]) (qual := "_law_text") (sc := defScope s__law_text) (f := ad.a__law_text) (cdv := cdv) (A := A) (outer := outer) (s := s) (H := H) (E := E)
  have nd := sc__law_text.nd
  have hu := hu64 hr
  have hu1 := hu1_of hu
  exact (bj_cons (sj_set 1 nd (ej_sub (OJ.ej (oj_lst (aj_cons ej_int (aj_cons ej_int (aj_cons ej_int (aj_cons ej_int (aj_cons ej_int (aj_cons ej_int (aj_cons ej_int (aj_cons ej_int (aj_cons ej_int (aj_cons ej_int (aj_cons ej_int (aj_cons ej_int aj_nil)))))))))))))) (ej_bin oj_mod (ej_bty cj_int T.z_int (aj_cons (ej_var 0) aj_nil)) ej_int))) (bj_cons (sj_set 2 nd ej_str) (bj_cons (sj_for hp (ij_range1 T.z_range (aj_cons (ej_var 1) aj_nil)) (gj_name 3 nd) (calm_set 3) (bj_cons (sj_set 2 nd (ej_bin oj_add (ej_var 2) (ej_sub ej_str (ej_bin oj_mod (ej_bty cj_int T.z_int (aj_cons (ej_bin oj_add (ej_bin oj_fdiv (ej_var 0) ej_int) (ej_bin oj_mul (ej_var 3) (ej_bin oj_add ej_int (ej_bin oj_mod (ej_bty cj_int T.z_int (aj_cons (ej_var 0) aj_nil)) ej_int)))) aj_nil)) ej_int)))) bj_nil)) (bj_cons (sj_ret (ej_var 2)) bj_nil))))
theorem fnj__law_same (T : Tx P w K mg ad) : FnJ P w K mg base 1 ad.a__law_same ad.d__law_same ["told", "due"] den__law_same := by
  refine fnj_ofD T.F__law_same sc__law_same fun cdv A outer s H E hr => ?_
  have tk := takes_cx (P := P) (w := w) (K := K) (mg := mg) (base := base) (N := ["told", "due", "waiting", "k", "one", "two", "at"]) (qual := "_law_same") (sc := defScope s__law_same) (f := ad.a__law_same) (cdv := cdv) (A := A) (outer := outer) (s := s) (H := H) (E := E)
  have hp := owns_cx (P := P) (w := w) (K := K) (mg := mg) (base := base) (N := ["told", "due", "waiting", "k", "one", "two", "at"]) (qual := "_law_same") (sc := defScope s__law_same) (f := ad.a__law_same) (cdv := cdv) (A := A) (outer := outer) (s := s) (H := H) (E := E)
  have nd := sc__law_same.nd
  have hu := hu64 hr
  have hu1 := hu1_of hu
  exact (bj_cons (sj_setO 2 nd (oj_lst (aj_cons (ej_tup (aj_cons (ej_var 0) (aj_cons (ej_var 1) aj_nil))) aj_nil))) (bj_cons (sj_for hp (ij_range1 T.z_range (aj_cons ej_int aj_nil)) (gj_name 3 nd) (calm_set 3) (bj_cons (sj_if (tj_cmpN 2 (n := false) hu (Or.inl ⟨rfl, rfl⟩) (OJ.ej (oj_lst aj_nil))) (bj_cons (sj_ret ej_bl) bj_nil) bj_nil) (bj_cons (sj_asg (gj_tup 2 (gsj_cons (gj_name 4 nd) (gsj_cons (gj_name 5 nd) gsj_nil))) (calm_un (calm_cons (calm_set 4) (calm_cons (calm_set 5) calm_nil))) (ej_pop 2)) (bj_cons (sj_if (tj_cmp oj_isN (ej_var 5) ej_non) (bj_cons (sj_if (tj_cmp oj_notN (ej_var 4) ej_non) (bj_cons (sj_ret ej_bl) bj_nil) bj_nil) bj_nil) (bj_cons (sj_if (tj_val (ej_blt cj_isi T.z_isinstance (aj_cons (ej_var 5) (aj_cons (ej_ty T.z_bool) aj_nil)))) (bj_cons (sj_if (TWJ.tj (twj_or (tj_not (tj_val (ej_blt cj_isi T.z_isinstance (aj_cons (ej_var 4) (aj_cons (ej_ty T.z_bool) aj_nil))))) (twj_or1 (tj_cmpN 4 (n := true) hu (Or.inr ⟨rfl, rfl⟩) (ej_var 5))))) (bj_cons (sj_ret ej_bl) bj_nil) bj_nil) bj_nil) (bj_cons (sj_if (tj_val (ej_blt cj_isi T.z_isinstance (aj_cons (ej_var 5) (aj_cons (ej_ty T.z_int) aj_nil)))) (bj_cons (sj_if (TWJ.tj (twj_or (tj_not (tj_val (ej_blt cj_isi T.z_isinstance (aj_cons (ej_var 4) (aj_cons (ej_ty T.z_int) aj_nil))))) (twj_or (tj_val (ej_blt cj_isi T.z_isinstance (aj_cons (ej_var 4) (aj_cons (ej_ty T.z_bool) aj_nil)))) (twj_or1 (tj_cmpN 4 (n := true) hu (Or.inr ⟨rfl, rfl⟩) (ej_var 5)))))) (bj_cons (sj_ret ej_bl) bj_nil) bj_nil) bj_nil) (bj_cons (sj_if (tj_val (ej_blt cj_isi T.z_isinstance (aj_cons (ej_var 5) (aj_cons (ej_ty T.z_str) aj_nil)))) (bj_cons (sj_if (TWJ.tj (twj_or (tj_not (tj_val (ej_blt cj_isi T.z_isinstance (aj_cons (ej_var 4) (aj_cons (ej_ty T.z_str) aj_nil))))) (twj_or1 (tj_cmpN 4 (n := true) hu (Or.inr ⟨rfl, rfl⟩) (ej_var 5))))) (bj_cons (sj_ret ej_bl) bj_nil) bj_nil) bj_nil) (bj_cons (sj_if (TWJ.tj (twj_or (tj_cmp (oj_ne hu) (ej_blt cj_isi T.z_isinstance (aj_cons (ej_var 4) (aj_cons (ej_ty T.z_list) aj_nil))) (ej_blt cj_isi T.z_isinstance (aj_cons (ej_var 5) (aj_cons (ej_ty T.z_list) aj_nil)))) (twj_or1 (tj_cmp (oj_ne hu) (ej_blt cj_isi T.z_isinstance (aj_cons (ej_var 4) (aj_cons (ej_ty T.z_tuple) aj_nil))) (ej_blt cj_isi T.z_isinstance (aj_cons (ej_var 5) (aj_cons (ej_ty T.z_tuple) aj_nil))))))) (bj_cons (sj_ret ej_bl) bj_nil) bj_nil) (bj_cons (sj_if (tj_cmp (oj_ne hu) (ej_lenN 4 T.z_len) (ej_lenN 5 T.z_len)) (bj_cons (sj_ret ej_bl) bj_nil) bj_nil) (bj_cons (sj_for hp (ij_range1 T.z_range (aj_cons (ej_lenN 5 T.z_len) aj_nil)) (gj_name 6 nd) (calm_set 6) (bj_cons (sj_app 2 (ej_tup (aj_cons (ej_subN 4 (ej_var 6)) (aj_cons (ej_subN 5 (ej_var 6)) aj_nil)))) bj_nil)) bj_nil)))) bj_nil)) bj_nil)) bj_nil)) bj_nil)))) (bj_cons (sj_ret ej_bl) bj_nil)))
theorem fnj__law_good_rule (T : Tx P w K mg ad) : FnJ P w K mg base 1 ad.a__law_good_rule ad.d__law_good_rule ["rule", "names", "signs"] den__law_good_rule := by
  refine fnj_ofD T.F__law_good_rule sc__law_good_rule fun cdv A outer s H E hr => ?_
  have tk := takes_cx (P := P) (w := w) (K := K) (mg := mg) (base := base) (N := ["rule", "names", "signs", "forms", "k", "sort", "part", "strange", "letter"]) (qual := "_law_good_rule") (sc := defScope s__law_good_rule) (f := ad.a__law_good_rule) (cdv := cdv) (A := A) (outer := outer) (s := s) (H := H) (E := E)
  have hp := owns_cx (P := P) (w := w) (K := K) (mg := mg) (base := base) (N := ["rule", "names", "signs", "forms", "k", "sort", "part", "strange", "letter"]) (qual := "_law_good_rule") (sc := defScope s__law_good_rule) (f := ad.a__law_good_rule) (cdv := cdv) (A := A) (outer := outer) (s := s) (H := H) (E := E)
  have nd := sc__law_good_rule.nd
  have hu := hu64 hr
  have hu1 := hu1_of hu
  exact (bj_cons (sj_set 3 nd (ej_dictSS (es := [("emit", "nntt"), ("before", "nnn"), ("after", "nnn"), ("push", "nns"), ("pop", "nsn"), ("stop", "nt")]) (SS.cons (SS.cons (SS.cons (SS.cons (SS.cons (SS.cons SS.nil)))))))) (bj_cons (sj_if (TWJ.tj (twj_or (tj_inD (n := true) hu1 (ky_e (ej_subN 0 ej_int)) (ej_var 3)) (twj_or1 (tj_cmp (oj_ne hu) (ej_lenN 0 T.z_len) (ej_bin oj_add (ej_blt cj_len T.z_len (aj_cons (ej_subDk hu1 (ej_var 3) (ky_e (ej_subN 0 ej_int))) aj_nil)) ej_int))))) (bj_cons (sj_ret ej_bl) bj_nil) bj_nil) (bj_cons (sj_for hp (ij_range1 T.z_range (aj_cons (ej_bin oj_sub (ej_lenN 0 T.z_len) ej_int) aj_nil)) (gj_name 4 nd) (calm_set 4) (bj_cons (sj_set 5 nd (ej_sub (ej_subDk hu1 (ej_var 3) (ky_e (ej_subN 0 ej_int))) (ej_var 4))) (bj_cons (sj_set 6 nd (ej_subN 0 (ej_bin oj_add (ej_var 4) ej_int))) (bj_cons (sj_if (tj_val (ej_blt cj_isi T.z_isinstance (aj_cons (ej_var 6) (aj_cons (ej_ty T.z_str) aj_nil)))) (bj_cons (sj_setLc 7 (own := [("letter", 8)]) nd (ij_seq (ej_var 6)) (blkQ_by (show blkQ ["rule", "names", "signs", "forms", "k", "sort", "part", "strange", "letter"] (defScope s__law_good_rule) _ [("letter", 8)] = true by decide +kernel)) (fun _ _ _ _ _ => (gcj_name 8 nd)) (fun _ _ _ _ _ => (tsj_one (tj_cmp oj_nin (ej_var 8) ej_str))) (fun _ _ _ _ _ => (ej_var 8))) (bj_cons (sj_if (TWJ.tj (twj_or (tj_cmpN 5 (n := true) hu (Or.inr ⟨rfl, rfl⟩) ej_str) (twj_or (tj_cmp oj_gt (ej_lenN 6 T.z_len) ej_int) (twj_or1 (tj_cmpN 7 (n := true) hu (Or.inr ⟨rfl, rfl⟩) (OJ.ej (oj_lst aj_nil))))))) (bj_cons (sj_ret ej_bl) bj_nil) bj_nil) bj_nil)) (bj_cons (sj_if (TWJ.tj (twj_or (tj_cmpN 5 (n := false) hu (Or.inl ⟨rfl, rfl⟩) ej_str) (twj_or (tj_cmp oj_lt (ej_var 6) ej_int) (twj_or (TWJ.tj (twj_and (tj_cmpN 5 (n := false) hu (Or.inl ⟨rfl, rfl⟩) ej_str) (twj_and1 (tj_cmp oj_ge (ej_var 6) (ej_var 1))))) (twj_or1 (TWJ.tj (twj_and (tj_cmpN 5 (n := false) hu (Or.inl ⟨rfl, rfl⟩) ej_str) (twj_and1 (tj_cmp oj_ge (ej_var 6) (ej_var 2)))))))))) (bj_cons (sj_ret ej_bl) bj_nil) bj_nil) bj_nil)) bj_nil)))) (bj_cons (sj_ret ej_bl) bj_nil))))
theorem fnj__law_odd_parts (T : Tx P w K mg ad) : FnJ P w K mg base 1 ad.a__law_odd_parts ad.d__law_odd_parts ["names", "signs"] den__law_odd_parts := by
  refine fnj_ofD T.F__law_odd_parts sc__law_odd_parts fun cdv A outer s H E hr => ?_
  have tk := takes_cx (P := P) (w := w) (K := K) (mg := mg) (base := base) (N := ["names", "signs", "odd"]) (qual := "_law_odd_parts") (sc := defScope s__law_odd_parts) (f := ad.a__law_odd_parts) (cdv := cdv) (A := A) (outer := outer) (s := s) (H := H) (E := E)
  have hp := owns_cx (P := P) (w := w) (K := K) (mg := mg) (base := base) (N := ["names", "signs", "odd"]) (qual := "_law_odd_parts") (sc := defScope s__law_odd_parts) (f := ad.a__law_odd_parts) (cdv := cdv) (A := A) (outer := outer) (s := s) (H := H) (E := E)
  have nd := sc__law_odd_parts.nd
  have hu := hu64 hr
  have hu1 := hu1_of hu
  exact (bj_cons (sj_setO 2 nd (oj_lst (aj_cons (ej_neg ej_int) (aj_cons (ej_var 0) (aj_cons (ej_bin oj_add (ej_var 0) ej_int) (aj_cons (ej_bin oj_sub (ej_var 0) ej_int) (aj_cons (ej_var 1) (aj_cons (ej_bin oj_add (ej_var 1) ej_int) (aj_cons (ej_bin oj_sub (ej_var 1) ej_int) (aj_cons ej_int (aj_cons ej_int (aj_cons (ej_bin oj_pow ej_int ej_int) (aj_cons (ej_neg (ej_var 0)) (aj_cons (ej_bin oj_sub (ej_neg (ej_var 1)) ej_int) aj_nil)))))))))))))) (bj_cons (sj_ret (ej_bin oj_add (ej_var 2) (OJ.ej (oj_lst (aj_cons ej_str (aj_cons ej_str (aj_cons ej_str (aj_cons ej_str (aj_cons ej_str (aj_cons ej_str (aj_cons ej_str (aj_cons ej_str (aj_cons ej_str (aj_cons ej_str (aj_cons ej_str (aj_cons ej_str aj_nil)))))))))))))))) bj_nil))
theorem fnj__law_edges (T : Tx P w K mg ad) : FnJ P w K mg base 1 ad.a__law_edges ad.d__law_edges ["names", "signs"] den__law_edges := by
  refine fnj_ofD T.F__law_edges sc__law_edges fun cdv A outer s H E hr => ?_
  have tk := takes_cx (P := P) (w := w) (K := K) (mg := mg) (base := base) (N := ["names", "signs", "edges", "forms", "kind", "sorts", "plain", "k", "part", "sort"]) (qual := "_law_edges") (sc := defScope s__law_edges) (f := ad.a__law_edges) (cdv := cdv) (A := A) (outer := outer) (s := s) (H := H) (E := E)
  have hp := owns_cx (P := P) (w := w) (K := K) (mg := mg) (base := base) (N := ["names", "signs", "edges", "forms", "kind", "sorts", "plain", "k", "part", "sort"]) (qual := "_law_edges") (sc := defScope s__law_edges) (f := ad.a__law_edges) (cdv := cdv) (A := A) (outer := outer) (s := s) (H := H) (E := E)
  have nd := sc__law_edges.nd
  have hu := hu64 hr
  have hu1 := hu1_of hu
  exact (bj_cons (sj_setO 2 nd (oj_lst aj_nil)) (bj_cons (sj_setO 3 nd (oj_lst (aj_cons (ej_tup (aj_cons ej_str (aj_cons ej_str aj_nil))) (aj_cons (ej_tup (aj_cons ej_str (aj_cons ej_str aj_nil))) (aj_cons (ej_tup (aj_cons ej_str (aj_cons ej_str aj_nil))) (aj_cons (ej_tup (aj_cons ej_str (aj_cons ej_str aj_nil))) (aj_cons (ej_tup (aj_cons ej_str (aj_cons ej_str aj_nil))) (aj_cons (ej_tup (aj_cons ej_str (aj_cons ej_str aj_nil))) aj_nil)))))))) (bj_cons (sj_for hp (ij_seq (ej_var 3)) (gj_tup 2 (gsj_cons (gj_name 4 nd) (gsj_cons (gj_name 5 nd) gsj_nil))) (calm_un (calm_cons (calm_set 4) (calm_cons (calm_set 5) calm_nil))) (bj_cons (sj_setLc 6 (own := [("sort", 9)]) nd (ij_seq (ej_var 5)) (blkQ_by (show blkQ ["names", "signs", "edges", "forms", "kind", "sorts", "plain", "k", "part", "sort"] (defScope s__law_edges) _ [("sort", 9)] = true by decide +kernel)) (fun _ _ _ _ _ => (gcj_name 9 nd)) (fun _ _ _ _ _ => tsj_nil) (fun _ _ _ _ _ => (ej_sub (OJ.ej (oj_lst (aj_cons ej_int (aj_cons (ej_bin oj_sub (ej_var 1) ej_int) (aj_cons ej_str aj_nil))))) (ej_sidx ej_str (ej_var 9))))) (bj_cons (sj_for hp (ij_range1 T.z_range (aj_cons (ej_lenN 5 T.z_len) aj_nil)) (gj_name 7 nd) (calm_set 7) (bj_cons (sj_for hp (ij_seq (OJ.ej (oj_lst (aj_cons (ej_neg ej_int) (aj_cons (ej_bin oj_sub (ej_var 0) ej_int) (aj_cons (ej_var 0) (aj_cons (ej_bin oj_sub (ej_var 1) ej_int) (aj_cons (ej_var 1) (aj_cons ej_str (aj_cons ej_str aj_nil)))))))))) (gj_name 8 nd) (calm_set 8) (bj_cons (sj_app 2 (ej_bty cj_tuple T.z_tuple (aj_cons (ej_bin oj_add (ej_bin oj_add (ej_bin oj_add (OJ.ej (oj_lst (aj_cons (ej_var 4) aj_nil))) (ej_slice (ej_var 6) pj_none (pj_some (ej_var 7)))) (OJ.ej (oj_lst (aj_cons (ej_var 8) aj_nil)))) (ej_slice (ej_var 6) (pj_some (ej_bin oj_add (ej_var 7) ej_int)) pj_none)) aj_nil))) bj_nil)) bj_nil)) bj_nil))) (bj_cons (sj_ret (ej_var 2)) bj_nil))))
theorem fnj_is_leaf_text (T : Tx P w K mg ad) : FnJ P w K mg base 2 ad.a_is_leaf_text ad.d_is_leaf_text ["text"] den_is_leaf_text := by
  obtain ⟨us_bad_letter_2, hd_bad_letter_2, hb_bad_letter_2⟩ := T.b_bad_letter_2
  refine fnj_ofD T.F_is_leaf_text sc_is_leaf_text fun cdv A outer s H E hr => ?_
  have tk := takes_cx (P := P) (w := w) (K := K) (mg := mg) (base := base) (N := ["text"]) (qual := "is_leaf_text") (sc := defScope s_is_leaf_text) (f := ad.a_is_leaf_text) (cdv := cdv) (A := A) (outer := outer) (s := s) (H := H) (E := E)
  have hp := owns_cx (P := P) (w := w) (K := K) (mg := mg) (base := base) (N := ["text"]) (qual := "is_leaf_text") (sc := defScope s_is_leaf_text) (f := ad.a_is_leaf_text) (cdv := cdv) (A := A) (outer := outer) (s := s) (H := H) (E := E)
  have nd := sc_is_leaf_text.nd
  have hu := hu64 hr
  have hu1 := hu1_of hu
  exact (bj_cons (sj_ret (ej_andV (ej_blt cj_isi T.z_isinstance (aj_cons (ej_var 0) (aj_cons (ej_ty T.z_str) aj_nil))) (ej_one (ej_cmp oj_lt (ej_call (fnj_bad_letter T) tk (hr.mono (by decide)) T.m_bad_letter T.F_bad_letter.kp hb_bad_letter_2 hd_bad_letter_2 (aj_cons (ej_var 0) (aj_cons (ej_glob (T.g_MOST_LEAF.glI)) aj_nil))) ej_int)))) bj_nil)
theorem inj_Grammar_init_StackGrammar (T : Tx P w K mg ad) : InS P w K mg base 2 ad.a_Grammar_init_StackGrammar ad.d_Grammar_init_StackGrammar ["self", "names", "rules"] den_Grammar_init_StackGrammar := by
  refine inS_ofD T.F_Grammar_init_StackGrammar sc_Grammar_init_StackGrammar fun me L cdv A outer s H E hr => ?_
  have tk := takes_cx (P := P) (w := w) (K := K) (mg := mg) (base := base) (N := ["self", "names", "rules"]) (qual := "Grammar.__init__") (sc := defScope s_Grammar_init_StackGrammar) (f := ad.a_Grammar_init_StackGrammar) (cdv := cdv) (A := A) (outer := outer) (s := s) (H := H) (E := E)
  have hp := owns_cx (P := P) (w := w) (K := K) (mg := mg) (base := base) (N := ["self", "names", "rules"]) (qual := "Grammar.__init__") (sc := defScope s_Grammar_init_StackGrammar) (f := ad.a_Grammar_init_StackGrammar) (cdv := cdv) (A := A) (outer := outer) (s := s) (H := H) (E := E)
  have nd := sc_Grammar_init_StackGrammar.nd
  have hu := hu64 hr
  have hu1 := hu1_of hu
  exact (bj_cons (sj_if (tj_cmp oj_gt (ej_var 1) (ej_glob (T.g_MOST_NAMES.glI))) (bj_cons (sj_raise1 rfl tk T.s_TooMany T.m_TooMany T.n_TooMany (hr.mono (by decide) : Room 1 _) (by decide) (aj_cons (ej_glob (T.g_MOST_NAMES.glI)) aj_nil)) bj_nil) bj_nil) (bj_cons (sj_if (tj_cmp oj_gt (ej_st (ej_lenN 2 T.z_len)) (ej_glob (T.g_MOST_RULES.glI))) (bj_cons (sj_raise1 rfl tk T.s_TooMany T.m_TooMany T.n_TooMany (hr.mono (by decide) : Room 1 _) (by decide) (aj_cons (ej_glob (T.g_MOST_RULES.glI)) aj_nil)) bj_nil) bj_nil) (bj_cons (sj_fldM T.cj_StackGrammar T.na_StackGrammar_names (lj_name 0) (mj_ej (ej_var 1))) (bj_cons (sj_fldM T.cj_StackGrammar T.na_StackGrammar_rules (lj_name 0) (mj_ej (ej_tupN 2 T.z_tuple))) bj_nil))))
theorem fnj__law_rule (T : Tx P w K mg ad) : FnJ P w K mg base 2 ad.a__law_rule ad.d__law_rule ["drawn", "names", "signs", "wide", "tall"] den__law_rule := by
  obtain ⟨us__law_text_1, hd__law_text_1, hb__law_text_1⟩ := T.b__law_text_1
  refine fnj_ofD T.F__law_rule sc__law_rule fun cdv A outer s H E hr => ?_
  have tk := takes_cx (P := P) (w := w) (K := K) (mg := mg) (base := base) (N := ["drawn", "names", "signs", "wide", "tall", "kind", "head", "name"]) (qual := "_law_rule") (sc := defScope s__law_rule) (f := ad.a__law_rule) (cdv := cdv) (A := A) (outer := outer) (s := s) (H := H) (E := E)
  have hp := owns_cx (P := P) (w := w) (K := K) (mg := mg) (base := base) (N := ["drawn", "names", "signs", "wide", "tall", "kind", "head", "name"]) (qual := "_law_rule") (sc := defScope s__law_rule) (f := ad.a__law_rule) (cdv := cdv) (A := A) (outer := outer) (s := s) (H := H) (E := E)
  have nd := sc__law_rule.nd
  have hu := hu64 hr
  have hu1 := hu1_of hu
  exact (bj_cons (sj_set 5 nd (ej_sub (OJ.ej (oj_lst (aj_cons ej_str (aj_cons ej_str (aj_cons ej_str (aj_cons ej_str (aj_cons ej_str (aj_cons ej_str (aj_cons ej_str (aj_cons ej_str aj_nil)))))))))) (ej_bin oj_mod (ej_bty cj_int T.z_int (aj_cons (ej_subN 0 ej_int) aj_nil)) ej_int))) (bj_cons (sj_set 6 nd (ej_bin oj_mul (ej_bin oj_mod (ej_bty cj_int T.z_int (aj_cons (ej_subN 0 ej_int) aj_nil)) (ej_var 1)) (ej_var 3))) (bj_cons (sj_set 7 nd (ej_bin oj_mul (ej_bin oj_mod (ej_bty cj_int T.z_int (aj_cons (ej_subN 0 ej_int) aj_nil)) (ej_var 1)) (ej_var 3))) (bj_cons (sj_if (TWJ.tj (twj_and (tj_cmpN 2 (n := false) hu (Or.inl ⟨rfl, rfl⟩) ej_int) (twj_and1 (TWJ.tj (twj_or (tj_cmpN 5 (n := false) hu (Or.inl ⟨rfl, rfl⟩) ej_str) (twj_or1 (tj_cmpN 5 (n := false) hu (Or.inl ⟨rfl, rfl⟩) ej_str))))))) (bj_cons (sj_set 5 nd ej_str) bj_nil) bj_nil) (bj_cons (sj_if (tj_cmpN 5 (n := false) hu (Or.inl ⟨rfl, rfl⟩) ej_str) (bj_cons (sj_ret (ej_tup (aj_cons (ej_var 5) (aj_cons (ej_var 6) (aj_cons (ej_var 7) (aj_cons (ej_call (fnj__law_text T) tk (hr.mono (by decide)) T.m__law_text T.F__law_text.kp hb__law_text_1 hd__law_text_1 (aj_cons (ej_subN 0 ej_int) aj_nil)) (aj_cons (ej_call (fnj__law_text T) tk (hr.mono (by decide)) T.m__law_text T.F__law_text.kp hb__law_text_1 hd__law_text_1 (aj_cons (ej_subN 0 ej_int) aj_nil)) aj_nil))))))) bj_nil) bj_nil) (bj_cons (sj_if (tj_cmpN 5 (n := false) hu (Or.inl ⟨rfl, rfl⟩) ej_str) (bj_cons (sj_ret (ej_tup (aj_cons (ej_var 5) (aj_cons (ej_var 6) (aj_cons (ej_call (fnj__law_text T) tk (hr.mono (by decide)) T.m__law_text T.F__law_text.kp hb__law_text_1 hd__law_text_1 (aj_cons (ej_subN 0 ej_int) aj_nil)) aj_nil))))) bj_nil) bj_nil) (bj_cons (sj_if (tj_cmpN 5 (n := false) hu (Or.inl ⟨rfl, rfl⟩) ej_str) (bj_cons (sj_ret (ej_tup (aj_cons (ej_var 5) (aj_cons (ej_var 6) (aj_cons (ej_var 7) (aj_cons (ej_bin oj_mul (ej_bin oj_mod (ej_bty cj_int T.z_int (aj_cons (ej_subN 0 ej_int) aj_nil)) (ej_var 2)) (ej_var 4)) aj_nil)))))) bj_nil) bj_nil) (bj_cons (sj_if (tj_cmpN 5 (n := false) hu (Or.inl ⟨rfl, rfl⟩) ej_str) (bj_cons (sj_ret (ej_tup (aj_cons (ej_var 5) (aj_cons (ej_var 6) (aj_cons (ej_bin oj_mul (ej_bin oj_mod (ej_bty cj_int T.z_int (aj_cons (ej_subN 0 ej_int) aj_nil)) (ej_var 2)) (ej_var 4)) (aj_cons (ej_var 7) aj_nil)))))) bj_nil) bj_nil) (bj_cons (sj_ret (ej_tup (aj_cons (ej_var 5) (aj_cons (ej_var 6) (aj_cons (ej_var 7) (aj_cons (ej_bin oj_mul (ej_bin oj_mod (ej_bty cj_int T.z_int (aj_cons (ej_subN 0 ej_int) aj_nil)) (ej_var 1)) (ej_var 3)) aj_nil)))))) bj_nil)))))))))
theorem fnj__law_due_answer (T : Tx P w K mg ad) : FnJ P w K mg base 2 ad.a__law_due_answer ad.d__law_due_answer ["names", "signs", "rules"] den__law_due_answer := by
  obtain ⟨us__law_good_rule_3, hd__law_good_rule_3, hb__law_good_rule_3⟩ := T.b__law_good_rule_3
  refine fnj_ofD T.F__law_due_answer sc__law_due_answer fun cdv A outer s H E hr => ?_
  have tk := takes_cx (P := P) (w := w) (K := K) (mg := mg) (base := base) (N := ["names", "signs", "rules", "place"]) (qual := "_law_due_answer") (sc := defScope s__law_due_answer) (f := ad.a__law_due_answer) (cdv := cdv) (A := A) (outer := outer) (s := s) (H := H) (E := E)
  have hp := owns_cx (P := P) (w := w) (K := K) (mg := mg) (base := base) (N := ["names", "signs", "rules", "place"]) (qual := "_law_due_answer") (sc := defScope s__law_due_answer) (f := ad.a__law_due_answer) (cdv := cdv) (A := A) (outer := outer) (s := s) (H := H) (E := E)
  have nd := sc__law_due_answer.nd
  have hu := hu64 hr
  have hu1 := hu1_of hu
  exact (bj_cons (sj_if (tj_cmp oj_gt (ej_var 0) ej_int) (bj_cons (sj_ret (ej_tup (aj_cons ej_str (aj_cons ej_int aj_nil)))) bj_nil) bj_nil) (bj_cons (sj_if (tj_cmp oj_gt (ej_lenN 2 T.z_len) ej_int) (bj_cons (sj_ret (ej_tup (aj_cons ej_str (aj_cons ej_int aj_nil)))) bj_nil) bj_nil) (bj_cons (sj_if (tj_cmp oj_gt (ej_var 1) ej_int) (bj_cons (sj_ret (ej_tup (aj_cons ej_str (aj_cons ej_int aj_nil)))) bj_nil) bj_nil) (bj_cons (sj_for hp (ij_range1 T.z_range (aj_cons (ej_lenN 2 T.z_len) aj_nil)) (gj_name 3 nd) (calm_set 3) (bj_cons (sj_if (tj_not (tj_val (ej_call (fnj__law_good_rule T) tk (hr.mono (by decide)) T.m__law_good_rule T.F__law_good_rule.kp hb__law_good_rule_3 hd__law_good_rule_3 (aj_cons (ej_subN 2 (ej_var 3)) (aj_cons (ej_var 0) (aj_cons (ej_var 1) aj_nil)))))) (bj_cons (sj_ret (ej_tup (aj_cons ej_str (aj_cons (ej_var 3) aj_nil)))) bj_nil) bj_nil) bj_nil)) (bj_cons (sj_ret (ej_tup (aj_cons ej_str (aj_cons ej_bl (aj_cons (OJ.ej (oj_lst (aj_cons ej_str (aj_cons ej_str aj_nil)))) (aj_cons (ej_var 0) (aj_cons (ej_var 1) (aj_cons (ej_bty cj_tuple T.z_tuple (aj_cons (ej_var 2) aj_nil)) aj_nil)))))))) bj_nil)))))
theorem fnj__law_bent (T : Tx P w K mg ad) : FnJ P w K mg base 2 ad.a__law_bent ad.d__law_bent ["rule", "way", "pick", "names", "signs"] den__law_bent := by
  obtain ⟨us__law_odd_parts_2, hd__law_odd_parts_2, hb__law_odd_parts_2⟩ := T.b__law_odd_parts_2
  refine fnj_ofD T.F__law_bent sc__law_bent fun cdv A outer s H E hr => ?_
  have tk := takes_cx (P := P) (w := w) (K := K) (mg := mg) (base := base) (N := ["rule", "way", "pick", "names", "signs", "odd", "place", "rest", "kinds", "bent"]) (qual := "_law_bent") (sc := defScope s__law_bent) (f := ad.a__law_bent) (cdv := cdv) (A := A) (outer := outer) (s := s) (H := H) (E := E)
  have hp := owns_cx (P := P) (w := w) (K := K) (mg := mg) (base := base) (N := ["rule", "way", "pick", "names", "signs", "odd", "place", "rest", "kinds", "bent"]) (qual := "_law_bent") (sc := defScope s__law_bent) (f := ad.a__law_bent) (cdv := cdv) (A := A) (outer := outer) (s := s) (H := H) (E := E)
  have nd := sc__law_bent.nd
  have hu := hu64 hr
  have hu1 := hu1_of hu
  exact (bj_cons (sj_set 5 nd (ej_call (fnj__law_odd_parts T) tk (hr.mono (by decide)) T.m__law_odd_parts T.F__law_odd_parts.kp hb__law_odd_parts_2 hd__law_odd_parts_2 (aj_cons (ej_var 3) (aj_cons (ej_var 4) aj_nil)))) (bj_cons (sj_if (tj_cmp oj_lt (ej_var 1) (ej_lenN 5 T.z_len)) (bj_cons (sj_set 6 nd (ej_bin oj_add ej_int (ej_bin oj_mod (ej_bty cj_int T.z_int (aj_cons (ej_var 2) aj_nil)) (ej_blt cj_max T.z_max (aj_cons ej_int (aj_cons (ej_bin oj_sub (ej_lenN 0 T.z_len) ej_int) aj_nil)))))) (bj_cons (sj_ret (ej_bin oj_add (ej_bin oj_add (ej_slice (ej_var 0) pj_none (pj_some (ej_var 6))) (ej_tup (aj_cons (ej_subN 5 (ej_var 1)) aj_nil))) (ej_slice (ej_var 0) (pj_some (ej_bin oj_add (ej_var 6) ej_int)) pj_none))) bj_nil)) bj_nil) (bj_cons (sj_set 7 nd (ej_bin oj_sub (ej_var 1) (ej_lenN 5 T.z_len))) (bj_cons (sj_setO 8 nd (oj_lst (aj_cons ej_str (aj_cons ej_str (aj_cons ej_str (aj_cons ej_str (aj_cons ej_str (aj_cons ej_str (aj_cons ej_str (aj_cons ej_str (aj_cons ej_str (aj_cons ej_str (aj_cons ej_str (aj_cons ej_str (aj_cons ej_str aj_nil))))))))))))))) (bj_cons (sj_if (tj_cmp oj_lt (ej_var 7) (ej_lenN 8 T.z_len)) (bj_cons (sj_ret (ej_bin oj_add (ej_tup (aj_cons (ej_subN 8 (ej_var 7)) aj_nil)) (ej_slice (ej_var 0) (pj_some ej_int) pj_none))) bj_nil) bj_nil) (bj_cons (sj_setO 9 nd (oj_lst (aj_cons (ej_slice (ej_var 0) pj_none (pj_some (ej_blt cj_max T.z_max (aj_cons ej_int (aj_cons (ej_bin oj_sub (ej_lenN 0 T.z_len) ej_int) aj_nil))))) (aj_cons (ej_bin oj_add (ej_var 0) (ej_tup (aj_cons ej_str aj_nil))) (aj_cons (ej_bin oj_add (ej_var 0) (ej_tup (aj_cons ej_int aj_nil))) (aj_cons (ej_slice (ej_var 0) pj_none (pj_some ej_int)) (aj_cons (ej_bin oj_add (ej_var 0) (ej_slice (ej_var 0) (pj_some ej_int) pj_none)) (aj_cons (ej_bin oj_add (ej_slice (ej_var 0) pj_none (pj_some ej_int)) (ej_rev (ej_slice (ej_var 0) (pj_some ej_int) pj_none))) (aj_cons (ej_slice (ej_var 0) pj_none (pj_some ej_int)) aj_nil))))))))) (bj_cons (sj_ret (ej_subN 9 (ej_bin oj_mod (ej_bty cj_int T.z_int (aj_cons (ej_bin oj_sub (ej_var 7) (ej_lenN 8 T.z_len)) aj_nil)) (ej_lenN 9 T.z_len)))) bj_nil)))))))
theorem fnj_is_part (T : Tx P w K mg ad) : FnJ P w K mg base 3 ad.a_is_part ad.d_is_part ["value", "part", "names", "signs"] den_is_part := by
  obtain ⟨us_is_leaf_text_1, hd_is_leaf_text_1, hb_is_leaf_text_1⟩ := T.b_is_leaf_text_1
  obtain ⟨us_is_name_2, hd_is_name_2, hb_is_name_2⟩ := T.b_is_name_2
  refine fnj_ofD T.F_is_part sc_is_part fun cdv A outer s H E hr => ?_
  have tk := takes_cx (P := P) (w := w) (K := K) (mg := mg) (base := base) (N := ["value", "part", "names", "signs"]) (qual := "is_part") (sc := defScope s_is_part) (f := ad.a_is_part) (cdv := cdv) (A := A) (outer := outer) (s := s) (H := H) (E := E)
  have hp := owns_cx (P := P) (w := w) (K := K) (mg := mg) (base := base) (N := ["value", "part", "names", "signs"]) (qual := "is_part") (sc := defScope s_is_part) (f := ad.a_is_part) (cdv := cdv) (A := A) (outer := outer) (s := s) (H := H) (E := E)
  have nd := sc_is_part.nd
  have hu := hu64 hr
  have hu1 := hu1_of hu
  exact (bj_cons (sj_if (tj_cmpN 1 (n := false) hu (Or.inl ⟨rfl, rfl⟩) ej_str) (bj_cons (sj_ret (ej_call (fnj_is_leaf_text T) tk (hr.mono (by decide)) T.m_is_leaf_text T.F_is_leaf_text.kp hb_is_leaf_text_1 hd_is_leaf_text_1 (aj_cons (ej_var 0) aj_nil))) bj_nil) bj_nil) (bj_cons (sj_if (tj_cmpN 1 (n := false) hu (Or.inl ⟨rfl, rfl⟩) ej_str) (bj_cons (sj_ret (ej_call (fnj_is_name T) tk (hr.mono (by decide)) T.m_is_name T.F_is_name.kp hb_is_name_2 hd_is_name_2 (aj_cons (ej_var 0) (aj_cons (ej_var 3) aj_nil)))) bj_nil) bj_nil) (bj_cons (sj_ret (ej_call (fnj_is_name T) tk (hr.mono (by decide)) T.m_is_name T.F_is_name.kp hb_is_name_2 hd_is_name_2 (aj_cons (ej_var 0) (aj_cons (ej_var 2) aj_nil)))) bj_nil)))
theorem fnj__law_rules (T : Tx P w K mg ad) : FnJ P w K mg base 3 ad.a__law_rules ad.d__law_rules ["row", "names", "signs", "wide", "tall"] den__law_rules := by
  obtain ⟨us__law_text_1, hd__law_text_1, hb__law_text_1⟩ := T.b__law_text_1
  obtain ⟨us__law_rule_5, hd__law_rule_5, hb__law_rule_5⟩ := T.b__law_rule_5
  refine fnj_ofD T.F__law_rules sc__law_rules fun cdv A outer s H E hr => ?_
  have tk := takes_cx (P := P) (w := w) (K := K) (mg := mg) (base := base) (N := ["row", "names", "signs", "wide", "tall", "rules", "k", "f", "turn"]) (qual := "_law_rules") (sc := defScope s__law_rules) (f := ad.a__law_rules) (cdv := cdv) (A := A) (outer := outer) (s := s) (H := H) (E := E)
  have hp := owns_cx (P := P) (w := w) (K := K) (mg := mg) (base := base) (N := ["row", "names", "signs", "wide", "tall", "rules", "k", "f", "turn"]) (qual := "_law_rules") (sc := defScope s__law_rules) (f := ad.a__law_rules) (cdv := cdv) (A := A) (outer := outer) (s := s) (H := H) (E := E)
  have nd := sc__law_rules.nd
  have hu := hu64 hr
  have hu1 := hu1_of hu
  exact (bj_cons (sj_setO 5 nd (oj_lst aj_nil)) (bj_cons (sj_if (tj_cmp oj_gt (ej_bin oj_mod (ej_bty cj_int T.z_int (aj_cons (ej_subN 0 ej_int) aj_nil)) ej_int) ej_int) (bj_cons (sj_for hp (ij_range1 T.z_range (aj_cons (ej_var 1) aj_nil)) (gj_name 6 nd) (calm_set 6) (bj_cons (sj_app 5 (ej_tup (aj_cons ej_str (aj_cons (ej_bin oj_mul (ej_var 6) (ej_var 3)) (aj_cons (ej_call (fnj__law_text T) tk (hr.mono (by decide)) T.m__law_text T.F__law_text.kp hb__law_text_1 hd__law_text_1 (aj_cons (ej_subN 0 (ej_bin oj_add ej_int (ej_var 6))) aj_nil)) aj_nil))))) (bj_cons (sj_for hp (ij_range1 T.z_range (aj_cons (ej_var 2) aj_nil)) (gj_name 7 nd) (calm_set 7) (bj_cons (sj_app 5 (ej_tup (aj_cons ej_str (aj_cons (ej_bin oj_mul (ej_var 6) (ej_var 3)) (aj_cons (ej_bin oj_mul (ej_var 7) (ej_var 4)) (aj_cons (ej_bin oj_mul (ej_bin oj_mod (ej_bty cj_int T.z_int (aj_cons (ej_subN 0 (ej_bin oj_add (ej_bin oj_add ej_int (ej_bin oj_mul ej_int (ej_var 6))) (ej_var 7))) aj_nil)) (ej_var 1)) (ej_var 3)) aj_nil)))))) bj_nil)) bj_nil))) bj_nil) bj_nil) (bj_cons (sj_for hp (ij_range1 T.z_range (aj_cons (ej_bin oj_add (ej_bin oj_mod (ej_bty cj_int T.z_int (aj_cons (ej_subN 0 ej_int) aj_nil)) ej_int) ej_int) aj_nil)) (gj_name 6 nd) (calm_set 6) (bj_cons (sj_app 5 (ej_call (fnj__law_rule T) tk (hr.mono (by decide)) T.m__law_rule T.F__law_rule.kp hb__law_rule_5 hd__law_rule_5 (aj_cons (ej_slice (ej_var 0) (pj_some (ej_bin oj_add ej_int (ej_bin oj_mul ej_int (ej_var 6)))) (pj_some (ej_bin oj_add ej_int (ej_bin oj_mul ej_int (ej_var 6))))) (aj_cons (ej_var 1) (aj_cons (ej_var 2) (aj_cons (ej_var 3) (aj_cons (ej_var 4) aj_nil))))))) bj_nil)) (bj_cons (sj_set 8 nd (ej_bin oj_mod (ej_bty cj_int T.z_int (aj_cons (ej_subN 0 ej_int) aj_nil)) (ej_lenN 5 T.z_len))) (bj_cons (sj_ret (ej_bin oj_add (ej_slice (ej_var 5) (pj_some (ej_var 8)) pj_none) (ej_slice (ej_var 5) pj_none (pj_some (ej_var 8))))) bj_nil)))))
theorem fnj_is_stack_rule (T : Tx P w K mg ad) : FnJ P w K mg base 4 ad.a_is_stack_rule ad.d_is_stack_rule ["rule", "names", "signs"] den_is_stack_rule := by
  obtain ⟨us_is_part_4, hd_is_part_4, hb_is_part_4⟩ := T.b_is_part_4
  refine fnj_ofD T.F_is_stack_rule sc_is_stack_rule fun cdv A outer s H E hr => ?_
  have tk := takes_cx (P := P) (w := w) (K := K) (mg := mg) (base := base) (N := ["rule", "names", "signs", "parts", "value", "part"]) (qual := "is_stack_rule") (sc := defScope s_is_stack_rule) (f := ad.a_is_stack_rule) (cdv := cdv) (A := A) (outer := outer) (s := s) (H := H) (E := E)
  have hp := owns_cx (P := P) (w := w) (K := K) (mg := mg) (base := base) (N := ["rule", "names", "signs", "parts", "value", "part"]) (qual := "is_stack_rule") (sc := defScope s_is_stack_rule) (f := ad.a_is_stack_rule) (cdv := cdv) (A := A) (outer := outer) (s := s) (H := H) (E := E)
  have nd := sc_is_stack_rule.nd
  have hu := hu64 hr
  have hu1 := hu1_of hu
  exact (bj_cons (sj_if (tj_inG (n := true) T.g_PARTS (ej_subN 0 ej_int)) (bj_cons (sj_ret ej_bl) bj_nil) bj_nil) (bj_cons (sj_set 3 nd (ej_subG T.g_PARTS (ej_subN 0 ej_int))) (bj_cons (sj_if (tj_cmp (oj_ne hu) (ej_lenN 0 T.z_len) (ej_bin oj_add (ej_lenN 3 T.z_len) ej_int)) (bj_cons (sj_ret ej_bl) bj_nil) bj_nil) (bj_cons (sj_ret (ej_blt cj_all T.z_all (aj_cons (OJ.ej (oj_lc (own := [("value", 4), ("part", 5)]) nd (ij_zip T.z_zip (aj_cons (ej_slice (ej_var 0) (pj_some ej_int) pj_none) (aj_cons (ej_var 3) aj_nil))) (blkQ_by (show blkQ ["rule", "names", "signs", "parts", "value", "part"] (defScope s_is_stack_rule) _ [("value", 4), ("part", 5)] = true by decide +kernel)) (fun _ _ _ _ _ => (gcj_tup 2 (gscj_cons (gcj_name 4 nd) (gscj_cons (gcj_name 5 nd) gscj_nil)))) (fun _ _ _ _ _ => tsj_nil) (fun _ _ _ _ _ => (ej_call (fnj_is_part T) takes0 (hr.mono (by decide)) T.m_is_part T.F_is_part.kp hb_is_part_4 hd_is_part_4 (aj_cons (ej_var 4) (aj_cons (ej_var 5) (aj_cons (ej_var 1) (aj_cons (ej_var 2) aj_nil)))))))) aj_nil))) bj_nil))))
theorem inj_StackGrammar_init (T : Tx P w K mg ad) : InS P w K mg base 5 ad.a_StackGrammar_init ad.d_StackGrammar_init ["self", "names", "signs", "rules"] den_StackGrammar_init := by
  obtain ⟨us_Grammar_init_StackGrammar_3, hd_Grammar_init_StackGrammar_3, hb_Grammar_init_StackGrammar_3⟩ := T.b_Grammar_init_StackGrammar_3
  obtain ⟨us_is_stack_rule_3, hd_is_stack_rule_3, hb_is_stack_rule_3⟩ := T.b_is_stack_rule_3
  refine inS_ofSupD T.F_StackGrammar_init sc_StackGrammar_init T.cj_StackGrammar rfl rfl rfl (fun _ => ⟨_, rfl⟩) (fun _ => rfl) (fun _ => rfl) ((inj_Grammar_init_StackGrammar T).mono (by decide)) hb_Grammar_init_StackGrammar_3 hd_Grammar_init_StackGrammar_3 inS_len fun cda cc me L A outer s H E hr => ?_
  have tk := takes_cxS (P := P) (w := w) (K := K) (mg := mg) (base := base) (N := ["self", "names", "signs", "rules", "place", "rule"]) (qual := "StackGrammar.__init__") (sc := defScope s_StackGrammar_init) (f := ad.a_StackGrammar_init) (cdv := .ref cda) (cc := cc) (A := A) (outer := outer) (s := s) (H := H) (E := E)
  have hp := owns_cxS (P := P) (w := w) (K := K) (mg := mg) (base := base) (N := ["self", "names", "signs", "rules", "place", "rule"]) (qual := "StackGrammar.__init__") (sc := defScope s_StackGrammar_init) (f := ad.a_StackGrammar_init) (cdv := .ref cda) (cc := cc) (A := A) (outer := outer) (s := s) (H := H) (E := E)
  have nd := sc_StackGrammar_init.nd
  have hu := hu64 hr
  have hu1 := hu1_of hu
  exact ⟨(la_e (ej_var 1) (la_n 3 la_nil)), (bj_cons (sj_if (tj_cmp oj_gt (ej_var 2) (ej_glob (T.g_MOST_NAMES.glI))) (bj_cons (sj_raise1 rfl tk T.s_TooMany T.m_TooMany T.n_TooMany (hr.mono (by decide) : Room 1 _) (by decide) (aj_cons (ej_glob (T.g_MOST_NAMES.glI)) aj_nil)) bj_nil) bj_nil) (bj_cons (sj_for hp (ij_enum T.z_enumerate (aj_cons (ej_plc (lj_fld T.cj_StackGrammar T.na_StackGrammar_rules (lj_name 0))) aj_nil)) (gj_tup 2 (gsj_cons (gj_name 4 nd) (gsj_cons (gj_name 5 nd) gsj_nil))) (calm_un (calm_cons (calm_set 4) (calm_cons (calm_set 5) calm_nil))) (bj_cons (sj_if (tj_not (tj_val (ej_call (fnj_is_stack_rule T) tk (hr.mono (by decide)) T.m_is_stack_rule T.F_is_stack_rule.kp hb_is_stack_rule_3 hd_is_stack_rule_3 (aj_cons (ej_var 5) (aj_cons (ej_var 1) (aj_cons (ej_var 2) aj_nil)))))) (bj_cons (sj_raise1 rfl tk T.s_BadRule T.m_BadRule T.n_BadRule (hr.mono (by decide) : Room 1 _) (by decide) (aj_cons (ej_var 4) aj_nil)) bj_nil) bj_nil) bj_nil)) (bj_cons (sj_fldM T.cj_StackGrammar T.na_StackGrammar_signs (lj_name 0) (mj_ej (ej_var 2))) bj_nil)))⟩
theorem fnj__law_told (T : Tx P w K mg ad) : FnJ P w K mg base 7 ad.a__law_told ad.d__law_told ["names", "signs", "rules"] den__law_told := by
  obtain ⟨us_StackGrammar_init_4, hd_StackGrammar_init_4, hb_StackGrammar_init_4⟩ := T.b_StackGrammar_init_4
  refine fnj_ofD T.F__law_told sc__law_told fun cdv A outer s H E hr => ?_
  have tk := takes_cx (P := P) (w := w) (K := K) (mg := mg) (base := base) (N := ["names", "signs", "rules", "passed", "grammar", "e", "kinds"]) (qual := "_law_told") (sc := defScope s__law_told) (f := ad.a__law_told) (cdv := cdv) (A := A) (outer := outer) (s := s) (H := H) (E := E)
  have hp := owns_cx (P := P) (w := w) (K := K) (mg := mg) (base := base) (N := ["names", "signs", "rules", "passed", "grammar", "e", "kinds"]) (qual := "_law_told") (sc := defScope s__law_told) (f := ad.a__law_told) (cdv := cdv) (A := A) (outer := outer) (s := s) (H := H) (E := E)
  have nd := sc__law_told.nd
  have hu := hu64 hr
  have hu1 := hu1_of hu
  exact (bj_cons (sj_setO 3 nd (oj_list T.z_list (aj_cons (ej_var 2) aj_nil))) (bj_cons (sj_try (c := .ref ad.c_Fault) (i := 5) tk ⟨rfl, by decide, Or.inl T.m_Fault⟩ T.e_Fault (fun W pn xe tk2 po => (bj_cons (sj_set 4 nd (MJ.ej (mj_make T.cj_StackGrammar T.mk_StackGrammar (inj_StackGrammar_init T) tk2 (hr.mono (by decide)) T.m_StackGrammar hb_StackGrammar_init_4 hd_StackGrammar_init_4 (la_e (ej_var 0) (la_e (ej_var 1) (la_n 3 la_nil))) inS_len))) bj_nil)) (fun a oe cls d pn hz hf => (bj_cons (sj_if (TWJ.tj (twj_or (tj_not (tj_val (ej_isE 5 T.i_ValueError T.z_isinstance hz hf (pe_bltn (v := V.ty "ValueError") rfl T.z_ValueError (by decide +kernel) rfl) (fun u h => h)))) (twj_or1 (tj_val (ej_isE 5 T.i_BadLine T.z_isinstance hz hf (pe_glob (v := V.ref ad.c_BadLine) rfl T.m_BadLine rfl) (fun u h => h)))))) (bj_cons (sj_ret (ej_tup (aj_cons ej_str (aj_cons ej_int aj_nil)))) bj_nil) bj_nil) (bj_cons (sj_if (TWJ.tj (twj_and (tj_val (ej_isE 5 T.i_TooMany T.z_isinstance hz hf (pe_glob (v := V.ref ad.c_TooMany) rfl T.m_TooMany rfl) (fun u h => h))) (twj_and1 (tj_not (tj_val (ej_isE 5 T.i_BadRule T.z_isinstance hz hf (pe_glob (v := V.ref ad.c_BadRule) rfl T.m_BadRule rfl) (fun u h => h))))))) (bj_cons (sj_ret (ej_tup (aj_cons ej_str (aj_cons (ej_xf 5 (T.x_limit) hz hf) aj_nil)))) bj_nil) bj_nil) (bj_cons (sj_if (TWJ.tj (twj_and (tj_val (ej_isE 5 T.i_BadRule T.z_isinstance hz hf (pe_glob (v := V.ref ad.c_BadRule) rfl T.m_BadRule rfl) (fun u h => h))) (twj_and1 (tj_not (tj_val (ej_isE 5 T.i_TooMany T.z_isinstance hz hf (pe_glob (v := V.ref ad.c_TooMany) rfl T.m_TooMany rfl) (fun u h => h))))))) (bj_cons (sj_ret (ej_tup (aj_cons ej_str (aj_cons (ej_xf 5 (T.x_place) hz hf) aj_nil)))) bj_nil) bj_nil) (bj_cons (sj_ret (ej_tup (aj_cons ej_str (aj_cons ej_int aj_nil)))) bj_nil))))) nd) (bj_cons (sj_if (tj_cmpN 3 (n := true) hu (Or.inr ⟨rfl, rfl⟩) (ej_var 2)) (bj_cons (sj_ret (ej_tup (aj_cons ej_str (aj_cons ej_int aj_nil)))) bj_nil) bj_nil) (bj_cons (sj_app 3 (ej_tup (aj_cons ej_str (aj_cons ej_int (aj_cons ej_str aj_nil))))) (bj_cons (sj_setIx 3 (ej_tup (aj_cons ej_str (aj_cons ej_int (aj_cons ej_str aj_nil)))) ej_int) (bj_cons (sj_setO 6 nd (oj_lst (aj_cons (ej_con T.cj_StackGrammar T.cc_StackGrammar_KIND (fun F => .str _) (ej_var 4)) (aj_cons (ej_cval T.m_StackGrammar T.cr_StackGrammar T.cv_StackGrammar_KIND (fun F => .str _)) aj_nil)))) (bj_cons (sj_ret (ej_tup (aj_cons ej_str (aj_cons (ej_isI T.j_Grammar T.z_isinstance T.m_Grammar (ej_var 4)) (aj_cons (ej_var 6) (aj_cons (ej_fldD T.cj_StackGrammar T.na_StackGrammar_names (ej_var 4)) (aj_cons (ej_fldD T.cj_StackGrammar T.na_StackGrammar_signs (ej_var 4)) (aj_cons (ej_fldD T.cj_StackGrammar T.na_StackGrammar_rules (ej_var 4)) aj_nil)))))))) bj_nil)))))))
theorem fnj__law_limits (T : Tx P w K mg ad) : FnJ P w K mg base 8 ad.a__law_limits ad.d__law_limits ["names", "signs", "rules", "row"] den__law_limits := by
  obtain ⟨us__law_told_3, hd__law_told_3, hb__law_told_3⟩ := T.b__law_told_3
  obtain ⟨us__law_due_answer_3, hd__law_due_answer_3, hb__law_due_answer_3⟩ := T.b__law_due_answer_3
  obtain ⟨us__law_same_2, hd__law_same_2, hb__law_same_2⟩ := T.b__law_same_2
  refine fnj_ofD T.F__law_limits sc__law_limits fun cdv A outer s H E hr => ?_
  have tk := takes_cx (P := P) (w := w) (K := K) (mg := mg) (base := base) (N := ["names", "signs", "rules", "row", "stop", "bad", "full", "place", "spoilt", "asked", "one", "two", "rows"]) (qual := "_law_limits") (sc := defScope s__law_limits) (f := ad.a__law_limits) (cdv := cdv) (A := A) (outer := outer) (s := s) (H := H) (E := E)
  have hp := owns_cx (P := P) (w := w) (K := K) (mg := mg) (base := base) (N := ["names", "signs", "rules", "row", "stop", "bad", "full", "place", "spoilt", "asked", "one", "two", "rows"]) (qual := "_law_limits") (sc := defScope s__law_limits) (f := ad.a__law_limits) (cdv := cdv) (A := A) (outer := outer) (s := s) (H := H) (E := E)
  have nd := sc__law_limits.nd
  have hu := hu64 hr
  have hu1 := hu1_of hu
  exact (bj_cons (sj_set 4 nd (ej_tup (aj_cons ej_str (aj_cons ej_int (aj_cons ej_str aj_nil))))) (bj_cons (sj_set 5 nd (ej_tup (aj_cons ej_str (aj_cons ej_int (aj_cons ej_str aj_nil))))) (bj_cons (sj_setO 6 nd (oj_rep (oj_lst (aj_cons (ej_var 4) aj_nil)) ej_int)) (bj_cons (sj_set 7 nd (ej_bin oj_mod (ej_bty cj_int T.z_int (aj_cons (ej_subN 3 ej_int) aj_nil)) ej_int)) (bj_cons (sj_set 8 nd (ej_bin oj_add (ej_bin oj_add (ej_slice (ej_var 6) pj_none (pj_some (ej_var 7))) (OJ.ej (oj_lst (aj_cons (ej_var 5) aj_nil)))) (ej_slice (ej_var 6) (pj_some (ej_bin oj_add (ej_var 7) ej_int)) pj_none))) (bj_cons (sj_setO 9 nd (oj_lst (aj_cons (ej_tup (aj_cons ej_int (aj_cons ej_int (aj_cons (OJ.ej (oj_lst (aj_cons (ej_var 4) aj_nil))) aj_nil)))) (aj_cons (ej_tup (aj_cons ej_int (aj_cons ej_int (aj_cons (OJ.ej (oj_lst (aj_cons (ej_var 4) aj_nil))) aj_nil)))) (aj_cons (ej_tup (aj_cons ej_int (aj_cons ej_int (aj_cons (OJ.ej (oj_lst (aj_cons (ej_var 4) aj_nil))) aj_nil)))) (aj_cons (ej_tup (aj_cons ej_int (aj_cons ej_int (aj_cons (OJ.ej (oj_lst (aj_cons (ej_var 5) aj_nil))) aj_nil)))) (aj_cons (ej_tup (aj_cons ej_int (aj_cons ej_int (aj_cons (OJ.ej (oj_lst (aj_cons (ej_var 5) aj_nil))) aj_nil)))) (aj_cons (ej_tup (aj_cons ej_int (aj_cons ej_int (aj_cons (OJ.ej (oj_lst aj_nil)) aj_nil)))) aj_nil)))))))) (bj_cons (sj_setO 9 nd (oj_cat (ej_var 9) (OJ.ej (oj_lst (aj_cons (ej_tup (aj_cons ej_int (aj_cons ej_int (aj_cons (ej_bin oj_add (ej_var 6) (OJ.ej (oj_lst (aj_cons (ej_var 4) aj_nil)))) aj_nil)))) (aj_cons (ej_tup (aj_cons ej_int (aj_cons ej_int (aj_cons (ej_bin oj_add (ej_var 6) (OJ.ej (oj_lst (aj_cons (ej_var 4) aj_nil)))) aj_nil)))) (aj_cons (ej_tup (aj_cons ej_int (aj_cons ej_int (aj_cons (ej_bin oj_add (ej_var 8) (OJ.ej (oj_lst (aj_cons (ej_var 4) aj_nil)))) aj_nil)))) (aj_cons (ej_tup (aj_cons (ej_var 0) (aj_cons (ej_var 1) (aj_cons (ej_var 2) aj_nil)))) aj_nil)))))))) (bj_cons (sj_app 9 (ej_tup (aj_cons (ej_bin oj_add ej_int (ej_bin oj_mod (ej_bty cj_int T.z_int (aj_cons (ej_subN 3 ej_int) aj_nil)) ej_int)) (aj_cons (ej_bin oj_add ej_int (ej_bin oj_mod (ej_bty cj_int T.z_int (aj_cons (ej_subN 3 ej_int) aj_nil)) ej_int)) (aj_cons (ej_var 2) aj_nil))))) (bj_cons (sj_if (tj_cmp (oj_eq hu) (ej_bin oj_mod (ej_bty cj_int T.z_int (aj_cons (ej_subN 3 ej_int) aj_nil)) ej_int) ej_int) (bj_cons (sj_app 9 (ej_tup (aj_cons (ej_var 0) (aj_cons (ej_var 1) (aj_cons (ej_var 6) aj_nil))))) bj_nil) bj_nil) (bj_cons (sj_if (tj_cmp (oj_eq hu) (ej_bin oj_mod (ej_bty cj_int T.z_int (aj_cons (ej_subN 3 ej_int) aj_nil)) ej_int) ej_int) (bj_cons (sj_app 9 (ej_tup (aj_cons ej_int (aj_cons (ej_bin oj_add ej_int (ej_bin oj_mod (ej_bty cj_int T.z_int (aj_cons (ej_subN 3 ej_int) aj_nil)) ej_int)) (aj_cons (ej_var 8) aj_nil))))) bj_nil) bj_nil) (bj_cons (sj_for hp (ij_seq (ej_var 9)) (gj_tup 3 (gsj_cons (gj_name 10 nd) (gsj_cons (gj_name 11 nd) (gsj_cons (gj_name 12 nd) gsj_nil)))) (calm_un (calm_cons (calm_set 10) (calm_cons (calm_set 11) (calm_cons (calm_set 12) calm_nil)))) (bj_cons (sj_if (tj_not (tj_val (ej_call (fnj__law_same T) tk (hr.mono (by decide)) T.m__law_same T.F__law_same.kp hb__law_same_2 hd__law_same_2 (aj_cons (ej_call (fnj__law_told T) tk (hr.mono (by decide)) T.m__law_told T.F__law_told.kp hb__law_told_3 hd__law_told_3 (aj_cons (ej_var 10) (aj_cons (ej_var 11) (aj_cons (ej_var 12) aj_nil)))) (aj_cons (ej_call (fnj__law_due_answer T) tk (hr.mono (by decide)) T.m__law_due_answer T.F__law_due_answer.kp hb__law_due_answer_3 hd__law_due_answer_3 (aj_cons (ej_var 10) (aj_cons (ej_var 11) (aj_cons (ej_var 12) aj_nil)))) aj_nil))))) (bj_cons (sj_ret ej_bl) bj_nil) bj_nil) bj_nil)) (bj_cons (sj_ret ej_bl) bj_nil))))))))))))
theorem fnj_law (T : Tx P w K mg ad) : FnJ P w K mg base 9 ad.a_law ad.d_law ["script"] den_law := by
  obtain ⟨us__law_row_2, hd__law_row_2, hb__law_row_2⟩ := T.b__law_row_2
  obtain ⟨us__law_rules_5, hd__law_rules_5, hb__law_rules_5⟩ := T.b__law_rules_5
  obtain ⟨us__law_edges_2, hd__law_edges_2, hb__law_edges_2⟩ := T.b__law_edges_2
  obtain ⟨us__law_told_3, hd__law_told_3, hb__law_told_3⟩ := T.b__law_told_3
  obtain ⟨us__law_due_answer_3, hd__law_due_answer_3, hb__law_due_answer_3⟩ := T.b__law_due_answer_3
  obtain ⟨us__law_same_2, hd__law_same_2, hb__law_same_2⟩ := T.b__law_same_2
  obtain ⟨us__law_odd_parts_2, hd__law_odd_parts_2, hb__law_odd_parts_2⟩ := T.b__law_odd_parts_2
  obtain ⟨us__law_rule_5, hd__law_rule_5, hb__law_rule_5⟩ := T.b__law_rule_5
  obtain ⟨us__law_bent_5, hd__law_bent_5, hb__law_bent_5⟩ := T.b__law_bent_5
  obtain ⟨us__law_limits_4, hd__law_limits_4, hb__law_limits_4⟩ := T.b__law_limits_4
  refine fnj_ofD T.F_law sc_law fun cdv A outer s H E hr => ?_
  have tk := takes_cx (P := P) (w := w) (K := K) (mg := mg) (base := base) (N := ["script", "row", "names", "signs", "rules", "edge", "ways", "way", "one", "two", "drawn", "bent", "place"]) (qual := "law") (sc := defScope s_law) (f := ad.a_law) (cdv := cdv) (A := A) (outer := outer) (s := s) (H := H) (E := E)
  have hp := owns_cx (P := P) (w := w) (K := K) (mg := mg) (base := base) (N := ["script", "row", "names", "signs", "rules", "edge", "ways", "way", "one", "two", "drawn", "bent", "place"]) (qual := "law") (sc := defScope s_law) (f := ad.a_law) (cdv := cdv) (A := A) (outer := outer) (s := s) (H := H) (E := E)
  have nd := sc_law.nd
  have hu := hu64 hr
  have hu1 := hu1_of hu
  exact (bj_cons (sj_set 1 nd (ej_call (fnj__law_row T) tk (hr.mono (by decide)) T.m__law_row T.F__law_row.kp hb__law_row_2 hd__law_row_2 (aj_cons (ej_var 0) (aj_cons ej_int aj_nil)))) (bj_cons (sj_set 2 nd (ej_bin oj_add ej_int (ej_bin oj_mod (ej_bty cj_int T.z_int (aj_cons (ej_subN 1 ej_int) aj_nil)) ej_int))) (bj_cons (sj_set 3 nd (ej_bin oj_mod (ej_bty cj_int T.z_int (aj_cons (ej_subN 1 ej_int) aj_nil)) ej_int)) (bj_cons (sj_if (tj_cmp (oj_eq hu) (ej_bin oj_mod (ej_bty cj_int T.z_int (aj_cons (ej_subN 1 ej_int) aj_nil)) ej_int) ej_int) (bj_cons (sj_set 2 nd ej_int) (bj_cons (sj_set 3 nd ej_int) bj_nil)) bj_nil) (bj_cons (sj_set 4 nd (ej_call (fnj__law_rules T) tk (hr.mono (by decide)) T.m__law_rules T.F__law_rules.kp hb__law_rules_5 hd__law_rules_5 (aj_cons (ej_var 1) (aj_cons (ej_blt cj_min T.z_min (aj_cons (ej_var 2) (aj_cons ej_int aj_nil))) (aj_cons (ej_blt cj_min T.z_min (aj_cons (ej_var 3) (aj_cons ej_int aj_nil))) (aj_cons ej_int (aj_cons ej_int aj_nil))))))) (bj_cons (sj_for hp (ij_seq (ej_call (fnj__law_edges T) tk (hr.mono (by decide)) T.m__law_edges T.F__law_edges.kp hb__law_edges_2 hd__law_edges_2 (aj_cons (ej_var 2) (aj_cons (ej_var 3) aj_nil)))) (gj_name 5 nd) (calm_set 5) (bj_cons (sj_if (tj_not (tj_val (ej_call (fnj__law_same T) tk (hr.mono (by decide)) T.m__law_same T.F__law_same.kp hb__law_same_2 hd__law_same_2 (aj_cons (ej_call (fnj__law_told T) tk (hr.mono (by decide)) T.m__law_told T.F__law_told.kp hb__law_told_3 hd__law_told_3 (aj_cons (ej_var 2) (aj_cons (ej_var 3) (aj_cons (OJ.ej (oj_lst (aj_cons (ej_var 5) aj_nil))) aj_nil)))) (aj_cons (ej_call (fnj__law_due_answer T) tk (hr.mono (by decide)) T.m__law_due_answer T.F__law_due_answer.kp hb__law_due_answer_3 hd__law_due_answer_3 (aj_cons (ej_var 2) (aj_cons (ej_var 3) (aj_cons (OJ.ej (oj_lst (aj_cons (ej_var 5) aj_nil))) aj_nil)))) aj_nil))))) (bj_cons (sj_ret ej_bl) bj_nil) bj_nil) bj_nil)) (bj_cons (sj_set 6 nd (ej_bin oj_add (ej_blt cj_len T.z_len (aj_cons (ej_call (fnj__law_odd_parts T) tk (hr.mono (by decide)) T.m__law_odd_parts T.F__law_odd_parts.kp hb__law_odd_parts_2 hd__law_odd_parts_2 (aj_cons (ej_var 2) (aj_cons (ej_var 3) aj_nil))) aj_nil)) ej_int)) (bj_cons (sj_for hp (ij_range1 T.z_range (aj_cons (ej_var 6) aj_nil)) (gj_name 7 nd) (calm_set 7) (bj_cons (sj_set 8 nd (ej_subN 1 (ej_bin oj_add ej_int (ej_bin oj_mul ej_int (ej_var 7))))) (bj_cons (sj_set 9 nd (ej_subN 1 (ej_bin oj_add ej_int (ej_bin oj_mul ej_int (ej_var 7))))) (bj_cons (sj_set 10 nd (ej_call (fnj__law_rule T) tk (hr.mono (by decide)) T.m__law_rule T.F__law_rule.kp hb__law_rule_5 hd__law_rule_5 (aj_cons (OJ.ej (oj_lst (aj_cons (ej_bin oj_add (ej_var 7) (ej_subN 1 ej_int)) (aj_cons (ej_var 8) (aj_cons (ej_var 9) (aj_cons (ej_bin oj_fdiv (ej_var 8) ej_int) (aj_cons (ej_bin oj_fdiv (ej_var 9) ej_int) aj_nil))))))) (aj_cons (ej_blt cj_min T.z_min (aj_cons (ej_var 2) (aj_cons ej_int aj_nil))) (aj_cons (ej_blt cj_min T.z_min (aj_cons (ej_var 3) (aj_cons ej_int aj_nil))) (aj_cons ej_int (aj_cons ej_int aj_nil))))))) (bj_cons (sj_setO 11 nd (oj_list T.z_list (aj_cons (ej_var 4) aj_nil))) (bj_cons (sj_set 12 nd (ej_bin oj_mod (ej_bty cj_int T.z_int (aj_cons (ej_var 9) aj_nil)) (ej_bin oj_add (ej_lenN 4 T.z_len) ej_int))) (bj_cons (sj_ins 11 (aj_cons (ej_var 12) (aj_cons (ej_call (fnj__law_bent T) tk (hr.mono (by decide)) T.m__law_bent T.F__law_bent.kp hb__law_bent_5 hd__law_bent_5 (aj_cons (ej_var 10) (aj_cons (ej_var 7) (aj_cons (ej_bin oj_fdiv (ej_var 8) ej_int) (aj_cons (ej_var 2) (aj_cons (ej_var 3) aj_nil)))))) aj_nil))) (bj_cons (sj_if (tj_cmp (oj_eq hu) (ej_bin oj_mod (ej_bty cj_int T.z_int (aj_cons (ej_var 8) aj_nil)) ej_int) ej_int) (bj_cons (sj_set 12 nd (ej_bin oj_mod (ej_bty cj_int T.z_int (aj_cons (ej_bin oj_fdiv (ej_var 8) ej_int) aj_nil)) (ej_lenN 11 T.z_len))) (bj_cons (sj_setIx 11 (ej_call (fnj__law_bent T) tk (hr.mono (by decide)) T.m__law_bent T.F__law_bent.kp hb__law_bent_5 hd__law_bent_5 (aj_cons (ej_subN 11 (ej_var 12)) (aj_cons (ej_bin oj_mod (ej_bty cj_int T.z_int (aj_cons (ej_bin oj_fdiv (ej_var 9) ej_int) aj_nil)) (ej_var 6)) (aj_cons (ej_bin oj_fdiv (ej_var 8) ej_int) (aj_cons (ej_var 2) (aj_cons (ej_var 3) aj_nil)))))) (ej_var 12)) bj_nil)) bj_nil) (bj_cons (sj_if (tj_not (tj_val (ej_call (fnj__law_same T) tk (hr.mono (by decide)) T.m__law_same T.F__law_same.kp hb__law_same_2 hd__law_same_2 (aj_cons (ej_call (fnj__law_told T) tk (hr.mono (by decide)) T.m__law_told T.F__law_told.kp hb__law_told_3 hd__law_told_3 (aj_cons (ej_var 2) (aj_cons (ej_var 3) (aj_cons (ej_var 11) aj_nil)))) (aj_cons (ej_call (fnj__law_due_answer T) tk (hr.mono (by decide)) T.m__law_due_answer T.F__law_due_answer.kp hb__law_due_answer_3 hd__law_due_answer_3 (aj_cons (ej_var 2) (aj_cons (ej_var 3) (aj_cons (ej_var 11) aj_nil)))) aj_nil))))) (bj_cons (sj_ret ej_bl) bj_nil) bj_nil) bj_nil))))))))) (bj_cons (sj_ret (ej_call (fnj__law_limits T) tk (hr.mono (by decide)) T.m__law_limits T.F__law_limits.kp hb__law_limits_4 hd__law_limits_4 (aj_cons (ej_var 2) (aj_cons (ej_var 3) (aj_cons (ej_var 4) (aj_cons (ej_var 1) aj_nil)))))) bj_nil)))))))))
end
section
theorem all_mk {P : Program} {w : World} {K : PySem.W.Frag} {h : Heap} {mg : Str → Option Value} {fa : Addr} (X : K.In h) (G : h.Ns mainGlobals mg) (hfa : mg "law" = some (.ref fa))
    {tk_LETTERS : Tok} {tk_MOST_LEAF : Tok} {tk_MOST_NAMES : Tok} {tk_MOST_RULES : Tok} {gp_PARTS : Addr} {gn_PARTS : Nat} {gt_PARTS_0 : Tok} {ga_PARTS_0 : Addr} {go_PARTS_0 : Option Addr} {gm_PARTS_0 : Nat} {gs_PARTS_0 : Array (Option Value)} {gk_PARTS_0_0 : Tok} {gk_PARTS_0_1 : Tok} {gk_PARTS_0_2 : Tok} {gk_PARTS_0_3 : Tok} {gt_PARTS_1 : Tok} {ga_PARTS_1 : Addr} {go_PARTS_1 : Option Addr} {gm_PARTS_1 : Nat} {gs_PARTS_1 : Array (Option Value)} {gk_PARTS_1_0 : Tok} {gk_PARTS_1_1 : Tok} {gk_PARTS_1_2 : Tok} {gt_PARTS_2 : Tok} {ga_PARTS_2 : Addr} {go_PARTS_2 : Option Addr} {gm_PARTS_2 : Nat} {gs_PARTS_2 : Array (Option Value)} {gk_PARTS_2_0 : Tok} {gk_PARTS_2_1 : Tok} {gk_PARTS_2_2 : Tok} {gt_PARTS_3 : Tok} {ga_PARTS_3 : Addr} {go_PARTS_3 : Option Addr} {gm_PARTS_3 : Nat} {gs_PARTS_3 : Array (Option Value)} {gk_PARTS_3_0 : Tok} {gk_PARTS_3_1 : Tok} {gk_PARTS_3_2 : Tok} {gt_PARTS_4 : Tok} {ga_PARTS_4 : Addr} {go_PARTS_4 : Option Addr} {gm_PARTS_4 : Nat} {gs_PARTS_4 : Array (Option Value)} {gk_PARTS_4_0 : Tok} {gk_PARTS_4_1 : Tok} {gk_PARTS_4_2 : Tok} {gt_PARTS_5 : Tok} {ga_PARTS_5 : Addr} {go_PARTS_5 : Option Addr} {gm_PARTS_5 : Nat} {gs_PARTS_5 : Array (Option Value)} {gk_PARTS_5_0 : Tok} {gk_PARTS_5_1 : Tok} {c_Grammar : Addr} {c_StackGrammar : Addr} {a_bad_letter : Addr} {od_bad_letter an_bad_letter : Option Addr} {sl_bad_letter : Array (Option Value)} {oc_bad_letter kV_bad_letter dc_bad_letter pm_bad_letter cd_bad_letter ct_bad_letter : Value} {a_is_leaf_text : Addr} {od_is_leaf_text an_is_leaf_text : Option Addr} {sl_is_leaf_text : Array (Option Value)} {oc_is_leaf_text kV_is_leaf_text dc_is_leaf_text pm_is_leaf_text cd_is_leaf_text ct_is_leaf_text : Value} {a_is_name : Addr} {od_is_name an_is_name : Option Addr} {sl_is_name : Array (Option Value)} {oc_is_name kV_is_name dc_is_name pm_is_name cd_is_name ct_is_name : Value} {a_is_part : Addr} {od_is_part an_is_part : Option Addr} {sl_is_part : Array (Option Value)} {oc_is_part kV_is_part dc_is_part pm_is_part cd_is_part ct_is_part : Value} {a_is_stack_rule : Addr} {od_is_stack_rule an_is_stack_rule : Option Addr} {sl_is_stack_rule : Array (Option Value)} {oc_is_stack_rule kV_is_stack_rule dc_is_stack_rule pm_is_stack_rule cd_is_stack_rule ct_is_stack_rule : Value} {oc_StackGrammar_init kV_StackGrammar_init dc_StackGrammar_init pm_StackGrammar_init ct_StackGrammar_init : Value} {cda_StackGrammar_init cc_StackGrammar_init : Addr} {od_StackGrammar_init an_StackGrammar_init : Option Addr} {sl_StackGrammar_init : Array (Option Value)} {lc_StackGrammar_init : Value} {ld_StackGrammar_init : Option Addr} {ls_StackGrammar_init : Array (Option Value)} {mc_StackGrammar_init : Value} {md_StackGrammar_init : Option Addr} {mv_StackGrammar_init : Array Value} {ms_StackGrammar_init : Array (Option Value)} {mf_StackGrammar_init : Str} {mt_StackGrammar_init : Tok} {cd_StackGrammar_init : ClassData} {a_StackGrammar_init : Addr} {a_Grammar_init_StackGrammar : Addr} {od_Grammar_init_StackGrammar an_Grammar_init_StackGrammar : Option Addr} {sl_Grammar_init_StackGrammar : Array (Option Value)} {oc_Grammar_init_StackGrammar kV_Grammar_init_StackGrammar dc_Grammar_init_StackGrammar pm_Grammar_init_StackGrammar cd_Grammar_init_StackGrammar ct_Grammar_init_StackGrammar : Value} {a__law_row : Addr} {od__law_row an__law_row : Option Addr} {sl__law_row : Array (Option Value)} {oc__law_row kV__law_row dc__law_row pm__law_row cd__law_row ct__law_row : Value} {a__law_text : Addr} {od__law_text an__law_text : Option Addr} {sl__law_text : Array (Option Value)} {oc__law_text kV__law_text dc__law_text pm__law_text cd__law_text ct__law_text : Value} {a__law_rule : Addr} {od__law_rule an__law_rule : Option Addr} {sl__law_rule : Array (Option Value)} {oc__law_rule kV__law_rule dc__law_rule pm__law_rule cd__law_rule ct__law_rule : Value} {a__law_rules : Addr} {od__law_rules an__law_rules : Option Addr} {sl__law_rules : Array (Option Value)} {oc__law_rules kV__law_rules dc__law_rules pm__law_rules cd__law_rules ct__law_rules : Value} {a__law_same : Addr} {od__law_same an__law_same : Option Addr} {sl__law_same : Array (Option Value)} {oc__law_same kV__law_same dc__law_same pm__law_same cd__law_same ct__law_same : Value} {a__law_good_rule : Addr} {od__law_good_rule an__law_good_rule : Option Addr} {sl__law_good_rule : Array (Option Value)} {oc__law_good_rule kV__law_good_rule dc__law_good_rule pm__law_good_rule cd__law_good_rule ct__law_good_rule : Value} {a__law_due_answer : Addr} {od__law_due_answer an__law_due_answer : Option Addr} {sl__law_due_answer : Array (Option Value)} {oc__law_due_answer kV__law_due_answer dc__law_due_answer pm__law_due_answer cd__law_due_answer ct__law_due_answer : Value} {a__law_told : Addr} {od__law_told an__law_told : Option Addr} {sl__law_told : Array (Option Value)} {oc__law_told kV__law_told dc__law_told pm__law_told cd__law_told ct__law_told : Value} {a__law_odd_parts : Addr} {od__law_odd_parts an__law_odd_parts : Option Addr} {sl__law_odd_parts : Array (Option Value)} {oc__law_odd_parts kV__law_odd_parts dc__law_odd_parts pm__law_odd_parts cd__law_odd_parts ct__law_odd_parts : Value} {a__law_bent : Addr} {od__law_bent an__law_bent : Option Addr} {sl__law_bent : Array (Option Value)} {oc__law_bent kV__law_bent dc__law_bent pm__law_bent cd__law_bent ct__law_bent : Value} {a__law_edges : Addr} {od__law_edges an__law_edges : Option Addr} {sl__law_edges : Array (Option Value)} {oc__law_edges kV__law_edges dc__law_edges pm__law_edges cd__law_edges ct__law_edges : Value} {a__law_limits : Addr} {od__law_limits an__law_limits : Option Addr} {sl__law_limits : Array (Option Value)} {oc__law_limits kV__law_limits dc__law_limits pm__law_limits cd__law_limits ct__law_limits : Value} {a_law : Addr} {od_law an_law : Option Addr} {sl_law : Array (Option Value)} {oc_law kV_law dc_law pm_law cd_law ct_law : Value} {c_Fault : Addr} {c_TooMany : Addr} {c_BadRule : Addr} {c_BadLine : Addr} {nm_BadRule q_BadRule : Str} {N_BadRule : Addr} {bs_BadRule sb_BadRule : List Value} {sn_BadRule : List Str} {ab_BadRule : Bool} {co_BadRule : Option Bool} {dd_BadRule : Option Addr} {k0_BadRule k1_BadRule k2_BadRule k3_BadRule k5_BadRule : Option Value} {i_BadRule : Addr} {ioc_BadRule idc_BadRule ipm_BadRule ict_BadRule : Value} {iod_BadRule ian_BadRule : Option Addr} {isl_BadRule : Array (Option Value)} {iq_BadRule : Str} {ida_BadRule icc_BadRule : Addr} {ij_BadRule : Nat} {p0_BadRule p1_BadRule p2_BadRule p3_BadRule p4_BadRule p5_BadRule p6_BadRule p7_BadRule p8_BadRule p9_BadRule p10_BadRule p11_BadRule : Pos} {lc_BadRule : Value} {ld_BadRule : Option Addr} {ls_BadRule : Array (Option Value)} {mc_BadRule : Value} {md_BadRule : Option Addr} {mv_BadRule : Array Value} {ms_BadRule : Array (Option Value)} {mf_BadRule : Str} {mt_BadRule : Tok} {nm_TooMany q_TooMany : Str} {N_TooMany : Addr} {bs_TooMany sb_TooMany : List Value} {sn_TooMany : List Str} {ab_TooMany : Bool} {co_TooMany : Option Bool} {dd_TooMany : Option Addr} {k0_TooMany k1_TooMany k2_TooMany k3_TooMany k5_TooMany : Option Value} {i_TooMany : Addr} {ioc_TooMany idc_TooMany ipm_TooMany ict_TooMany : Value} {iod_TooMany ian_TooMany : Option Addr} {isl_TooMany : Array (Option Value)} {iq_TooMany : Str} {ida_TooMany icc_TooMany : Addr} {ij_TooMany : Nat} {p0_TooMany p1_TooMany p2_TooMany p3_TooMany p4_TooMany p5_TooMany p6_TooMany p7_TooMany p8_TooMany p9_TooMany p10_TooMany p11_TooMany : Pos} {lc_TooMany : Value} {ld_TooMany : Option Addr} {ls_TooMany : Array (Option Value)} {mc_TooMany : Value} {md_TooMany : Option Addr} {mv_TooMany : Array Value} {ms_TooMany : Array (Option Value)} {mf_TooMany : Str} {mt_TooMany : Tok} {ut_StackGrammar_KIND : Tok}
    (hz_ValueError : PySem.W.nsIn K mainGlobals "ValueError" = some none)
    (hz_all : PySem.W.nsIn K mainGlobals "all" = some none)
    (hz_bool : PySem.W.nsIn K mainGlobals "bool" = some none)
    (hz_enumerate : PySem.W.nsIn K mainGlobals "enumerate" = some none)
    (hz_int : PySem.W.nsIn K mainGlobals "int" = some none)
    (hz_isinstance : PySem.W.nsIn K mainGlobals "isinstance" = some none)
    (hz_len : PySem.W.nsIn K mainGlobals "len" = some none)
    (hz_list : PySem.W.nsIn K mainGlobals "list" = some none)
    (hz_max : PySem.W.nsIn K mainGlobals "max" = some none)
    (hz_min : PySem.W.nsIn K mainGlobals "min" = some none)
    (hz_range : PySem.W.nsIn K mainGlobals "range" = some none)
    (hz_str : PySem.W.nsIn K mainGlobals "str" = some none)
    (hz_tuple : PySem.W.nsIn K mainGlobals "tuple" = some none)
    (hz_zip : PySem.W.nsIn K mainGlobals "zip" = some none)
    (hg_LETTERS : PySem.W.nsIn K mainGlobals "LETTERS" = some (some (.str "abcdefghijklmnopqrstuvwxyz" tk_LETTERS)))
    (hg_MOST_LEAF : PySem.W.nsIn K mainGlobals "MOST_LEAF" = some (some (.int 12 tk_MOST_LEAF)))
    (hg_MOST_NAMES : PySem.W.nsIn K mainGlobals "MOST_NAMES" = some (some (.int 300 tk_MOST_NAMES)))
    (hg_MOST_RULES : PySem.W.nsIn K mainGlobals "MOST_RULES" = some (some (.int 900 tk_MOST_RULES)))
    (hg_PARTS : PySem.W.nsIn K mainGlobals "PARTS" = some (some (.ref gp_PARTS)))
    (hh_PARTS : K.lookup gp_PARTS = some ⟨.type "dict", none, .dict #[⟨PyData.keyHash w.params "emit", .str "emit" gt_PARTS_0, .ref ga_PARTS_0⟩, ⟨PyData.keyHash w.params "before", .str "before" gt_PARTS_1, .ref ga_PARTS_1⟩, ⟨PyData.keyHash w.params "after", .str "after" gt_PARTS_2, .ref ga_PARTS_2⟩, ⟨PyData.keyHash w.params "push", .str "push" gt_PARTS_3, .ref ga_PARTS_3⟩, ⟨PyData.keyHash w.params "pop", .str "pop" gt_PARTS_4, .ref ga_PARTS_4⟩, ⟨PyData.keyHash w.params "stop", .str "stop" gt_PARTS_5, .ref ga_PARTS_5⟩] gn_PARTS, #[]⟩)
    (ht_PARTS_0 : K.lookup ga_PARTS_0 = some ⟨.type "tuple", go_PARTS_0, .seq [(.str "name" gk_PARTS_0_0 : Value), (.str "name" gk_PARTS_0_1 : Value), (.str "text" gk_PARTS_0_2 : Value), (.str "text" gk_PARTS_0_3 : Value)].toArray gm_PARTS_0, gs_PARTS_0⟩)
    (ht_PARTS_1 : K.lookup ga_PARTS_1 = some ⟨.type "tuple", go_PARTS_1, .seq [(.str "name" gk_PARTS_1_0 : Value), (.str "name" gk_PARTS_1_1 : Value), (.str "name" gk_PARTS_1_2 : Value)].toArray gm_PARTS_1, gs_PARTS_1⟩)
    (ht_PARTS_2 : K.lookup ga_PARTS_2 = some ⟨.type "tuple", go_PARTS_2, .seq [(.str "name" gk_PARTS_2_0 : Value), (.str "name" gk_PARTS_2_1 : Value), (.str "name" gk_PARTS_2_2 : Value)].toArray gm_PARTS_2, gs_PARTS_2⟩)
    (ht_PARTS_3 : K.lookup ga_PARTS_3 = some ⟨.type "tuple", go_PARTS_3, .seq [(.str "name" gk_PARTS_3_0 : Value), (.str "name" gk_PARTS_3_1 : Value), (.str "sign" gk_PARTS_3_2 : Value)].toArray gm_PARTS_3, gs_PARTS_3⟩)
    (ht_PARTS_4 : K.lookup ga_PARTS_4 = some ⟨.type "tuple", go_PARTS_4, .seq [(.str "name" gk_PARTS_4_0 : Value), (.str "sign" gk_PARTS_4_1 : Value), (.str "name" gk_PARTS_4_2 : Value)].toArray gm_PARTS_4, gs_PARTS_4⟩)
    (ht_PARTS_5 : K.lookup ga_PARTS_5 = some ⟨.type "tuple", go_PARTS_5, .seq [(.str "name" gk_PARTS_5_0 : Value), (.str "text" gk_PARTS_5_1 : Value)].toArray gm_PARTS_5, gs_PARTS_5⟩)
    (hw_PARTS : (gp_PARTS == sysModules) = false)
    (hm_Grammar : PySem.W.nsIn K mainGlobals "Grammar" = some (some (.ref c_Grammar)))
    (hm_StackGrammar : PySem.W.nsIn K mainGlobals "StackGrammar" = some (some (.ref c_StackGrammar)))
    (pg_StackGrammar : PySem.W.plainGet K c_StackGrammar Str.empty = true)
    (hd_StackGrammar : PySem.W.hasDictIn K c_StackGrammar = true)
    (po_StackGrammar : PySem.W.plainOver K c_StackGrammar = true)
    (sa_StackGrammar : PySem.W.findIn K (.ref c_StackGrammar) "__setattr__" = some (some (.builtin "object.__setattr__")))
    (mk_StackGrammar : PySem.W.makesIn K c_StackGrammar = true)
    (kp_StackGrammar : PySem.W.keepIn K (.ref c_StackGrammar) = true)
    (na_StackGrammar_signs : PySem.W.findIn K (.ref c_StackGrammar) "signs" = some none)
    (na_StackGrammar_names : PySem.W.findIn K (.ref c_StackGrammar) "names" = some none)
    (na_StackGrammar_rules : PySem.W.findIn K (.ref c_StackGrammar) "rules" = some none)
    (hm_bad_letter : PySem.W.nsIn K mainGlobals "bad_letter" = some (some (.ref a_bad_letter)))
    (hl_bad_letter : K.lookup a_bad_letter = some ⟨oc_bad_letter, od_bad_letter, .func (PySem.W.fnOf "bad_letter" "bad_letter" (defArgs s_bad_letter) (defBody s_bad_letter) (defScope s_bad_letter) .none kV_bad_letter dc_bad_letter pm_bad_letter an_bad_letter cd_bad_letter ct_bad_letter), sl_bad_letter⟩)
    (hc_bad_letter : PySem.W.codeIn K cd_bad_letter "bad_letter" = true)
    (hk_bad_letter : PySem.W.keepIn K (.ref a_bad_letter) = true)
    (hm_is_leaf_text : PySem.W.nsIn K mainGlobals "is_leaf_text" = some (some (.ref a_is_leaf_text)))
    (hl_is_leaf_text : K.lookup a_is_leaf_text = some ⟨oc_is_leaf_text, od_is_leaf_text, .func (PySem.W.fnOf "is_leaf_text" "is_leaf_text" (defArgs s_is_leaf_text) (defBody s_is_leaf_text) (defScope s_is_leaf_text) .none kV_is_leaf_text dc_is_leaf_text pm_is_leaf_text an_is_leaf_text cd_is_leaf_text ct_is_leaf_text), sl_is_leaf_text⟩)
    (hc_is_leaf_text : PySem.W.codeIn K cd_is_leaf_text "is_leaf_text" = true)
    (hk_is_leaf_text : PySem.W.keepIn K (.ref a_is_leaf_text) = true)
    (hm_is_name : PySem.W.nsIn K mainGlobals "is_name" = some (some (.ref a_is_name)))
    (hl_is_name : K.lookup a_is_name = some ⟨oc_is_name, od_is_name, .func (PySem.W.fnOf "is_name" "is_name" (defArgs s_is_name) (defBody s_is_name) (defScope s_is_name) .none kV_is_name dc_is_name pm_is_name an_is_name cd_is_name ct_is_name), sl_is_name⟩)
    (hc_is_name : PySem.W.codeIn K cd_is_name "is_name" = true)
    (hk_is_name : PySem.W.keepIn K (.ref a_is_name) = true)
    (hm_is_part : PySem.W.nsIn K mainGlobals "is_part" = some (some (.ref a_is_part)))
    (hl_is_part : K.lookup a_is_part = some ⟨oc_is_part, od_is_part, .func (PySem.W.fnOf "is_part" "is_part" (defArgs s_is_part) (defBody s_is_part) (defScope s_is_part) .none kV_is_part dc_is_part pm_is_part an_is_part cd_is_part ct_is_part), sl_is_part⟩)
    (hc_is_part : PySem.W.codeIn K cd_is_part "is_part" = true)
    (hk_is_part : PySem.W.keepIn K (.ref a_is_part) = true)
    (hm_is_stack_rule : PySem.W.nsIn K mainGlobals "is_stack_rule" = some (some (.ref a_is_stack_rule)))
    (hl_is_stack_rule : K.lookup a_is_stack_rule = some ⟨oc_is_stack_rule, od_is_stack_rule, .func (PySem.W.fnOf "is_stack_rule" "is_stack_rule" (defArgs s_is_stack_rule) (defBody s_is_stack_rule) (defScope s_is_stack_rule) .none kV_is_stack_rule dc_is_stack_rule pm_is_stack_rule an_is_stack_rule cd_is_stack_rule ct_is_stack_rule), sl_is_stack_rule⟩)
    (hc_is_stack_rule : PySem.W.codeIn K cd_is_stack_rule "is_stack_rule" = true)
    (hk_is_stack_rule : PySem.W.keepIn K (.ref a_is_stack_rule) = true)
    (hm_StackGrammar_init : PySem.W.findIn K (.ref c_StackGrammar) "__init__" = some (some (.ref a_StackGrammar_init)))
    (fn_StackGrammar_init : PySem.W.isFn K (.ref a_StackGrammar_init) = true)
    (hl_StackGrammar_init : K.lookup a_StackGrammar_init = some ⟨oc_StackGrammar_init, od_StackGrammar_init, .func (PySem.W.ksFn "__init__" "StackGrammar.__init__" (defArgs s_StackGrammar_init) (defBody s_StackGrammar_init) (defScope s_StackGrammar_init) .none kV_StackGrammar_init dc_StackGrammar_init pm_StackGrammar_init an_StackGrammar_init (.ref cda_StackGrammar_init) ct_StackGrammar_init cc_StackGrammar_init), sl_StackGrammar_init⟩)
    (hc_StackGrammar_init : PySem.W.codeIn K (.ref cda_StackGrammar_init) "StackGrammar.__init__" = true)
    (hk_StackGrammar_init : PySem.W.keepIn K (.ref a_StackGrammar_init) = true)
    (hcell_StackGrammar_init : K.lookup cc_StackGrammar_init = some ⟨lc_StackGrammar_init, ld_StackGrammar_init, .cell (some (.ref c_StackGrammar)), ls_StackGrammar_init⟩)
    (hcode_StackGrammar_init : K.lookup cda_StackGrammar_init = some ⟨mc_StackGrammar_init, md_StackGrammar_init, .fields mv_StackGrammar_init, ms_StackGrammar_init⟩)
    (hvs_StackGrammar_init : mv_StackGrammar_init[2]? = some (.str mf_StackGrammar_init mt_StackGrammar_init))
    (hfile_StackGrammar_init : ((P.main.file : Str) == mf_StackGrammar_init) = true)
    (hci_StackGrammar_init : PySem.W.clsIn K c_StackGrammar = some cd_StackGrammar_init)
    (hmr_StackGrammar_init : PySem.W.mroIn K c_StackGrammar (.ref c_StackGrammar) = some true)
    (hup_StackGrammar_init : PySem.W.ks_superIn K c_StackGrammar c_StackGrammar "__init__" = some (some (.ref a_Grammar_init_StackGrammar)))
    (htg_StackGrammar_init : PySem.W.typeIn K (.ref a_Grammar_init_StackGrammar) = some (.type "function"))
    (hfg_StackGrammar_init : PySem.W.fnIn K a_Grammar_init_StackGrammar = true)
    (hm_Grammar_init_StackGrammar : PySem.W.findIn K (.ref c_Grammar) "__init__" = some (some (.ref a_Grammar_init_StackGrammar)))
    (fn_Grammar_init_StackGrammar : PySem.W.isFn K (.ref a_Grammar_init_StackGrammar) = true)
    (hl_Grammar_init_StackGrammar : K.lookup a_Grammar_init_StackGrammar = some ⟨oc_Grammar_init_StackGrammar, od_Grammar_init_StackGrammar, .func (PySem.W.fnOf "__init__" "Grammar.__init__" (defArgs s_Grammar_init_StackGrammar) (defBody s_Grammar_init_StackGrammar) (defScope s_Grammar_init_StackGrammar) .none kV_Grammar_init_StackGrammar dc_Grammar_init_StackGrammar pm_Grammar_init_StackGrammar an_Grammar_init_StackGrammar cd_Grammar_init_StackGrammar ct_Grammar_init_StackGrammar), sl_Grammar_init_StackGrammar⟩)
    (hc_Grammar_init_StackGrammar : PySem.W.codeIn K cd_Grammar_init_StackGrammar "Grammar.__init__" = true)
    (hk_Grammar_init_StackGrammar : PySem.W.keepIn K (.ref a_Grammar_init_StackGrammar) = true)
    (hm__law_row : PySem.W.nsIn K mainGlobals "_law_row" = some (some (.ref a__law_row)))
    (hl__law_row : K.lookup a__law_row = some ⟨oc__law_row, od__law_row, .func (PySem.W.fnOf "_law_row" "_law_row" (defArgs s__law_row) (defBody s__law_row) (defScope s__law_row) .none kV__law_row dc__law_row pm__law_row an__law_row cd__law_row ct__law_row), sl__law_row⟩)
    (hc__law_row : PySem.W.codeIn K cd__law_row "_law_row" = true)
    (hk__law_row : PySem.W.keepIn K (.ref a__law_row) = true)
    (hm__law_text : PySem.W.nsIn K mainGlobals "_law_text" = some (some (.ref a__law_text)))
    (hl__law_text : K.lookup a__law_text = some ⟨oc__law_text, od__law_text, .func (PySem.W.fnOf "_law_text" "_law_text" (defArgs s__law_text) (defBody s__law_text) (defScope s__law_text) .none kV__law_text dc__law_text pm__law_text an__law_text cd__law_text ct__law_text), sl__law_text⟩)
    (hc__law_text : PySem.W.codeIn K cd__law_text "_law_text" = true)
    (hk__law_text : PySem.W.keepIn K (.ref a__law_text) = true)
    (hm__law_rule : PySem.W.nsIn K mainGlobals "_law_rule" = some (some (.ref a__law_rule)))
    (hl__law_rule : K.lookup a__law_rule = some ⟨oc__law_rule, od__law_rule, .func (PySem.W.fnOf "_law_rule" "_law_rule" (defArgs s__law_rule) (defBody s__law_rule) (defScope s__law_rule) .none kV__law_rule dc__law_rule pm__law_rule an__law_rule cd__law_rule ct__law_rule), sl__law_rule⟩)
    (hc__law_rule : PySem.W.codeIn K cd__law_rule "_law_rule" = true)
    (hk__law_rule : PySem.W.keepIn K (.ref a__law_rule) = true)
    (hm__law_rules : PySem.W.nsIn K mainGlobals "_law_rules" = some (some (.ref a__law_rules)))
    (hl__law_rules : K.lookup a__law_rules = some ⟨oc__law_rules, od__law_rules, .func (PySem.W.fnOf "_law_rules" "_law_rules" (defArgs s__law_rules) (defBody s__law_rules) (defScope s__law_rules) .none kV__law_rules dc__law_rules pm__law_rules an__law_rules cd__law_rules ct__law_rules), sl__law_rules⟩)
    (hc__law_rules : PySem.W.codeIn K cd__law_rules "_law_rules" = true)
    (hk__law_rules : PySem.W.keepIn K (.ref a__law_rules) = true)
    (hm__law_same : PySem.W.nsIn K mainGlobals "_law_same" = some (some (.ref a__law_same)))
    (hl__law_same : K.lookup a__law_same = some ⟨oc__law_same, od__law_same, .func (PySem.W.fnOf "_law_same" "_law_same" (defArgs s__law_same) (defBody s__law_same) (defScope s__law_same) .none kV__law_same dc__law_same pm__law_same an__law_same cd__law_same ct__law_same), sl__law_same⟩)
    (hc__law_same : PySem.W.codeIn K cd__law_same "_law_same" = true)
    (hk__law_same : PySem.W.keepIn K (.ref a__law_same) = true)
    (hm__law_good_rule : PySem.W.nsIn K mainGlobals "_law_good_rule" = some (some (.ref a__law_good_rule)))
    (hl__law_good_rule : K.lookup a__law_good_rule = some ⟨oc__law_good_rule, od__law_good_rule, .func (PySem.W.fnOf "_law_good_rule" "_law_good_rule" (defArgs s__law_good_rule) (defBody s__law_good_rule) (defScope s__law_good_rule) .none kV__law_good_rule dc__law_good_rule pm__law_good_rule an__law_good_rule cd__law_good_rule ct__law_good_rule), sl__law_good_rule⟩)
    (hc__law_good_rule : PySem.W.codeIn K cd__law_good_rule "_law_good_rule" = true)
    (hk__law_good_rule : PySem.W.keepIn K (.ref a__law_good_rule) = true)
    (hm__law_due_answer : PySem.W.nsIn K mainGlobals "_law_due_answer" = some (some (.ref a__law_due_answer)))
    (hl__law_due_answer : K.lookup a__law_due_answer = some ⟨oc__law_due_answer, od__law_due_answer, .func (PySem.W.fnOf "_law_due_answer" "_law_due_answer" (defArgs s__law_due_answer) (defBody s__law_due_answer) (defScope s__law_due_answer) .none kV__law_due_answer dc__law_due_answer pm__law_due_answer an__law_due_answer cd__law_due_answer ct__law_due_answer), sl__law_due_answer⟩)
    (hc__law_due_answer : PySem.W.codeIn K cd__law_due_answer "_law_due_answer" = true)
    (hk__law_due_answer : PySem.W.keepIn K (.ref a__law_due_answer) = true)
    (hm__law_told : PySem.W.nsIn K mainGlobals "_law_told" = some (some (.ref a__law_told)))
    (hl__law_told : K.lookup a__law_told = some ⟨oc__law_told, od__law_told, .func (PySem.W.fnOf "_law_told" "_law_told" (defArgs s__law_told) (defBody s__law_told) (defScope s__law_told) .none kV__law_told dc__law_told pm__law_told an__law_told cd__law_told ct__law_told), sl__law_told⟩)
    (hc__law_told : PySem.W.codeIn K cd__law_told "_law_told" = true)
    (hk__law_told : PySem.W.keepIn K (.ref a__law_told) = true)
    (hm__law_odd_parts : PySem.W.nsIn K mainGlobals "_law_odd_parts" = some (some (.ref a__law_odd_parts)))
    (hl__law_odd_parts : K.lookup a__law_odd_parts = some ⟨oc__law_odd_parts, od__law_odd_parts, .func (PySem.W.fnOf "_law_odd_parts" "_law_odd_parts" (defArgs s__law_odd_parts) (defBody s__law_odd_parts) (defScope s__law_odd_parts) .none kV__law_odd_parts dc__law_odd_parts pm__law_odd_parts an__law_odd_parts cd__law_odd_parts ct__law_odd_parts), sl__law_odd_parts⟩)
    (hc__law_odd_parts : PySem.W.codeIn K cd__law_odd_parts "_law_odd_parts" = true)
    (hk__law_odd_parts : PySem.W.keepIn K (.ref a__law_odd_parts) = true)
    (hm__law_bent : PySem.W.nsIn K mainGlobals "_law_bent" = some (some (.ref a__law_bent)))
    (hl__law_bent : K.lookup a__law_bent = some ⟨oc__law_bent, od__law_bent, .func (PySem.W.fnOf "_law_bent" "_law_bent" (defArgs s__law_bent) (defBody s__law_bent) (defScope s__law_bent) .none kV__law_bent dc__law_bent pm__law_bent an__law_bent cd__law_bent ct__law_bent), sl__law_bent⟩)
    (hc__law_bent : PySem.W.codeIn K cd__law_bent "_law_bent" = true)
    (hk__law_bent : PySem.W.keepIn K (.ref a__law_bent) = true)
    (hm__law_edges : PySem.W.nsIn K mainGlobals "_law_edges" = some (some (.ref a__law_edges)))
    (hl__law_edges : K.lookup a__law_edges = some ⟨oc__law_edges, od__law_edges, .func (PySem.W.fnOf "_law_edges" "_law_edges" (defArgs s__law_edges) (defBody s__law_edges) (defScope s__law_edges) .none kV__law_edges dc__law_edges pm__law_edges an__law_edges cd__law_edges ct__law_edges), sl__law_edges⟩)
    (hc__law_edges : PySem.W.codeIn K cd__law_edges "_law_edges" = true)
    (hk__law_edges : PySem.W.keepIn K (.ref a__law_edges) = true)
    (hm__law_limits : PySem.W.nsIn K mainGlobals "_law_limits" = some (some (.ref a__law_limits)))
    (hl__law_limits : K.lookup a__law_limits = some ⟨oc__law_limits, od__law_limits, .func (PySem.W.fnOf "_law_limits" "_law_limits" (defArgs s__law_limits) (defBody s__law_limits) (defScope s__law_limits) .none kV__law_limits dc__law_limits pm__law_limits an__law_limits cd__law_limits ct__law_limits), sl__law_limits⟩)
    (hc__law_limits : PySem.W.codeIn K cd__law_limits "_law_limits" = true)
    (hk__law_limits : PySem.W.keepIn K (.ref a__law_limits) = true)
    (hm_law : PySem.W.nsIn K mainGlobals "law" = some (some (.ref a_law)))
    (hl_law : K.lookup a_law = some ⟨oc_law, od_law, .func (PySem.W.fnOf "law" "law" (defArgs s_law) (defBody s_law) (defScope s_law) .none kV_law dc_law pm_law an_law cd_law ct_law), sl_law⟩)
    (hc_law : PySem.W.codeIn K cd_law "law" = true)
    (hk_law : PySem.W.keepIn K (.ref a_law) = true)
    (hm_Fault : PySem.W.nsIn K mainGlobals "Fault" = some (some (.ref c_Fault)))
    (hm_TooMany : PySem.W.nsIn K mainGlobals "TooMany" = some (some (.ref c_TooMany)))
    (hm_BadRule : PySem.W.nsIn K mainGlobals "BadRule" = some (some (.ref c_BadRule)))
    (hm_BadLine : PySem.W.nsIn K mainGlobals "BadLine" = some (some (.ref c_BadLine)))
    (h_any : PySem.W.nsIn K cStatics "thirdparty.any" = some none)
    (h_sup : PySem.W.nsIn K mainGlobals "super" = some none)
    (h_top : (P.main.scope.names.lookup ("super" : Str)).isSome = false)
    (xl_BadRule : K.lookup c_BadRule = some (excClassObj nm_BadRule q_BadRule c_BadRule N_BadRule bs_BadRule [.ref c_Fault, .type "ValueError", .type "Exception", .type "BaseException", .type "object"] true sn_BadRule sb_BadRule ab_BadRule co_BadRule dd_BadRule k0_BadRule k1_BadRule k2_BadRule k3_BadRule k5_BadRule "ValueError.__new__"))
    (sa_BadRule : PySem.W.findIn K (.ref c_BadRule) "__setattr__" = some (some (.builtin "object.__setattr__")))
    (nf_BadRule : PySem.W.findIn K (.ref c_BadRule) "place" = some none)
    (ic_BadRule : PySem.W.findIn K (.ref c_BadRule) "__init__" = some (some (.ref i_BadRule)))
    (ti_BadRule : PySem.W.typeIn K (.ref i_BadRule) = some (.type "function"))
    (kc_BadRule : PySem.W.keepIn K (.ref c_BadRule) = true)
    (xc_BadRule : PySem.W.subIn K (.ref c_BadRule) (.type "BaseException") = some true)
    (ve_BadRule : PySem.W.subIn K (.ref c_BadRule) (.type "ValueError") = some true)
    (ty_BadRule : PySem.W.typeIn K (.ref c_BadRule) = some (.type "type"))
    (up_BadRule : PySem.W.ks_superIn K c_BadRule c_BadRule "__init__" = some (some (.builtin "ValueError.__init__")))
    (mr_BadRule : PySem.W.mroIn K c_BadRule (.ref c_BadRule) = some true)
    (hf_BadRule : K.lookup i_BadRule = some ⟨ioc_BadRule, iod_BadRule, .func (PySem.W.ksFn "__init__" iq_BadRule (PySem.PDX.iA "place" p0_BadRule p1_BadRule) (PySem.PDX.iB "invalid rule" "place" ij_BadRule p2_BadRule p3_BadRule p4_BadRule p5_BadRule p6_BadRule p7_BadRule p8_BadRule p9_BadRule p10_BadRule p11_BadRule) (PySem.PDX.iS "place") .none .none idc_BadRule ipm_BadRule ian_BadRule (.ref ida_BadRule) ict_BadRule icc_BadRule), isl_BadRule⟩)
    (hq_BadRule : PySem.W.codeIn K (.ref ida_BadRule) iq_BadRule = true)
    (hcell_BadRule : K.lookup icc_BadRule = some ⟨lc_BadRule, ld_BadRule, .cell (some (.ref c_BadRule)), ls_BadRule⟩)
    (hcode_BadRule : K.lookup ida_BadRule = some ⟨mc_BadRule, md_BadRule, .fields mv_BadRule, ms_BadRule⟩)
    (hvs_BadRule : mv_BadRule[2]? = some (.str mf_BadRule mt_BadRule))
    (hfile_BadRule : ((P.main.file : Str) == mf_BadRule) = true)
    (hev_BadRule : ∀ env, ∃ pl, eval (.Call (.Attribute (.Call (.Name "super" p2_BadRule) [] [] p3_BadRule) "__init__" p4_BadRule) [.Constant (.str "invalid rule") ij_BadRule p5_BadRule] [] p6_BadRule) env = (do
      let ov ← attributeBase (.Call (.Name "super" p2_BadRule) [] [] p3_BadRule) "__init__" env (eval (.Call (.Name "super" p2_BadRule) [] [] p3_BadRule) env)
      standAt p4_BadRule.atName
      let (f, first) ← holding [ov] (getMethod ov "__init__" pl)
      callWith p6_BadRule f first (backTo p6_BadRule (starEach [.Constant (.str "invalid rule") ij_BadRule p5_BadRule] env)) []))
    (xl_TooMany : K.lookup c_TooMany = some (excClassObj nm_TooMany q_TooMany c_TooMany N_TooMany bs_TooMany [.ref c_Fault, .type "ValueError", .type "Exception", .type "BaseException", .type "object"] true sn_TooMany sb_TooMany ab_TooMany co_TooMany dd_TooMany k0_TooMany k1_TooMany k2_TooMany k3_TooMany k5_TooMany "ValueError.__new__"))
    (sa_TooMany : PySem.W.findIn K (.ref c_TooMany) "__setattr__" = some (some (.builtin "object.__setattr__")))
    (nf_TooMany : PySem.W.findIn K (.ref c_TooMany) "limit" = some none)
    (ic_TooMany : PySem.W.findIn K (.ref c_TooMany) "__init__" = some (some (.ref i_TooMany)))
    (ti_TooMany : PySem.W.typeIn K (.ref i_TooMany) = some (.type "function"))
    (kc_TooMany : PySem.W.keepIn K (.ref c_TooMany) = true)
    (xc_TooMany : PySem.W.subIn K (.ref c_TooMany) (.type "BaseException") = some true)
    (ve_TooMany : PySem.W.subIn K (.ref c_TooMany) (.type "ValueError") = some true)
    (ty_TooMany : PySem.W.typeIn K (.ref c_TooMany) = some (.type "type"))
    (up_TooMany : PySem.W.ks_superIn K c_TooMany c_TooMany "__init__" = some (some (.builtin "ValueError.__init__")))
    (mr_TooMany : PySem.W.mroIn K c_TooMany (.ref c_TooMany) = some true)
    (hf_TooMany : K.lookup i_TooMany = some ⟨ioc_TooMany, iod_TooMany, .func (PySem.W.ksFn "__init__" iq_TooMany (PySem.PDX.iA "limit" p0_TooMany p1_TooMany) (PySem.PDX.iB "limit exceeded" "limit" ij_TooMany p2_TooMany p3_TooMany p4_TooMany p5_TooMany p6_TooMany p7_TooMany p8_TooMany p9_TooMany p10_TooMany p11_TooMany) (PySem.PDX.iS "limit") .none .none idc_TooMany ipm_TooMany ian_TooMany (.ref ida_TooMany) ict_TooMany icc_TooMany), isl_TooMany⟩)
    (hq_TooMany : PySem.W.codeIn K (.ref ida_TooMany) iq_TooMany = true)
    (hcell_TooMany : K.lookup icc_TooMany = some ⟨lc_TooMany, ld_TooMany, .cell (some (.ref c_TooMany)), ls_TooMany⟩)
    (hcode_TooMany : K.lookup ida_TooMany = some ⟨mc_TooMany, md_TooMany, .fields mv_TooMany, ms_TooMany⟩)
    (hvs_TooMany : mv_TooMany[2]? = some (.str mf_TooMany mt_TooMany))
    (hfile_TooMany : ((P.main.file : Str) == mf_TooMany) = true)
    (hev_TooMany : ∀ env, ∃ pl, eval (.Call (.Attribute (.Call (.Name "super" p2_TooMany) [] [] p3_TooMany) "__init__" p4_TooMany) [.Constant (.str "limit exceeded") ij_TooMany p5_TooMany] [] p6_TooMany) env = (do
      let ov ← attributeBase (.Call (.Name "super" p2_TooMany) [] [] p3_TooMany) "__init__" env (eval (.Call (.Name "super" p2_TooMany) [] [] p3_TooMany) env)
      standAt p4_TooMany.atName
      let (f, first) ← holding [ov] (getMethod ov "__init__" pl)
      callWith p6_TooMany f first (backTo p6_TooMany (starEach [.Constant (.str "limit exceeded") ij_TooMany p5_TooMany] env)) []))
    (te_Fault : PySem.W.subIn K (.ref c_Fault) (.type "BaseException") = some true)
    (td_Fault : PySem.W.hasDictIn K c_Fault = true)
    (tt_Fault : PySem.W.typeIn K (.ref c_Fault) = some (.type "type"))
    (ts_Fault_BadRule : PySem.W.subIn K (.ref c_BadRule) (.ref c_Fault) = some true)
    (ts_Fault_TooMany : PySem.W.subIn K (.ref c_TooMany) (.ref c_Fault) = some true)
    (ki_BadLine_BadRule : PySem.W.kitOne K (.ref c_BadRule) (.ref c_BadLine) = some false)
    (ki_BadLine_TooMany : PySem.W.kitOne K (.ref c_TooMany) (.ref c_BadLine) = some false)
    (ki_BadRule_BadRule : PySem.W.kitOne K (.ref c_BadRule) (.ref c_BadRule) = some true)
    (ki_BadRule_TooMany : PySem.W.kitOne K (.ref c_TooMany) (.ref c_BadRule) = some false)
    (ki_TooMany_BadRule : PySem.W.kitOne K (.ref c_BadRule) (.ref c_TooMany) = some false)
    (ki_TooMany_TooMany : PySem.W.kitOne K (.ref c_TooMany) (.ref c_TooMany) = some true)
    (ki_ValueError_BadRule : PySem.W.kitOne K (.ref c_BadRule) (.type "ValueError") = some true)
    (ki_ValueError_TooMany : PySem.W.kitOne K (.ref c_TooMany) (.type "ValueError") = some true)
    (ya_StackGrammar : PySem.W.findIn K (.ref c_StackGrammar) "__class__" = some (some (.builtin "object.__class__")))
    (yo_StackGrammar : PySem.W.mroIn K c_StackGrammar (.type "object") = some true)
    (yk_Grammar_StackGrammar : PySem.W.kitOne K (.ref c_StackGrammar) (.ref c_Grammar) = some true)
    (cr_StackGrammar : PySem.W.readsIn K c_StackGrammar (.type "type") = true)
    (cg_StackGrammar : PySem.W.specialIn K (.ref c_StackGrammar) "__getattribute__" = some (some (.builtin "type.__getattribute__")))
    (cv_StackGrammar_KIND : PySem.W.findCls K (.ref c_StackGrammar) (.type "type") "KIND" = some (.val (.str "stacks" ut_StackGrammar_KIND)))
    (cc_StackGrammar_KIND : PySem.W.findIn K (.ref c_StackGrammar) "KIND" = some (some (.str "stacks" ut_StackGrammar_KIND)))
    (cs_StackGrammar_KIND : PySem.W.specialIn K (.str "stacks" ut_StackGrammar_KIND) "__get__" = some none)
    (xg_BadRule : PySem.W.findIn K (.ref c_BadRule) "__getattribute__" = some (some (.builtin "BaseException.__getattribute__")))
    (xk_BadRule : PySem.W.findIn K (.ref c_BadRule) "__getattr__" = some none)
    (xd_BadRule : PySem.W.hasDictIn K c_BadRule = true)
    (xa_BadRule : PySem.W.findIn K (.ref c_BadRule) "__class__" = some (some (.builtin "object.__class__")))
    (xo_BadRule : PySem.W.mroIn K c_BadRule (.type "object") = some true)
    (xg_TooMany : PySem.W.findIn K (.ref c_TooMany) "__getattribute__" = some (some (.builtin "BaseException.__getattribute__")))
    (xk_TooMany : PySem.W.findIn K (.ref c_TooMany) "__getattr__" = some none)
    (xd_TooMany : PySem.W.hasDictIn K c_TooMany = true)
    (xa_TooMany : PySem.W.findIn K (.ref c_TooMany) "__class__" = some (some (.builtin "object.__class__")))
    (xo_TooMany : PySem.W.mroIn K c_TooMany (.type "object") = some true)
    (h_get : PySem.W.specialIn K (.builtin "object.__class__") "__get__" = some (some (.builtin "getset_descriptor.__get__")))
    (h_tak : PySem.W.takesIn K (.builtin "object.__class__") = some true) :
    ∃ fd : FuncData, (∀ (s : Shared) (u : Value), BindsTo s fd ⟨[u], []⟩ [("script", u)]) ∧ ∀ base : Heap, K.In base → base.Ns mainGlobals mg → FnOk P w K mg base (L2.CX P w) 9 fa fd ["script"] (spD K 1 den_law) := by
  have e : a_law = fa := Value.ref.inj (Option.some.inj ((PySem.W.mg_of X G hm_law).symm.trans hfa))
  subst e
  have F_bad_letter : FunD K "bad_letter" "bad_letter" (defArgs s_bad_letter) (defBody s_bad_letter) (defScope s_bad_letter) [] [] a_bad_letter _ := ⟨⟨_, _, _, _, _, _, _, _, _, _, rfl, hl_bad_letter, hc_bad_letter, dfl_none, .inl rfl⟩, hk_bad_letter⟩
  have F_is_leaf_text : FunD K "is_leaf_text" "is_leaf_text" (defArgs s_is_leaf_text) (defBody s_is_leaf_text) (defScope s_is_leaf_text) [] [] a_is_leaf_text _ := ⟨⟨_, _, _, _, _, _, _, _, _, _, rfl, hl_is_leaf_text, hc_is_leaf_text, dfl_none, .inl rfl⟩, hk_is_leaf_text⟩
  have F_is_name : FunD K "is_name" "is_name" (defArgs s_is_name) (defBody s_is_name) (defScope s_is_name) [] [] a_is_name _ := ⟨⟨_, _, _, _, _, _, _, _, _, _, rfl, hl_is_name, hc_is_name, dfl_none, .inl rfl⟩, hk_is_name⟩
  have F_is_part : FunD K "is_part" "is_part" (defArgs s_is_part) (defBody s_is_part) (defScope s_is_part) [] [] a_is_part _ := ⟨⟨_, _, _, _, _, _, _, _, _, _, rfl, hl_is_part, hc_is_part, dfl_none, .inl rfl⟩, hk_is_part⟩
  have F_is_stack_rule : FunD K "is_stack_rule" "is_stack_rule" (defArgs s_is_stack_rule) (defBody s_is_stack_rule) (defScope s_is_stack_rule) [] [] a_is_stack_rule _ := ⟨⟨_, _, _, _, _, _, _, _, _, _, rfl, hl_is_stack_rule, hc_is_stack_rule, dfl_none, .inl rfl⟩, hk_is_stack_rule⟩
  have F_StackGrammar_init : SupD P K mg "StackGrammar.__init__" (defArgs s_StackGrammar_init) (defBody s_StackGrammar_init) (defScope s_StackGrammar_init) c_StackGrammar a_Grammar_init_StackGrammar a_StackGrammar_init _ := ⟨⟨_, _, _, _, _, _, _, _, _, _, rfl, hl_StackGrammar_init, hc_StackGrammar_init, { code := ⟨_, _, _, _, _, _, hcode_StackGrammar_init, hvs_StackGrammar_init, hfile_StackGrammar_init⟩, cell := ⟨_, _, _, hcell_StackGrammar_init⟩, cls := ⟨_, hci_StackGrammar_init⟩, sub := hmr_StackGrammar_init, any := h_any, up := hup_StackGrammar_init, tg := htg_StackGrammar_init, fg := hfg_StackGrammar_init, sup := PySem.W.mg_none_of X G h_sup, top := h_top }⟩⟩
  have F_Grammar_init_StackGrammar : FunD K "__init__" "Grammar.__init__" (defArgs s_Grammar_init_StackGrammar) (defBody s_Grammar_init_StackGrammar) (defScope s_Grammar_init_StackGrammar) [] [] a_Grammar_init_StackGrammar _ := ⟨⟨_, _, _, _, _, _, _, _, _, _, rfl, hl_Grammar_init_StackGrammar, hc_Grammar_init_StackGrammar, dfl_none, .inl rfl⟩, hk_Grammar_init_StackGrammar⟩
  have F__law_row : FunD K "_law_row" "_law_row" (defArgs s__law_row) (defBody s__law_row) (defScope s__law_row) [] [] a__law_row _ := ⟨⟨_, _, _, _, _, _, _, _, _, _, rfl, hl__law_row, hc__law_row, dfl_none, .inl rfl⟩, hk__law_row⟩
  have F__law_text : FunD K "_law_text" "_law_text" (defArgs s__law_text) (defBody s__law_text) (defScope s__law_text) [] [] a__law_text _ := ⟨⟨_, _, _, _, _, _, _, _, _, _, rfl, hl__law_text, hc__law_text, dfl_none, .inl rfl⟩, hk__law_text⟩
  have F__law_rule : FunD K "_law_rule" "_law_rule" (defArgs s__law_rule) (defBody s__law_rule) (defScope s__law_rule) [] [] a__law_rule _ := ⟨⟨_, _, _, _, _, _, _, _, _, _, rfl, hl__law_rule, hc__law_rule, dfl_none, .inl rfl⟩, hk__law_rule⟩
  have F__law_rules : FunD K "_law_rules" "_law_rules" (defArgs s__law_rules) (defBody s__law_rules) (defScope s__law_rules) [] [] a__law_rules _ := ⟨⟨_, _, _, _, _, _, _, _, _, _, rfl, hl__law_rules, hc__law_rules, dfl_none, .inl rfl⟩, hk__law_rules⟩
  have F__law_same : FunD K "_law_same" "_law_same" (defArgs s__law_same) (defBody s__law_same) (defScope s__law_same) [] [] a__law_same _ := ⟨⟨_, _, _, _, _, _, _, _, _, _, rfl, hl__law_same, hc__law_same, dfl_none, .inl rfl⟩, hk__law_same⟩
  have F__law_good_rule : FunD K "_law_good_rule" "_law_good_rule" (defArgs s__law_good_rule) (defBody s__law_good_rule) (defScope s__law_good_rule) [] [] a__law_good_rule _ := ⟨⟨_, _, _, _, _, _, _, _, _, _, rfl, hl__law_good_rule, hc__law_good_rule, dfl_none, .inl rfl⟩, hk__law_good_rule⟩
  have F__law_due_answer : FunD K "_law_due_answer" "_law_due_answer" (defArgs s__law_due_answer) (defBody s__law_due_answer) (defScope s__law_due_answer) [] [] a__law_due_answer _ := ⟨⟨_, _, _, _, _, _, _, _, _, _, rfl, hl__law_due_answer, hc__law_due_answer, dfl_none, .inl rfl⟩, hk__law_due_answer⟩
  have F__law_told : FunD K "_law_told" "_law_told" (defArgs s__law_told) (defBody s__law_told) (defScope s__law_told) [] [] a__law_told _ := ⟨⟨_, _, _, _, _, _, _, _, _, _, rfl, hl__law_told, hc__law_told, dfl_none, .inl rfl⟩, hk__law_told⟩
  have F__law_odd_parts : FunD K "_law_odd_parts" "_law_odd_parts" (defArgs s__law_odd_parts) (defBody s__law_odd_parts) (defScope s__law_odd_parts) [] [] a__law_odd_parts _ := ⟨⟨_, _, _, _, _, _, _, _, _, _, rfl, hl__law_odd_parts, hc__law_odd_parts, dfl_none, .inl rfl⟩, hk__law_odd_parts⟩
  have F__law_bent : FunD K "_law_bent" "_law_bent" (defArgs s__law_bent) (defBody s__law_bent) (defScope s__law_bent) [] [] a__law_bent _ := ⟨⟨_, _, _, _, _, _, _, _, _, _, rfl, hl__law_bent, hc__law_bent, dfl_none, .inl rfl⟩, hk__law_bent⟩
  have F__law_edges : FunD K "_law_edges" "_law_edges" (defArgs s__law_edges) (defBody s__law_edges) (defScope s__law_edges) [] [] a__law_edges _ := ⟨⟨_, _, _, _, _, _, _, _, _, _, rfl, hl__law_edges, hc__law_edges, dfl_none, .inl rfl⟩, hk__law_edges⟩
  have F__law_limits : FunD K "_law_limits" "_law_limits" (defArgs s__law_limits) (defBody s__law_limits) (defScope s__law_limits) [] [] a__law_limits _ := ⟨⟨_, _, _, _, _, _, _, _, _, _, rfl, hl__law_limits, hc__law_limits, dfl_none, .inl rfl⟩, hk__law_limits⟩
  have F_law : FunD K "law" "law" (defArgs s_law) (defBody s_law) (defScope s_law) [] [] a_law _ := ⟨⟨_, _, _, _, _, _, _, _, _, _, rfl, hl_law, hc_law, dfl_none, .inl rfl⟩, hk_law⟩
  have xx_BadRule : ExcC K c_BadRule := ⟨xg_BadRule, xk_BadRule, xc_BadRule, xd_BadRule, xa_BadRule, h_get, h_tak, xo_BadRule⟩
  have xf_BadRule : XfC K c_BadRule := ⟨xg_BadRule, xk_BadRule, xc_BadRule, xd_BadRule⟩
  have xx_TooMany : ExcC K c_TooMany := ⟨xg_TooMany, xk_TooMany, xc_TooMany, xd_TooMany, xa_TooMany, h_get, h_tak, xo_TooMany⟩
  have xf_TooMany : XfC K c_TooMany := ⟨xg_TooMany, xk_TooMany, xc_TooMany, xd_TooMany⟩
  let ad : Ad := {
    a_bad_letter := a_bad_letter
    d_bad_letter := PySem.W.fnOf "bad_letter" "bad_letter" (defArgs s_bad_letter) (defBody s_bad_letter) (defScope s_bad_letter) .none kV_bad_letter dc_bad_letter pm_bad_letter an_bad_letter cd_bad_letter ct_bad_letter
    a_is_leaf_text := a_is_leaf_text
    d_is_leaf_text := PySem.W.fnOf "is_leaf_text" "is_leaf_text" (defArgs s_is_leaf_text) (defBody s_is_leaf_text) (defScope s_is_leaf_text) .none kV_is_leaf_text dc_is_leaf_text pm_is_leaf_text an_is_leaf_text cd_is_leaf_text ct_is_leaf_text
    a_is_name := a_is_name
    d_is_name := PySem.W.fnOf "is_name" "is_name" (defArgs s_is_name) (defBody s_is_name) (defScope s_is_name) .none kV_is_name dc_is_name pm_is_name an_is_name cd_is_name ct_is_name
    a_is_part := a_is_part
    d_is_part := PySem.W.fnOf "is_part" "is_part" (defArgs s_is_part) (defBody s_is_part) (defScope s_is_part) .none kV_is_part dc_is_part pm_is_part an_is_part cd_is_part ct_is_part
    a_is_stack_rule := a_is_stack_rule
    d_is_stack_rule := PySem.W.fnOf "is_stack_rule" "is_stack_rule" (defArgs s_is_stack_rule) (defBody s_is_stack_rule) (defScope s_is_stack_rule) .none kV_is_stack_rule dc_is_stack_rule pm_is_stack_rule an_is_stack_rule cd_is_stack_rule ct_is_stack_rule
    a_StackGrammar_init := a_StackGrammar_init
    d_StackGrammar_init := PySem.W.ksFn "__init__" "StackGrammar.__init__" (defArgs s_StackGrammar_init) (defBody s_StackGrammar_init) (defScope s_StackGrammar_init) .none kV_StackGrammar_init dc_StackGrammar_init pm_StackGrammar_init an_StackGrammar_init (.ref cda_StackGrammar_init) ct_StackGrammar_init cc_StackGrammar_init
    a_Grammar_init_StackGrammar := a_Grammar_init_StackGrammar
    d_Grammar_init_StackGrammar := PySem.W.fnOf "__init__" "Grammar.__init__" (defArgs s_Grammar_init_StackGrammar) (defBody s_Grammar_init_StackGrammar) (defScope s_Grammar_init_StackGrammar) .none kV_Grammar_init_StackGrammar dc_Grammar_init_StackGrammar pm_Grammar_init_StackGrammar an_Grammar_init_StackGrammar cd_Grammar_init_StackGrammar ct_Grammar_init_StackGrammar
    a__law_row := a__law_row
    d__law_row := PySem.W.fnOf "_law_row" "_law_row" (defArgs s__law_row) (defBody s__law_row) (defScope s__law_row) .none kV__law_row dc__law_row pm__law_row an__law_row cd__law_row ct__law_row
    a__law_text := a__law_text
    d__law_text := PySem.W.fnOf "_law_text" "_law_text" (defArgs s__law_text) (defBody s__law_text) (defScope s__law_text) .none kV__law_text dc__law_text pm__law_text an__law_text cd__law_text ct__law_text
    a__law_rule := a__law_rule
    d__law_rule := PySem.W.fnOf "_law_rule" "_law_rule" (defArgs s__law_rule) (defBody s__law_rule) (defScope s__law_rule) .none kV__law_rule dc__law_rule pm__law_rule an__law_rule cd__law_rule ct__law_rule
    a__law_rules := a__law_rules
    d__law_rules := PySem.W.fnOf "_law_rules" "_law_rules" (defArgs s__law_rules) (defBody s__law_rules) (defScope s__law_rules) .none kV__law_rules dc__law_rules pm__law_rules an__law_rules cd__law_rules ct__law_rules
    a__law_same := a__law_same
    d__law_same := PySem.W.fnOf "_law_same" "_law_same" (defArgs s__law_same) (defBody s__law_same) (defScope s__law_same) .none kV__law_same dc__law_same pm__law_same an__law_same cd__law_same ct__law_same
    a__law_good_rule := a__law_good_rule
    d__law_good_rule := PySem.W.fnOf "_law_good_rule" "_law_good_rule" (defArgs s__law_good_rule) (defBody s__law_good_rule) (defScope s__law_good_rule) .none kV__law_good_rule dc__law_good_rule pm__law_good_rule an__law_good_rule cd__law_good_rule ct__law_good_rule
    a__law_due_answer := a__law_due_answer
    d__law_due_answer := PySem.W.fnOf "_law_due_answer" "_law_due_answer" (defArgs s__law_due_answer) (defBody s__law_due_answer) (defScope s__law_due_answer) .none kV__law_due_answer dc__law_due_answer pm__law_due_answer an__law_due_answer cd__law_due_answer ct__law_due_answer
    a__law_told := a__law_told
    d__law_told := PySem.W.fnOf "_law_told" "_law_told" (defArgs s__law_told) (defBody s__law_told) (defScope s__law_told) .none kV__law_told dc__law_told pm__law_told an__law_told cd__law_told ct__law_told
    a__law_odd_parts := a__law_odd_parts
    d__law_odd_parts := PySem.W.fnOf "_law_odd_parts" "_law_odd_parts" (defArgs s__law_odd_parts) (defBody s__law_odd_parts) (defScope s__law_odd_parts) .none kV__law_odd_parts dc__law_odd_parts pm__law_odd_parts an__law_odd_parts cd__law_odd_parts ct__law_odd_parts
    a__law_bent := a__law_bent
    d__law_bent := PySem.W.fnOf "_law_bent" "_law_bent" (defArgs s__law_bent) (defBody s__law_bent) (defScope s__law_bent) .none kV__law_bent dc__law_bent pm__law_bent an__law_bent cd__law_bent ct__law_bent
    a__law_edges := a__law_edges
    d__law_edges := PySem.W.fnOf "_law_edges" "_law_edges" (defArgs s__law_edges) (defBody s__law_edges) (defScope s__law_edges) .none kV__law_edges dc__law_edges pm__law_edges an__law_edges cd__law_edges ct__law_edges
    a__law_limits := a__law_limits
    d__law_limits := PySem.W.fnOf "_law_limits" "_law_limits" (defArgs s__law_limits) (defBody s__law_limits) (defScope s__law_limits) .none kV__law_limits dc__law_limits pm__law_limits an__law_limits cd__law_limits ct__law_limits
    a_law := a_law
    d_law := PySem.W.fnOf "law" "law" (defArgs s_law) (defBody s_law) (defScope s_law) .none kV_law dc_law pm_law an_law cd_law ct_law
    c_Fault := c_Fault
    c_TooMany := c_TooMany
    c_BadRule := c_BadRule
    c_BadLine := c_BadLine
    c_Grammar := c_Grammar
    c_StackGrammar := c_StackGrammar
    u_StackGrammar_KIND := (.str "stacks" ut_StackGrammar_KIND)
    i_BadRule := i_BadRule
    i_TooMany := i_TooMany }
  have T : Tx P w K mg ad := {
    z_ValueError := PySem.W.mg_none_of X G hz_ValueError
    z_all := PySem.W.mg_none_of X G hz_all
    z_bool := PySem.W.mg_none_of X G hz_bool
    z_enumerate := PySem.W.mg_none_of X G hz_enumerate
    z_int := PySem.W.mg_none_of X G hz_int
    z_isinstance := PySem.W.mg_none_of X G hz_isinstance
    z_len := PySem.W.mg_none_of X G hz_len
    z_list := PySem.W.mg_none_of X G hz_list
    z_max := PySem.W.mg_none_of X G hz_max
    z_min := PySem.W.mg_none_of X G hz_min
    z_range := PySem.W.mg_none_of X G hz_range
    z_str := PySem.W.mg_none_of X G hz_str
    z_tuple := PySem.W.mg_none_of X G hz_tuple
    z_zip := PySem.W.mg_none_of X G hz_zip
    g_LETTERS := ⟨⟨_, PySem.W.mg_of X G hg_LETTERS, ⟨_, rfl⟩⟩⟩
    g_MOST_LEAF := ⟨⟨_, PySem.W.mg_of X G hg_MOST_LEAF, ⟨_, rfl⟩⟩⟩
    g_MOST_NAMES := ⟨⟨_, PySem.W.mg_of X G hg_MOST_NAMES, ⟨_, rfl⟩⟩⟩
    g_MOST_RULES := ⟨⟨_, PySem.W.mg_of X G hg_MOST_RULES, ⟨_, rfl⟩⟩⟩
    g_PARTS := gd_of (PySem.W.mg_of X G hg_PARTS) hh_PARTS hw_PARTS (.cons ht_PARTS_0 (.cons (.str _ _) (.cons (.str _ _) (.cons (.str _ _) (.cons (.str _ _) .nil)))) (by decide) (.cons ht_PARTS_1 (.cons (.str _ _) (.cons (.str _ _) (.cons (.str _ _) .nil))) (by decide) (.cons ht_PARTS_2 (.cons (.str _ _) (.cons (.str _ _) (.cons (.str _ _) .nil))) (by decide) (.cons ht_PARTS_3 (.cons (.str _ _) (.cons (.str _ _) (.cons (.str _ _) .nil))) (by decide) (.cons ht_PARTS_4 (.cons (.str _ _) (.cons (.str _ _) (.cons (.str _ _) .nil))) (by decide) (.cons ht_PARTS_5 (.cons (.str _ _) (.cons (.str _ _) .nil)) (by decide) .nil))))))
    F_bad_letter := F_bad_letter
    m_bad_letter := PySem.W.mg_of X G hm_bad_letter
    F_is_leaf_text := F_is_leaf_text
    m_is_leaf_text := PySem.W.mg_of X G hm_is_leaf_text
    F_is_name := F_is_name
    m_is_name := PySem.W.mg_of X G hm_is_name
    F_is_part := F_is_part
    m_is_part := PySem.W.mg_of X G hm_is_part
    F_is_stack_rule := F_is_stack_rule
    m_is_stack_rule := PySem.W.mg_of X G hm_is_stack_rule
    F_StackGrammar_init := F_StackGrammar_init
    F_Grammar_init_StackGrammar := F_Grammar_init_StackGrammar
    F__law_row := F__law_row
    m__law_row := PySem.W.mg_of X G hm__law_row
    F__law_text := F__law_text
    m__law_text := PySem.W.mg_of X G hm__law_text
    F__law_rule := F__law_rule
    m__law_rule := PySem.W.mg_of X G hm__law_rule
    F__law_rules := F__law_rules
    m__law_rules := PySem.W.mg_of X G hm__law_rules
    F__law_same := F__law_same
    m__law_same := PySem.W.mg_of X G hm__law_same
    F__law_good_rule := F__law_good_rule
    m__law_good_rule := PySem.W.mg_of X G hm__law_good_rule
    F__law_due_answer := F__law_due_answer
    m__law_due_answer := PySem.W.mg_of X G hm__law_due_answer
    F__law_told := F__law_told
    m__law_told := PySem.W.mg_of X G hm__law_told
    F__law_odd_parts := F__law_odd_parts
    m__law_odd_parts := PySem.W.mg_of X G hm__law_odd_parts
    F__law_bent := F__law_bent
    m__law_bent := PySem.W.mg_of X G hm__law_bent
    F__law_edges := F__law_edges
    m__law_edges := PySem.W.mg_of X G hm__law_edges
    F__law_limits := F__law_limits
    m__law_limits := PySem.W.mg_of X G hm__law_limits
    F_law := F_law
    m_law := PySem.W.mg_of X G hm_law
    m_Grammar := PySem.W.mg_of X G hm_Grammar
    m_StackGrammar := PySem.W.mg_of X G hm_StackGrammar
    cj_StackGrammar := ⟨hm_StackGrammar, ⟨pg_StackGrammar, hd_StackGrammar, po_StackGrammar, sa_StackGrammar⟩⟩
    mk_StackGrammar := ⟨mk_StackGrammar, hm_StackGrammar_init, fn_StackGrammar_init, kp_StackGrammar⟩
    na_StackGrammar_signs := na_StackGrammar_signs
    na_StackGrammar_names := na_StackGrammar_names
    na_StackGrammar_rules := na_StackGrammar_rules
    b_Grammar_init_StackGrammar_3 := bnd_none (F_Grammar_init_StackGrammar.bindsN (fun _ _ _ _ _ _ us hl => match us, hl with | [_, _, _], _ => rfl))
    b_StackGrammar_init_4 := F_StackGrammar_init.bnd (fun _ _ _ _ _ _ _ us hl => match us, hl with | [_, _, _, _], _ => rfl)
    b__law_bent_5 := bnd_none (F__law_bent.bindsN (fun _ _ _ _ _ _ us hl => match us, hl with | [_, _, _, _, _], _ => rfl))
    b__law_due_answer_3 := bnd_none (F__law_due_answer.bindsN (fun _ _ _ _ _ _ us hl => match us, hl with | [_, _, _], _ => rfl))
    b__law_edges_2 := bnd_none (F__law_edges.bindsN (fun _ _ _ _ _ _ us hl => match us, hl with | [_, _], _ => rfl))
    b__law_good_rule_3 := bnd_none (F__law_good_rule.bindsN (fun _ _ _ _ _ _ us hl => match us, hl with | [_, _, _], _ => rfl))
    b__law_limits_4 := bnd_none (F__law_limits.bindsN (fun _ _ _ _ _ _ us hl => match us, hl with | [_, _, _, _], _ => rfl))
    b__law_odd_parts_2 := bnd_none (F__law_odd_parts.bindsN (fun _ _ _ _ _ _ us hl => match us, hl with | [_, _], _ => rfl))
    b__law_row_2 := bnd_none (F__law_row.bindsN (fun _ _ _ _ _ _ us hl => match us, hl with | [_, _], _ => rfl))
    b__law_rule_5 := bnd_none (F__law_rule.bindsN (fun _ _ _ _ _ _ us hl => match us, hl with | [_, _, _, _, _], _ => rfl))
    b__law_rules_5 := bnd_none (F__law_rules.bindsN (fun _ _ _ _ _ _ us hl => match us, hl with | [_, _, _, _, _], _ => rfl))
    b__law_same_2 := bnd_none (F__law_same.bindsN (fun _ _ _ _ _ _ us hl => match us, hl with | [_, _], _ => rfl))
    b__law_text_1 := bnd_none (F__law_text.bindsN (fun _ _ _ _ _ _ us hl => match us, hl with | [_], _ => rfl))
    b__law_told_3 := bnd_none (F__law_told.bindsN (fun _ _ _ _ _ _ us hl => match us, hl with | [_, _, _], _ => rfl))
    b_bad_letter_2 := bnd_none (F_bad_letter.bindsN (fun _ _ _ _ _ _ us hl => match us, hl with | [_, _], _ => rfl))
    b_is_leaf_text_1 := bnd_none (F_is_leaf_text.bindsN (fun _ _ _ _ _ _ us hl => match us, hl with | [_], _ => rfl))
    b_is_name_2 := bnd_none (F_is_name.bindsN (fun _ _ _ _ _ _ us hl => match us, hl with | [_, _], _ => rfl))
    b_is_part_4 := bnd_none (F_is_part.bindsN (fun _ _ _ _ _ _ us hl => match us, hl with | [_, _, _, _], _ => rfl))
    b_is_stack_rule_3 := bnd_none (F_is_stack_rule.bindsN (fun _ _ _ _ _ _ us hl => match us, hl with | [_, _, _], _ => rfl))
    m_Fault := PySem.W.mg_of X G hm_Fault
    n_Fault := hm_Fault
    m_TooMany := PySem.W.mg_of X G hm_TooMany
    n_TooMany := hm_TooMany
    m_BadRule := PySem.W.mg_of X G hm_BadRule
    n_BadRule := hm_BadRule
    m_BadLine := PySem.W.mg_of X G hm_BadLine
    n_BadLine := hm_BadLine
    cr_StackGrammar := ⟨cr_StackGrammar, cg_StackGrammar⟩
    cv_StackGrammar_KIND := ⟨cv_StackGrammar_KIND, ⟨_, rfl⟩⟩
    cc_StackGrammar_KIND := ⟨cc_StackGrammar_KIND, ⟨_, rfl⟩, cs_StackGrammar_KIND, by decide +kernel⟩
    j_Grammar := (ist2_cons hm_StackGrammar ⟨⟨pg_StackGrammar, hd_StackGrammar, po_StackGrammar, sa_StackGrammar⟩, ya_StackGrammar, h_get, h_tak, yo_StackGrammar⟩ yk_Grammar_StackGrammar ist2_nil)
    s_BadRule := { cls := ⟨_, _, _, _, _, _, _, _, _, _, _, _, _, _, _, xl_BadRule, by rfl⟩, sa := sa_BadRule, noF := nf_BadRule, iC := ic_BadRule, tI := ti_BadRule, kC := kc_BadRule, exC := xc_BadRule, veC := ve_BadRule, tyC := ty_BadRule, up := up_BadRule, sub := mr_BadRule, any := h_any, sup := PySem.W.mg_none_of X G h_sup, fn := ⟨_, _, _, _, _, _, _, _, _, _, _, _, _, _, _, _, _, _, _, _, _, _, _, hf_BadRule, hq_BadRule, ⟨_, _, _, hcell_BadRule⟩, _, _, _, _, _, _, hcode_BadRule, hvs_BadRule, hfile_BadRule, hev_BadRule⟩, bnd := fun _ _ _ _ _ _ _ _ _ _ _ _ => rfl, ne := by decide +kernel, db := by decide +kernel, top := h_top }
    s_TooMany := { cls := ⟨_, _, _, _, _, _, _, _, _, _, _, _, _, _, _, xl_TooMany, by rfl⟩, sa := sa_TooMany, noF := nf_TooMany, iC := ic_TooMany, tI := ti_TooMany, kC := kc_TooMany, exC := xc_TooMany, veC := ve_TooMany, tyC := ty_TooMany, up := up_TooMany, sub := mr_TooMany, any := h_any, sup := PySem.W.mg_none_of X G h_sup, fn := ⟨_, _, _, _, _, _, _, _, _, _, _, _, _, _, _, _, _, _, _, _, _, _, _, hf_TooMany, hq_TooMany, ⟨_, _, _, hcell_TooMany⟩, _, _, _, _, _, _, hcode_TooMany, hvs_TooMany, hfile_TooMany, hev_TooMany⟩, bnd := fun _ _ _ _ _ _ _ _ _ _ _ _ => rfl, ne := by decide +kernel, db := by decide +kernel, top := h_top }
    e_Fault := (ext_cons hm_BadRule (PySem.W.exm_ref te_Fault td_Fault tt_Fault ts_Fault_BadRule) (ext_cons hm_TooMany (PySem.W.exm_ref te_Fault td_Fault tt_Fault ts_Fault_TooMany) ext_nil))
    x_limit := (xft_cons hm_TooMany xf_TooMany nf_TooMany xft_nil)
    x_place := (xft_cons hm_BadRule xf_BadRule nf_BadRule xft_nil)
    i_BadLine := (ist_cons hm_BadRule xx_BadRule ki_BadLine_BadRule (ist_cons hm_TooMany xx_TooMany ki_BadLine_TooMany ist_nil))
    i_BadRule := (ist_cons hm_BadRule xx_BadRule ki_BadRule_BadRule (ist_cons hm_TooMany xx_TooMany ki_BadRule_TooMany ist_nil))
    i_TooMany := (ist_cons hm_BadRule xx_BadRule ki_TooMany_BadRule (ist_cons hm_TooMany xx_TooMany ki_TooMany_TooMany ist_nil))
    i_ValueError := (ist_cons hm_BadRule xx_BadRule ki_ValueError_BadRule (ist_cons hm_TooMany xx_TooMany ki_ValueError_TooMany ist_nil)) }
  exact ⟨_, fun s u => F_law.bindsA (ps := ["script"]) (fun _ _ _ _ _ _ us hl => match us, hl with | [_], _ => rfl) s [u] rfl, fun base _ _ => (fnj_law (ad := ad) T).ok⟩
end
end G
set_option Elab.async false
set_option linter.all false
set_option maxRecDepth 100000
set_option maxHeartbeats 4000000
/-! A19: rules as data; what the program says of one. -/
namespace G
open PySem PySem.Spec L2 PD
inductive Pt where
  | i (z : Int)
  | s (x : Str)
def Pt.d : Pt → D
  | .i z => .int z
  | .s x => .str x
structure Rl where
  k : Str
  ps : List Pt
def Rl.d (r : Rl) : D := .tup (.str r.k :: r.ps.map Pt.d)
inductive So where
  | n | s | t
def So.long : So → Str
  | .n => "name"
  | .s => "sign"
  | .t => "text"
def So.one : So → Str
  | .n => "n"
  | .s => "s"
  | .t => "t"
def So.c : So → Nat
  | .n => 110
  | .s => 115
  | .t => 116
theorem So.one_is (o : So) : o.one = ⟨#[o.c]⟩ := by cases o <;> decide +kernel
def okText (x : Str) : Bool := decide ((tx x).length ≤ 12) && (tx x).all isL
def okPt (n s : Int) : So → Pt → Bool
  | .t, .s x => okText x
  | .n, .i z => decide (0 ≤ z) && decide (z < n)
  | .s, .i z => decide (0 ≤ z) && decide (z < s)
  | _, _ => false
def forms : List (Str × List So) := [("emit", [.n, .n, .t, .t]), ("before", [.n, .n, .n]), ("after", [.n, .n, .n]), ("push", [.n, .n, .s]), ("pop", [.n, .s, .n]), ("stop", [.n, .t])]
def goodR (n s : Int) (r : Rl) : Bool := match forms.lookup r.k with
  | none => false
  | some q => decide (r.ps.length = q.length) && (q.zip r.ps).all fun x => okPt n s x.1 x.2
def word (q : List So) : Str := ⟨(q.map So.c).toArray⟩
def short : List (Str × Str) := [("emit", "nntt"), ("before", "nnn"), ("after", "nnn"), ("push", "nns"), ("pop", "nsn"), ("stop", "nt")]
theorem forms_is (k : Str) : (forms.lookup k = none ∧ ents_PARTS.lookup k = none ∧ short.lookup k = none) ∨
    ∃ q, forms.lookup k = some q ∧ ents_PARTS.lookup k = some (.tup (q.map fun o => .str o.long)) ∧ short.lookup k = some (word q) ∧ q.length ≤ 4 := by
  by_cases h1 : k = "emit"
  · subst h1
    exact .inr ⟨_, rfl, rfl, by decide +kernel, by decide⟩
  by_cases h2 : k = "before"
  · subst h2
    exact .inr ⟨_, rfl, rfl, by decide +kernel, by decide⟩
  by_cases h3 : k = "after"
  · subst h3
    exact .inr ⟨_, rfl, rfl, by decide +kernel, by decide⟩
  by_cases h4 : k = "push"
  · subst h4
    exact .inr ⟨_, rfl, rfl, by decide +kernel, by decide⟩
  by_cases h5 : k = "pop"
  · subst h5
    exact .inr ⟨_, rfl, rfl, by decide +kernel, by decide⟩
  by_cases h6 : k = "stop"
  · subst h6
    exact .inr ⟨_, rfl, rfl, by decide +kernel, by decide⟩
  have b : ∀ x : Str, k ≠ x → (k == x) = false := fun x h => by simpa using h
  left
  unfold forms ents_PARTS short
  simp only [List.lookup_cons, b _ h1, b _ h2, b _ h3, b _ h4, b _ h5, b _ h6, List.lookup_nil]
  exact ⟨trivial, trivial, trivial⟩
theorem isi_int_str (b : Int) : isiL [.int b, .ty "str"] = some (.bl false) := isi_of rfl (by decide +kernel)
theorem bad_letter_is {x : Str} {m : Int} : den_bad_letter [.str x, .int m] = .ok (.int (badF m 0 (tx x))) := bad_letter_ok
theorem leaf_is (p : Pt) : den_is_leaf_text [p.d] = .ok (.bl (match p with | .s x => okText x | .i _ => false)) := by
  unfold den_is_leaf_text
  rw [fnD_app (ds := [p.d]) (by rfl : _ = 1)]
  show (bod_is_leaf_text [.d p.d]).fin = _
  unfold bod_is_leaf_text
  cases p with
  | i z =>
    have e := isi_int_str z
    simp [seq_bNil, bSeq, bNil, sAsg, sAsgO, setO, setD, sIf, sRet, sDrop, sFor, sApp, fC, fVar, fBin, fLate, slotD, fTst, boolD, fAnd, fOr, fNot, fUn, negD, fIf, fBlt, fLenN, fTup, fO, oLst, aNil, aCons, fSl, pNone, pSome, intD, fPop, ownAt, iSeq, iRange1, iRange2, iEnum1, cmpI, ltD, leD, gtD, geD, lenL, gUn, tsCons, tsNil, List.getElem?_cons_zero, List.getElem?_cons_succ, List.set_cons_zero, List.set_cons_succ, List.length_cons, List.length_nil, Pt.d, fAndV, e, Fl.fin, truD]
  | s x =>
    have e := isi_str_str x
    have hb := badF_neg (m := 12) (tx x) 0 (by decide)
    have bl := bad_letter_is (x := x) (m := 12)
    generalize badF 12 0 (tx x) = B at *
    have hb' : decide (B < 0) = okText x := by
      unfold okText
      rw [Nat.zero_add] at hb
      exact hb
    simp only [Pt.d]
    have lt : ltD (.int B) (.int 0) = some (.bl (decide (B < 0))) := rfl
    rw [hb'] at lt
    simp [seq_bNil, bSeq, bNil, sRet, fAndV, fBlt, aCons, aNil, fVar, fC, fBin, fCall, truD, e, bl, lt, Fl.fin, List.getElem?_cons_zero]
theorem name_is (p : Pt) (n : Int) : den_is_name [p.d, .int n] = .ok (.bl (match p with | .i z => decide (0 ≤ z) && decide (z < n) | .s _ => false)) := by
  unfold den_is_name
  rw [fnD_app (ds := [p.d, .int n]) (by rfl : _ = 2)]
  show (bod_is_name [.d p.d, .d (.int n)]).fin = _
  unfold bod_is_name
  cases p with
  | s x =>
    have e := isi_str_int x
    simp [seq_bNil, bSeq, bNil, sAsg, sAsgO, setO, setD, sIf, sRet, sDrop, sFor, sApp, fC, fVar, fBin, fLate, slotD, fTst, boolD, fAnd, fOr, fNot, fUn, negD, fIf, fBlt, fLenN, fTup, fO, oLst, aNil, aCons, fSl, pNone, pSome, intD, fPop, ownAt, iSeq, iRange1, iRange2, iEnum1, cmpI, ltD, leD, gtD, geD, lenL, gUn, tsCons, tsNil, List.getElem?_cons_zero, List.getElem?_cons_succ, List.set_cons_zero, List.set_cons_succ, List.length_cons, List.length_nil, Pt.d, fAndV, e, Fl.fin, truD]
  | i z =>
    have e := isi_int_int z
    by_cases h1 : 0 ≤ z <;> simp [seq_bNil, bSeq, bNil, sAsg, sAsgO, setO, setD, sIf, sRet, sDrop, sFor, sApp, fC, fVar, fBin, fLate, slotD, fTst, boolD, fAnd, fOr, fNot, fUn, negD, fIf, fBlt, fLenN, fTup, fO, oLst, aNil, aCons, fSl, pNone, pSome, intD, fPop, ownAt, iSeq, iRange1, iRange2, iEnum1, cmpI, ltD, leD, gtD, geD, lenL, gUn, tsCons, tsNil, List.getElem?_cons_zero, List.getElem?_cons_succ, List.set_cons_zero, List.set_cons_succ, List.length_cons, List.length_nil, Pt.d, fAndV, fChain, e, Fl.fin, truD, h1]
theorem part_is (o : So) (p : Pt) (n s : Int) : den_is_part [p.d, .str o.long, .int n, .int s] = .ok (.bl (okPt n s o p)) := by
  unfold den_is_part
  rw [fnD_app (ds := [p.d, .str o.long, .int n, .int s]) (by rfl : _ = 4)]
  show (bod_is_part [.d p.d, .d (.str o.long), .d (.int n), .d (.int s)]).fin = _
  unfold bod_is_part
  have l := leaf_is p
  have m := name_is p n
  have m2 := name_is p s
  have e1 : ∀ o : So, eqD (.str o.long) (.str "text") = some (.bl (match o with | .t => true | _ => false)) := fun o => by
    have : decide (o.long = ("text" : Str)) = (match o with | .t => true | _ => false) := by cases o <;> decide +kernel
    rw [eq_str, this]
  have e2 : ∀ o : So, eqD (.str o.long) (.str "sign") = some (.bl (match o with | .s => true | _ => false)) := fun o => by
    have : decide (o.long = ("sign" : Str)) = (match o with | .s => true | _ => false) := by cases o <;> decide +kernel
    rw [eq_str, this]
  have e1' := e1 o
  have e2' := e2 o
  generalize So.long o = ol at *
  cases o <;> cases p <;> simp only [Pt.d] at * <;> simp [seq_bNil, bSeq, bNil, sAsg, sAsgO, setO, setD, sIf, sRet, sDrop, sFor, sApp, fC, fVar, fBin, fLate, slotD, fTst, boolD, fAnd, fOr, fNot, fUn, negD, fIf, fBlt, fLenN, fTup, fO, oLst, aNil, aCons, fSl, pNone, pSome, intD, fPop, ownAt, iSeq, iRange1, iRange2, iEnum1, cmpI, ltD, leD, gtD, geD, lenL, gUn, tsCons, tsNil, List.getElem?_cons_zero, List.getElem?_cons_succ, List.set_cons_zero, List.set_cons_succ, List.length_cons, List.length_nil, fCall, l, m, m2, e1', e2', Fl.fin, okPt]
theorem tl_is (r : Rl) : slD r.d (some 1) none = some (.tup (r.ps.map Pt.d)) := by
  show some (D.tup (cutD (.str r.k :: r.ps.map Pt.d) (some 1) none)) = _
  have := cut_drop (id : D → D) (.str r.k :: r.ps.map Pt.d) (p := 1) (by decide)
  rw [List.map_id, List.map_id] at this
  rw [this]
  rfl
theorem sub0_is (r : Rl) : subD r.d (.int 0) = some (.str r.k) := by
  show atI (.str r.k :: r.ps.map Pt.d) (0 : Int) = _
  exact PD.atI_nat (i := 0) (by simp)
theorem lenR_is (r : Rl) : lenOf r.d = some (.int ((r.ps.length + 1 : Nat) : Int)) := by
  show some (D.int (D.str r.k :: r.ps.map Pt.d).length) = _
  rw [List.length_cons, List.length_map]
theorem dZip_map {α β : Type} (f : α → D) (g : β → D) : ∀ (xs : List α) (ys : List β), dZip (xs.map f) (ys.map g) = (xs.zip ys).map fun x => .tup [f x.1, g x.2]
  | [], _ => by simp [dZip]
  | _ :: _, [] => by simp [dZip]
  | x :: xs, y :: ys => by
    have ih := dZip_map f g xs ys
    unfold dZip at ih ⊢
    simp only [List.map_cons, List.zipWith_cons_cons, List.zip_cons_cons, ih]
theorem zip_all (n s : Int) : ∀ (q : List So) (ps : List Pt), ((ps.zip q).all fun x => okPt n s x.2 x.1) = (q.zip ps).all fun x => okPt n s x.1 x.2
  | [], ps => by simp
  | _ :: _, [] => by simp
  | o :: q, p :: ps => by
    have ih := zip_all n s q ps
    simp only [List.zip_cons_cons, List.all_cons, ih]
theorem stack_rule_is (r : Rl) (n s : Int) (hl : r.ps.length ≤ 1000) : den_is_stack_rule [r.d, .int n, .int s] = .ok (.bl (goodR n s r)) := by
  have hlim : (5000 : Nat) < lim := by decide
  unfold den_is_stack_rule
  rw [fnD_app (ds := [r.d, .int n, .int s]) (by rfl : _ = 3)]
  show (bod_is_stack_rule [.d r.d, .d (.int n), .d (.int s), .un, .un, .un]).fin = _
  unfold bod_is_stack_rule
  have s0 := sub0_is r
  have lr := lenR_is r
  have tl := tl_is r
  unfold goodR
  rcases forms_is r.k with ⟨f1, f2, _⟩ | ⟨q, f1, f2, _, f4⟩
  · rw [f1]
    generalize r.d = RD at *
    generalize ents_PARTS = EP at *
    simp [seq_bNil, bSeq, bNil, sAsg, sAsgO, setO, setD, sIf, sRet, sDrop, sFor, sApp, fC, fVar, fBin, fLate, slotD, fTst, boolD, fAnd, fOr, fNot, fUn, negD, fIf, fBlt, fLenN, fTup, fO, oLst, aNil, aCons, fSl, pNone, pSome, intD, fPop, ownAt, iSeq, iRange1, iRange2, iEnum1, cmpI, ltD, leD, gtD, geD, lenL, gUn, tsCons, tsNil, List.getElem?_cons_zero, List.getElem?_cons_succ, List.set_cons_zero, List.set_cons_succ, List.length_cons, List.length_nil, fInG, s0, f2, nB, Fl.fin]
  · rw [f1]
    show _ = FR.ok (.bl (decide (r.ps.length = q.length) && (q.zip r.ps).all fun x => okPt n s x.1 x.2))
    have lq : lenOf (.tup (q.map fun o => .str o.long)) = some (.int (q.length : Nat)) := len_mapT _ q
    have aq : addD (.int (q.length : Nat)) (.int 1) = some (.int ((q.length + 1 : Nat) : Int)) := rfl
    have hne : neD (.int ((r.ps.length + 1 : Nat) : Int)) (.int ((q.length + 1 : Nat) : Int)) = some (.bl (!decide (r.ps.length = q.length))) := by
      rw [ne_int]
      congr 3
      simp only [decide_eq_decide]
      omega
    by_cases hq : r.ps.length = q.length
    · have zz : dZip (r.ps.map Pt.d) (q.map fun o => .str o.long) = (r.ps.zip q).map fun x => .tup [Pt.d x.1, .str x.2.long] := dZip_map _ _ _ _
      have lc := lcGo_map2 (te := fCall den_is_part (aCons (fVar 4) (aCons (fVar 5) (aCons (fVar 1) (aCons (fVar 2) aNil)))) []) (v1 := 4) (v2 := 5) (ρ := [.d r.d, .d (.int n), .d (.int s), .d (.tup (q.map fun o => .str o.long)), .un, .un]) (fun x : Pt × So => x.1.d) (fun x => .str x.2.long) (fun x => .bl (okPt n s x.2 x.1)) rfl rfl (by decide) (r.ps.zip q) [] (fun x _ => by
        have h := part_is x.2 x.1 n s
        generalize r.d = RD at *
        generalize x.1.d = pd at *
        generalize x.2.long = ol at *
        generalize (q.map fun o => D.str o.long) = QD at *
        generalize okPt n s x.2 x.1 = b at *
        simp [fCall, aCons, aNil, fVar, h]) (by
          rw [List.length_zip]
          show 0 + _ < lim
          omega)
      have al := all_map (fun x : Pt × So => okPt n s x.2 x.1) (r.ps.zip q)
      rw [zip_all] at al
      rw [decide_eq_true hq, Bool.true_and]
      rw [hq] at hne lr
      have hne' : neD (.int ((q.length + 1 : Nat) : Int)) (.int ((q.length + 1 : Nat) : Int)) = some (.bl false) := by
        rw [hne]
        simp
      rw [List.nil_append] at lc
      clear hne
      generalize ((q.zip r.ps).all fun x => okPt n s x.1 x.2) = B at *
      generalize r.d = RD at *
      generalize ((r.ps.zip q).map fun x => D.bl (okPt n s x.2 x.1)) = BL at *
      generalize ((r.ps.zip q).map fun x => D.tup [Pt.d x.1, .str x.2.long]) = ZL at *
      generalize (q.map fun o => D.str o.long) = QD at *
      generalize r.ps.map Pt.d = PL at *
      generalize ents_PARTS = EP at *
      generalize (q.length : Int) = qi at *
      generalize ((q.length + 1 : Nat) : Int) = qj at *
      generalize den_is_part = dip at *
      have e1 : sIf (fInG true EP (fLate 0 subD (fC (.int 0)))) (bSeq (sRet (fC (.bl false))) bNil) bNil [.d RD, .d (.int n), .d (.int s), .un, .un, .un] = .nx [.d RD, .d (.int n), .d (.int s), .un, .un, .un] := by
        simp [seq_bNil, bSeq, bNil, sAsg, sAsgO, setO, setD, sIf, sRet, sDrop, sFor, sApp, fC, fVar, fBin, fLate, slotD, fTst, boolD, fAnd, fOr, fNot, fUn, negD, fIf, fBlt, fLenN, fTup, fO, oLst, aNil, aCons, fSl, pNone, pSome, intD, fPop, ownAt, iSeq, iRange1, iRange2, iEnum1, cmpI, ltD, leD, gtD, geD, lenL, gUn, tsCons, tsNil, List.getElem?_cons_zero, List.getElem?_cons_succ, List.set_cons_zero, List.set_cons_succ, List.length_cons, List.length_nil, fInG, s0, f2, nB]
      have e2 : sAsg (fSubG EP (fLate 0 subD (fC (.int 0)))) (setD 3) [.d RD, .d (.int n), .d (.int s), .un, .un, .un] = .nx [.d RD, .d (.int n), .d (.int s), .d (.tup QD), .un, .un] := by
        simp [seq_bNil, bSeq, bNil, sAsg, sAsgO, setO, setD, sIf, sRet, sDrop, sFor, sApp, fC, fVar, fBin, fLate, slotD, fTst, boolD, fAnd, fOr, fNot, fUn, negD, fIf, fBlt, fLenN, fTup, fO, oLst, aNil, aCons, fSl, pNone, pSome, intD, fPop, ownAt, iSeq, iRange1, iRange2, iEnum1, cmpI, ltD, leD, gtD, geD, lenL, gUn, tsCons, tsNil, List.getElem?_cons_zero, List.getElem?_cons_succ, List.set_cons_zero, List.set_cons_succ, List.length_cons, List.length_nil, fSubG, s0, f2]
      have e3 : sIf (fTst boolD (fBin neD (fLenN 0) (fBin addD (fLenN 3) (fC (.int 1))))) (bSeq (sRet (fC (.bl false))) bNil) bNil [.d RD, .d (.int n), .d (.int s), .d (.tup QD), .un, .un] = .nx [.d RD, .d (.int n), .d (.int s), .d (.tup QD), .un, .un] := by
        simp [seq_bNil, bSeq, bNil, sAsg, sAsgO, setO, setD, sIf, sRet, sDrop, sFor, sApp, fC, fVar, fBin, fLate, slotD, fTst, boolD, fAnd, fOr, fNot, fUn, negD, fIf, fBlt, fLenN, fTup, fO, oLst, aNil, aCons, fSl, pNone, pSome, intD, fPop, ownAt, iSeq, iRange1, iRange2, iEnum1, cmpI, ltD, leD, gtD, geD, lenL, gUn, tsCons, tsNil, List.getElem?_cons_zero, List.getElem?_cons_succ, List.set_cons_zero, List.set_cons_succ, List.length_cons, List.length_nil, lr, lq, aq, hne']
      rw [bSeq_app, e1, Fl.seq_nx, bSeq_app, e2, Fl.seq_nx, bSeq_app, e3, Fl.seq_nx]
      have e4 : fLc (PD.iZip (aCons (fSl (fVar 0) (pSome (fC (.int 1))) pNone) (aCons (fVar 3) aNil))) (gUn 2 (tsCons (setD 4) (tsCons (setD 5) tsNil))) tYesD (fCall dip (aCons (fVar 4) (aCons (fVar 5) (aCons (fVar 1) (aCons (fVar 2) aNil)))) []) [4, 5] [.d RD, .d (.int n), .d (.int s), .d (.tup QD), .un, .un] = .ok BL [.d RD, .d (.int n), .d (.int s), .d (.tup QD), .un, .un] := by
        unfold fLc
        have : PD.iZip (aCons (fSl (fVar 0) (pSome (fC (.int 1))) pNone) (aCons (fVar 3) aNil)) [.d RD, .d (.int n), .d (.int s), .d (.tup QD), .un, .un] = .ok ZL [.d RD, .d (.int n), .d (.int s), .d (.tup QD), .un, .un] := by
          simp [seq_bNil, bSeq, bNil, sAsg, sAsgO, setO, setD, sIf, sRet, sDrop, sFor, sApp, fC, fVar, fBin, fLate, slotD, fTst, boolD, fAnd, fOr, fNot, fUn, negD, fIf, fBlt, fLenN, fTup, fO, oLst, aNil, aCons, fSl, pNone, pSome, intD, fPop, ownAt, iSeq, iRange1, iRange2, iEnum1, cmpI, ltD, leD, gtD, geD, lenL, gUn, tsCons, tsNil, List.getElem?_cons_zero, List.getElem?_cons_succ, List.set_cons_zero, List.set_cons_succ, List.length_cons, List.length_nil, PD.iZip, tl, zz]
        rw [this]
        exact lc
      have e5 : (sRet (fBlt allL (aCons (fO (fLc (PD.iZip (aCons (fSl (fVar 0) (pSome (fC (.int 1))) pNone) (aCons (fVar 3) aNil))) (gUn 2 (tsCons (setD 4) (tsCons (setD 5) tsNil))) tYesD (fCall dip (aCons (fVar 4) (aCons (fVar 5) (aCons (fVar 1) (aCons (fVar 2) aNil)))) []) [4, 5])) aNil))) [.d RD, .d (.int n), .d (.int s), .d (.tup QD), .un, .un] = .rt (.bl B) := by
        simp only [sRet, fBlt, aCons, aNil, fO, e4, Res.bind_ok, al, ofO, Res.fl]
      rw [bSeq_app, e5]
      rfl
    · have hd : decide (r.ps.length = q.length) = false := by simpa using hq
      rw [hd, Bool.false_and]
      rw [hd] at hne
      generalize r.d = RD at *
      generalize (q.map fun o => D.str o.long) = QD at *
      generalize ents_PARTS = EP at *
      generalize (q.length : Int) = qi at *
      generalize ((q.length + 1 : Nat) : Int) = qj at *
      generalize ((r.ps.length + 1 : Nat) : Int) = rj at *
      simp [seq_bNil, bSeq, bNil, sAsg, sAsgO, setO, setD, sIf, sRet, sDrop, sFor, sApp, fC, fVar, fBin, fLate, slotD, fTst, boolD, fAnd, fOr, fNot, fUn, negD, fIf, fBlt, fLenN, fTup, fO, oLst, aNil, aCons, fSl, pNone, pSome, intD, fPop, ownAt, iSeq, iRange1, iRange2, iEnum1, cmpI, ltD, leD, gtD, geD, lenL, gUn, tsCons, tsNil, List.getElem?_cons_zero, List.getElem?_cons_succ, List.set_cons_zero, List.set_cons_succ, List.length_cons, List.length_nil, fInG, fSubG, s0, f2, nB, lr, lq, aq, hne, Fl.fin]
end G
set_option Elab.async false
set_option linter.all false
set_option maxRecDepth 100000
set_option maxHeartbeats 4000000
/-! B19: the law's word on a rule; the answer that is due. -/
namespace G
open PySem PySem.Spec L2 PD
def lg1 : En → Fl := (sAsg (fC (.dic (kSS [("emit", "nntt"), ("before", "nnn"), ("after", "nnn"), ("push", "nns"), ("pop", "nsn"), ("stop", "nt")]))) (setD 3))
def lg2 : En → Fl := (sIf (fOr (fInD true (kOf (fLate 0 subD (fC (.int 0)))) (fVar 3)) (fTst boolD (fBin neD (fLenN 0) (fBin addD (fBlt lenL (aCons (fSubDk (fVar 3) (kOf (fLate 0 subD (fC (.int 0))))) aNil)) (fC (.int 1)))))) (bSeq (sRet (fC (.bl false))) bNil) bNil)
def lgLoop : En → Fl := (bSeq (sAsg (fBin subD (fSubDk (fVar 3) (kOf (fLate 0 subD (fC (.int 0))))) (fVar 4)) (setD 5)) (bSeq (sAsg (fLate 0 subD (fBin addD (fVar 4) (fC (.int 1)))) (setD 6)) (bSeq (sIf (fTst boolD (fBlt isiL (aCons (fVar 6) (aCons (fC (.ty "str")) aNil)))) (bSeq (sAsgO (fLc (iSeq (fVar 6)) (setD 8) (fTst boolD (fBin ninD (fVar 8) (fC (.str "abcdefghijklmnopqrstuvwxyz")))) (fVar 8) [8]) 7) (bSeq (sIf (fOr (fTst boolD (fLate 5 neD (fC (.str "t")))) (fOr (fTst boolD (fBin gtD (fLenN 6) (fC (.int 12)))) (fTst boolD (fLate 7 neD (fO (oLst aNil)))))) (bSeq (sRet (fC (.bl false))) bNil) bNil) bNil)) (bSeq (sIf (fOr (fTst boolD (fLate 5 eqD (fC (.str "t")))) (fOr (fTst boolD (fBin ltD (fVar 6) (fC (.int 0)))) (fOr (fAnd (fTst boolD (fLate 5 eqD (fC (.str "n")))) (fTst boolD (fBin geD (fVar 6) (fVar 1)))) (fAnd (fTst boolD (fLate 5 eqD (fC (.str "s")))) (fTst boolD (fBin geD (fVar 6) (fVar 2))))))) (bSeq (sRet (fC (.bl false))) bNil) bNil) bNil)) bNil)))
def lg3 : En → Fl := (sFor (iRange1 (aCons (fBin subI (fLenN 0) (fC (.int 1))) aNil)) (setD 4) lgLoop)
def lg4 : En → Fl := (sRet (fC (.bl true)))
theorem lg_is : bod__law_good_rule = (bSeq lg1 (bSeq lg2 (bSeq lg3 (bSeq lg4 bNil)))) := rfl
theorem okPt_s (n s : Int) (o : So) (x : Str) : okPt n s o (.s x) = (decide (o.one = ("t" : Str)) && (decide ((tx x).length ≤ 12) && (tx x).all isL)) := by
  have h1 : So.n.one ≠ ("t" : Str) := by decide +kernel
  have h2 : So.s.one ≠ ("t" : Str) := by decide +kernel
  have h3 : So.t.one = ("t" : Str) := by decide +kernel
  cases o <;> simp [okPt, okText, h1, h2, h3]
theorem okPt_i (n s : Int) (o : So) (z : Int) : okPt n s o (.i z) = !(decide (o.one = ("t" : Str)) || (decide (z < 0) || ((decide (o.one = ("n" : Str)) && decide (n ≤ z)) || (decide (o.one = ("s" : Str)) && decide (s ≤ z))))) := by
  have k1 : ∀ o : So, decide (o.one = ("t" : Str)) = (match o with | .t => true | _ => false) := fun o => by cases o <;> decide +kernel
  have k2 : ∀ o : So, decide (o.one = ("n" : Str)) = (match o with | .n => true | _ => false) := fun o => by cases o <;> decide +kernel
  have k3 : ∀ o : So, decide (o.one = ("s" : Str)) = (match o with | .s => true | _ => false) := fun o => by cases o <;> decide +kernel
  rw [k1, k2, k3]
  have c : ∀ m : Int, (decide (0 ≤ z) && decide (z < m)) = !(decide (z < 0) || decide (m ≤ z)) := fun m => by
    by_cases a : z < 0
    · have : ¬ 0 ≤ z := by omega
      simp [a, this]
    · have a2 : 0 ≤ z := by omega
      by_cases b : m ≤ z
      · have : ¬ z < m := by omega
        simp [a, a2, b, this]
      · have : z < m := by omega
        simp [a, a2, b, this]
  cases o
  · simp only [okPt, c, Bool.false_or, Bool.or_false, Bool.true_and, Bool.false_and]
  · simp only [okPt, c, Bool.false_or, Bool.or_false, Bool.true_and, Bool.false_and]
  · simp only [okPt, Bool.true_or, Bool.not_true]
theorem chars_map (x : Str) : chars x = (tx x).map ch := by rfl
theorem sub_ps {r : Rl} {i : Nat} (h : i < r.ps.length) : subD r.d (.int ((i : Int) + 1)) = some (r.ps[i]).d := by
  show atI (.str r.k :: r.ps.map Pt.d) ((i + 1 : Nat) : Int) = _
  rw [PD.atI_nat (by rw [List.length_cons, List.length_map]; omega)]
  simp
theorem sub_word {q : List So} {i : Nat} (hq : q.length ≤ 4) (h : i < q.length) : subD (.str (word q)) (.int (i : Nat)) = some (.str (q[i]).one) := by
  have hlim : (5000 : Nat) < lim := by decide
  have ht : tx (word q) = q.map So.c := by
    unfold tx word
    simp
  have hl : (tx (word q)).length = q.length := by rw [ht, List.length_map]
  rw [subS (by rw [← tx_len, hl]; omega) (by rw [hl]; exact h)]
  have : (tx (word q))[i]'(by rw [hl]; exact h) = (q[i]).c := by
    have e : (tx (word q))[i]? = some (q[i]).c := by
      rw [ht, List.getElem?_map, List.getElem?_eq_getElem h]
      rfl
    exact (List.getElem?_eq_some_iff.mp e).2
  rw [this, So.one_is]
def lgI (r : Rl) (n s : Int) (ρ : En) : Prop := ∃ x4 x5 x6 x7 : Sl, ρ = [.d r.d, .d (.int n), .d (.int s), .d (.dic (kSS short)), x4, x5, x6, x7, .un]
theorem sub_forms {r : Rl} {q : List So} (h : short.lookup r.k = some (word q)) : dGet (.dic (kSS short)) (.k (.inr r.k)) = some (some (.str (word q))) := by
  show some (aGet (kSS short) (.inr r.k)) = _
  rw [aGet_kSS, h]
  rfl
theorem lg_step {r : Rl} {n s : Int} {q : List So} {i : Nat} {ρ : En} (hq : q.length ≤ 4) (hlq : r.ps.length = q.length) (hx : ∀ p ∈ r.ps, ∀ x, p = .s x → x.length ≤ 1000) (hs : short.lookup r.k = some (word q)) (hi : i < r.ps.length) (h : lgI r n s ρ) :
    (okPt n s (q[i]'(by omega)) r.ps[i] = true ∧ ∃ ρ', (setD 4 (.int (i : Nat)) ρ).seq lgLoop = .nx ρ' ∧ lgI r n s ρ') ∨ (okPt n s (q[i]'(by omega)) r.ps[i] = false ∧ (setD 4 (.int (i : Nat)) ρ).seq lgLoop = .rt (.bl false)) := by
  obtain ⟨x4, x5, x6, x7, rfl⟩ := h
  have hlim : (5000 : Nat) < lim := by decide
  have hiq : i < q.length := by omega
  have s0 := sub0_is r
  have sf := sub_forms hs
  have sw := sub_word hq hiq
  have sp := sub_ps hi
  have ad : addD (.int (i : Nat)) (.int 1) = some (.int ((i : Int) + 1)) := rfl
  have hp := hx _ (List.getElem_mem hi)
  unfold lgI
  generalize r.ps[i] = p at *
  generalize q[i] = o at *
  generalize word q = w at *
  generalize kSS short = F at *
  generalize r.d = RD at *
  generalize r.k = rk at *
  generalize (i : Int) + 1 = i1 at *
  have pre : (setD 4 (.int (i : Nat)) [.d RD, .d (.int n), .d (.int s), .d (.dic F), x4, x5, x6, x7, .un]).seq (bSeq (sAsg (fBin subD (fSubDk (fVar 3) (kOf (fLate 0 subD (fC (.int 0))))) (fVar 4)) (setD 5)) (sAsg (fLate 0 subD (fBin addD (fVar 4) (fC (.int 1)))) (setD 6))) = .nx [.d RD, .d (.int n), .d (.int s), .d (.dic F), .d (.int (i : Nat)), .d (.str o.one), .d p.d, x7, .un] := by
    generalize o.one = oo at *
    generalize p.d = pd at *
    generalize (i : Int) = ii at *
    simp [seq_bNil, bSeq, bNil, sAsg, sAsgO, setO, setD, sIf, sRet, sDrop, sFor, sApp, fC, fVar, fBin, fLate, slotD, fTst, boolD, fAnd, fOr, fNot, fUn, negD, fIf, fBlt, fLenN, fTup, fO, oLst, aNil, aCons, fSl, pNone, pSome, intD, fPop, ownAt, iSeq, iRange1, iRange2, iEnum1, cmpI, ltD, leD, gtD, geD, lenL, gUn, tsCons, tsNil, List.getElem?_cons_zero, List.getElem?_cons_succ, List.set_cons_zero, List.set_cons_succ, List.length_cons, List.length_nil, fSubDk, kOf, toKey, s0, sf, sw, sp, ad]
  unfold lgLoop
  rw [bSeq_assoc, seq_bSeq, pre, Fl.seq_nx]
  clear pre
  cases p with
  | s x =>
    have hxl : x.length ≤ 1000 := hp x rfl
    have e1 := isi_str_str x
    have lc := lcGo_map (tt := fTst boolD (fBin ninD (fVar 8) (fC (.str "abcdefghijklmnopqrstuvwxyz")))) (te := fVar 8) (v := 8) (ρ := [.d RD, .d (.int n), .d (.int s), .d (.dic F), .d (.int (i : Nat)), .d (.str o.one), .d (.str x), x7, .un]) ch (fun c => !isL c) ch rfl (tx x) [] (fun c _ => by
      have h := nin_ch c
      generalize ch c = cc at *
      generalize (!isL c) = b at *
      simp [fTst, boolD, fBin, fVar, fC, h]) (fun c _ _ => by
      generalize ch c = cc at *
      simp [fVar]) (by
        rw [tx_len]
        show 0 + _ < lim
        omega)
    rw [List.nil_append, ← chars_map] at lc
    have hne := ne_nil (xs := ((tx x).filter fun c => !isL c).map ch) (fun y hy => by
      obtain ⟨c, _, rfl⟩ := List.mem_map.mp hy
      exact ok1_str _)
    have hem : (((tx x).filter fun c => !isL c).map ch).isEmpty = (tx x).all isL := by
      rw [List.isEmpty_map]
      induction tx x with
      | nil => rfl
      | cons c r ih =>
        rw [List.filter_cons, List.all_cons]
        cases hc : isL c
        · simp
        · simpa using ih
    rw [hem] at hne
    have ls : lenOf (.str x) = some (.int ((tx x).length : Nat)) := len_str (by omega)
    have gt : gtD (.int ((tx x).length : Nat)) (.int 12) = some (.bl (!decide ((tx x).length ≤ 12))) := by
      show some (D.bl (decide (((tx x).length : Int) > 12))) = _
      congr 2
      rw [← decide_not]
      simp only [decide_eq_decide]
      omega
    have nt := ne_str o.one "t"
    rw [okPt_s]
    have e5 : sAsgO (fLc (iSeq (fVar 6)) (setD 8) (fTst boolD (fBin ninD (fVar 8) (fC (.str "abcdefghijklmnopqrstuvwxyz")))) (fVar 8) [8]) 7 [.d RD, .d (.int n), .d (.int s), .d (.dic F), .d (.int (i : Nat)), .d (.str o.one), .d (.str x), x7, .un] = .nx [.d RD, .d (.int n), .d (.int s), .d (.dic F), .d (.int (i : Nat)), .d (.str o.one), .d (.str x), .own (((tx x).filter fun c => !isL c).map ch), .un] := by
      have : fLc (iSeq (fVar 6)) (setD 8) (fTst boolD (fBin ninD (fVar 8) (fC (.str "abcdefghijklmnopqrstuvwxyz")))) (fVar 8) [8] [.d RD, .d (.int n), .d (.int s), .d (.dic F), .d (.int (i : Nat)), .d (.str o.one), .d (.str x), x7, .un] = .ok (((tx x).filter fun c => !isL c).map ch) [.d RD, .d (.int n), .d (.int s), .d (.dic F), .d (.int (i : Nat)), .d (.str o.one), .d (.str x), x7, .un] := lc
      simp only [sAsgO, this]
      rfl
    generalize ((tx x).filter fun c => !isL c).map ch = L at *
    generalize (tx x).all isL = b3 at *
    generalize decide ((tx x).length ≤ 12) = b2 at *
    generalize ((tx x).length : Int) = tl at *
    generalize decide (o.one = ("t" : Str)) = b1 at *
    generalize o.one = oo at *
    generalize (i : Int) = ii at *
    have t1 : fTst boolD (fBlt isiL (aCons (fVar 6) (aCons (fC (.ty "str")) aNil))) [.d RD, .d (.int n), .d (.int s), .d (.dic F), .d (.int ii), .d (.str oo), .d (.str x), x7, .un] = .ok true [.d RD, .d (.int n), .d (.int s), .d (.dic F), .d (.int ii), .d (.str oo), .d (.str x), x7, .un] := by
      simp [seq_bNil, bSeq, bNil, sAsg, sAsgO, setO, setD, sIf, sRet, sDrop, sFor, sApp, fC, fVar, fBin, fLate, slotD, fTst, boolD, fAnd, fOr, fNot, fUn, negD, fIf, fBlt, fLenN, fTup, fO, oLst, aNil, aCons, fSl, pNone, pSome, intD, fPop, ownAt, iSeq, iRange1, iRange2, iEnum1, cmpI, ltD, leD, gtD, geD, lenL, gUn, tsCons, tsNil, List.getElem?_cons_zero, List.getElem?_cons_succ, List.set_cons_zero, List.set_cons_succ, List.length_cons, List.length_nil, e1]
    simp only [Pt.d]
    rw [bSeq_app, sIf_t t1, bSeq_app, e5, Fl.seq_nx]
    cases b1 <;> cases b2 <;> cases b3 <;> simp [seq_bNil, bSeq, bNil, sAsg, sAsgO, setO, setD, sIf, sRet, sDrop, sFor, sApp, fC, fVar, fBin, fLate, slotD, fTst, boolD, fAnd, fOr, fNot, fUn, negD, fIf, fBlt, fLenN, fTup, fO, oLst, aNil, aCons, fSl, pNone, pSome, intD, fPop, ownAt, iSeq, iRange1, iRange2, iEnum1, lenL, gUn, tsCons, tsNil, List.getElem?_cons_zero, List.getElem?_cons_succ, List.set_cons_zero, List.set_cons_succ, List.length_cons, List.length_nil, nt, gt, ls, hne]
  | i z =>
    have e1 := isi_int_str z
    have t1 : fTst boolD (fBlt isiL (aCons (fVar 6) (aCons (fC (.ty "str")) aNil))) [.d RD, .d (.int n), .d (.int s), .d (.dic F), .d (.int (i : Nat)), .d (.str o.one), .d (.int z), x7, .un] = .ok false [.d RD, .d (.int n), .d (.int s), .d (.dic F), .d (.int (i : Nat)), .d (.str o.one), .d (.int z), x7, .un] := by
      generalize o.one = oo at *
      generalize (i : Int) = ii at *
      simp [seq_bNil, bSeq, bNil, sAsg, sAsgO, setO, setD, sIf, sRet, sDrop, sFor, sApp, fC, fVar, fBin, fLate, slotD, fTst, boolD, fAnd, fOr, fNot, fUn, negD, fIf, fBlt, fLenN, fTup, fO, oLst, aNil, aCons, fSl, pNone, pSome, intD, fPop, ownAt, iSeq, iRange1, iRange2, iEnum1, cmpI, ltD, leD, gtD, geD, lenL, gUn, tsCons, tsNil, List.getElem?_cons_zero, List.getElem?_cons_succ, List.set_cons_zero, List.set_cons_succ, List.length_cons, List.length_nil, e1]
    simp only [Pt.d]
    rw [bSeq_app, sIf_f t1, okPt_i]
    have q1 := eq_str o.one "t"
    have q2 := eq_str o.one "n"
    have q3 := eq_str o.one "s"
    have l1 : ltD (.int z) (.int 0) = some (.bl (decide (z < 0))) := rfl
    have l2 : geD (.int z) (.int n) = some (.bl (decide (n ≤ z))) := rfl
    have l3 : geD (.int z) (.int s) = some (.bl (decide (s ≤ z))) := rfl
    clear t1 sp
    generalize decide (o.one = ("t" : Str)) = b1 at *
    generalize decide (o.one = ("n" : Str)) = b2 at *
    generalize decide (o.one = ("s" : Str)) = b3 at *
    generalize decide (z < 0) = b4 at *
    generalize decide (n ≤ z) = b5 at *
    generalize decide (s ≤ z) = b6 at *
    generalize o.one = oo at *
    generalize (i : Int) = ii at *
    cases b1 <;> cases b4 <;> cases b2 <;> cases b5 <;> cases b3 <;> cases b6 <;> simp [seq_bNil, bSeq, bNil, sIf, sRet, fOr, fAnd, fTst, fLate, fBin, fVar, fC, slotD, boolD, q1, q2, q3, l1, l2, l3]
theorem good_rule_is (r : Rl) (n s : Int) (hl : r.ps.length ≤ 1000) (hx : ∀ p ∈ r.ps, ∀ x, p = .s x → x.length ≤ 1000) : den__law_good_rule [r.d, .int n, .int s] = .ok (.bl (goodR n s r)) := by
  have hlim : (5000 : Nat) < lim := by decide
  unfold den__law_good_rule
  rw [fnD_app (ds := [r.d, .int n, .int s]) (by rfl : _ = 3)]
  show (bod__law_good_rule [.d r.d, .d (.int n), .d (.int s), .un, .un, .un, .un, .un, .un]).fin = _
  rw [lg_is]
  have e1 : lg1 [.d r.d, .d (.int n), .d (.int s), .un, .un, .un, .un, .un, .un] = .nx [.d r.d, .d (.int n), .d (.int s), .d (.dic (kSS short)), .un, .un, .un, .un, .un] := rfl
  rw [bSeq_app, e1, Fl.seq_nx]
  have s0 := sub0_is r
  have lr := lenR_is r
  unfold goodR
  rcases forms_is r.k with ⟨f1, _, f3⟩ | ⟨q, f1, _, f3, f4⟩
  · rw [f1]
    have g : dGet (.dic (kSS short)) (.k (.inr r.k)) = some none := by
      show some (aGet (kSS short) (.inr r.k)) = _
      rw [aGet_kSS, f3]
      rfl
    unfold lg2
    generalize r.d = RD at *
    generalize kSS short = F at *
    simp [seq_bNil, bSeq, bNil, sAsg, sAsgO, setO, setD, sIf, sRet, sDrop, sFor, sApp, fC, fVar, fBin, fLate, slotD, fTst, boolD, fAnd, fOr, fNot, fUn, negD, fIf, fBlt, fLenN, fTup, fO, oLst, aNil, aCons, fSl, pNone, pSome, intD, fPop, ownAt, iSeq, iRange1, iRange2, iEnum1, cmpI, ltD, leD, gtD, geD, lenL, gUn, tsCons, tsNil, List.getElem?_cons_zero, List.getElem?_cons_succ, List.set_cons_zero, List.set_cons_succ, List.length_cons, List.length_nil, fInD, kOf, toKey, s0, g, nB, Fl.fin]
  · rw [f1]
    show _ = FR.ok (.bl (decide (r.ps.length = q.length) && (q.zip r.ps).all fun x => okPt n s x.1 x.2))
    have g := sub_forms f3
    have lw : lenOf (.str (word q)) = some (.int (q.length : Nat)) := by
      have : (tx (word q)).length = q.length := by
        unfold tx word
        simp
      rw [len_str (by rw [← tx_len, this]; omega), this]
    have aq : addD (.int (q.length : Nat)) (.int 1) = some (.int ((q.length + 1 : Nat) : Int)) := rfl
    have hne : neD (.int ((r.ps.length + 1 : Nat) : Int)) (.int ((q.length + 1 : Nat) : Int)) = some (.bl (!decide (r.ps.length = q.length))) := by
      rw [ne_int]
      congr 3
      simp only [decide_eq_decide]
      omega
    by_cases hq : r.ps.length = q.length
    · rw [decide_eq_true hq, Bool.true_and]
      rw [decide_eq_true hq] at hne
      have e2 : lg2 [.d r.d, .d (.int n), .d (.int s), .d (.dic (kSS short)), .un, .un, .un, .un, .un] = .nx [.d r.d, .d (.int n), .d (.int s), .d (.dic (kSS short)), .un, .un, .un, .un, .un] := by
        unfold lg2
        generalize r.d = RD at *
        generalize kSS short = F at *
        generalize ((r.ps.length + 1 : Nat) : Int) = rj at *
        generalize ((q.length + 1 : Nat) : Int) = qj at *
        generalize (q.length : Int) = qi at *
        generalize word q = w at *
        simp [seq_bNil, bSeq, bNil, sAsg, sAsgO, setO, setD, sIf, sRet, sDrop, sFor, sApp, fC, fVar, fBin, fLate, slotD, fTst, boolD, fAnd, fOr, fNot, fUn, negD, fIf, fBlt, fLenN, fTup, fO, oLst, aNil, aCons, fSl, pNone, pSome, intD, fPop, ownAt, iSeq, iRange1, iRange2, iEnum1, cmpI, ltD, leD, gtD, geD, lenL, gUn, tsCons, tsNil, List.getElem?_cons_zero, List.getElem?_cons_succ, List.set_cons_zero, List.set_cons_succ, List.length_cons, List.length_nil, fInD, fSubDk, kOf, toKey, s0, g, nB, lr, lw, aq, hne]
      rw [bSeq_app, e2, Fl.seq_nx]
      have hR : okR (r.ps.length : Nat) = true := okR_nat (Nat.lt_of_le_of_lt hl (by decide))
      have sb : subI (.int ((r.ps.length + 1 : Nat) : Int)) (.int 1) = some (.int (r.ps.length : Nat)) := by
        show some (D.int (((r.ps.length + 1 : Nat) : Int) - 1)) = _
        congr 2
        omega
      have e3 : lg3 [.d r.d, .d (.int n), .d (.int s), .d (.dic (kSS short)), .un, .un, .un, .un, .un] = forD (setD 4) lgLoop (dRange 0 r.ps.length) [.d r.d, .d (.int n), .d (.int s), .d (.dic (kSS short)), .un, .un, .un, .un, .un] := by
        unfold lg3
        generalize lgLoop = L
        generalize r.d = RD at *
        generalize kSS short = F at *
        generalize ((r.ps.length + 1 : Nat) : Int) = rj at *
        simp [seq_bNil, bSeq, bNil, sAsg, sAsgO, setO, setD, sIf, sRet, sDrop, sFor, sApp, fC, fVar, fBin, fLate, slotD, fTst, boolD, fAnd, fOr, fNot, fUn, negD, fIf, fBlt, fLenN, fTup, fO, oLst, aNil, aCons, fSl, pNone, pSome, intD, fPop, ownAt, iSeq, iRange1, iRange2, iEnum1, cmpI, ltD, leD, gtD, geD, lenL, gUn, tsCons, tsNil, List.getElem?_cons_zero, List.getElem?_cons_succ, List.set_cons_zero, List.set_cons_succ, List.length_cons, List.length_nil, lr, sb, hR]
      rw [bSeq_app, e3]
      have hall : (q.zip r.ps).all (fun x => okPt n s x.1 x.2) = true ↔ ∀ i, (h : i < r.ps.length) → okPt n s (q[i]'(by omega)) r.ps[i] = true := by
        rw [List.all_eq_true]
        constructor
        · intro h i hi
          have hm : (q.zip r.ps)[i]'(by rw [List.length_zip]; omega) ∈ q.zip r.ps := List.getElem_mem _
          have := h _ hm
          rw [List.getElem_zip] at this
          exact this
        · intro h x hm
          obtain ⟨i, hi, rfl⟩ := List.mem_iff_getElem.mp hm
          rw [List.length_zip] at hi
          rw [List.getElem_zip]
          exact h i (by omega)
      have sc := forD_scan (g := setD 4) (f := lgLoop) (lgI r n s) (fun i => if h : i < r.ps.length then okPt n s (q[i]'(by omega)) r.ps[i] else true) (fun _ z => z = .rt (.bl false)) (fun i z h => .inl ⟨_, h⟩) (ds := dRange 0 r.ps.length) (ρ := [.d r.d, .d (.int n), .d (.int s), .d (.dic (kSS short)), .un, .un, .un, .un, .un]) (fun i d ρ hd hi => by
        obtain ⟨h1, rfl⟩ := dRange_inv0 hd
        simp only [h1, dite_true]
        exact lg_step f4 hq hx f3 h1 hi) ⟨_, _, _, _, rfl⟩
      rcases sc with ⟨ha, ρ', e, _⟩ | ⟨i, hi, hb, _, e⟩
      · rw [dRange_len] at ha
        have : (q.zip r.ps).all (fun x => okPt n s x.1 x.2) = true := hall.mpr fun i h => by
          have := ha i h
          simpa only [h, dite_true] using this
        rw [this, e]
        rfl
      · rw [dRange_len] at hi
        simp only [hi, dite_true] at hb
        have : (q.zip r.ps).all (fun x => okPt n s x.1 x.2) = false := by
          rw [← Bool.not_eq_true]
          intro z
          rw [hall.mp z i hi] at hb
          cases hb
        rw [this, e]
        rfl
    · have hd : decide (r.ps.length = q.length) = false := by simpa using hq
      rw [hd, Bool.false_and]
      rw [hd] at hne
      unfold lg2
      generalize r.d = RD at *
      generalize kSS short = F at *
      generalize ((r.ps.length + 1 : Nat) : Int) = rj at *
      generalize ((q.length + 1 : Nat) : Int) = qj at *
      generalize (q.length : Int) = qi at *
      generalize word q = w at *
      simp [seq_bNil, bSeq, bNil, sAsg, sAsgO, setO, setD, sIf, sRet, sDrop, sFor, sApp, fC, fVar, fBin, fLate, slotD, fTst, boolD, fAnd, fOr, fNot, fUn, negD, fIf, fBlt, fLenN, fTup, fO, oLst, aNil, aCons, fSl, pNone, pSome, intD, fPop, ownAt, iSeq, iRange1, iRange2, iEnum1, cmpI, ltD, leD, gtD, geD, lenL, gUn, tsCons, tsNil, List.getElem?_cons_zero, List.getElem?_cons_succ, List.set_cons_zero, List.set_cons_succ, List.length_cons, List.length_nil, fInD, fSubDk, kOf, toKey, s0, g, nB, lr, lw, aq, hne, Fl.fin]
end G
set_option Elab.async false
set_option linter.all false
set_option maxRecDepth 100000
set_option maxHeartbeats 4000000
/-! C19: the answer that is due, and the answer of the program. -/
namespace G
open PySem PySem.Spec L2 PD
structure OkR (r : Rl) : Prop where
  l : r.ps.length ≤ 100
  x : ∀ p ∈ r.ps, ∀ x, p = .s x → x.length ≤ 1000
def fbad (n s : Int) : List Rl → Nat → Option Nat
  | [], _ => none
  | r :: t, i => if goodR n s r = true then fbad n s t (i + 1) else some i
theorem fbad_none {n s : Int} : ∀ {rs : List Rl} {k : Nat}, (∀ i, (h : i < rs.length) → goodR n s rs[i] = true) → fbad n s rs k = none
  | [], _, _ => rfl
  | r :: t, k, h => by
    unfold fbad
    have h0 : goodR n s r = true := h 0 (Nat.zero_lt_succ _)
    rw [if_pos h0, fbad_none fun i hi => h (i + 1) (Nat.succ_lt_succ hi)]
theorem fbad_some {n s : Int} : ∀ {rs : List Rl} {k i : Nat} (hi : i < rs.length), goodR n s rs[i] = false → (∀ j, (h : j < i) → goodR n s (rs[j]'(by omega)) = true) → fbad n s rs k = some (k + i)
  | r :: t, k, 0, hi, hb, _ => by
    unfold fbad
    have hb' : goodR n s r = false := hb
    rw [hb']
    rfl
  | r :: t, k, i + 1, hi, hb, hj => by
    unfold fbad
    have h0 : goodR n s r = true := hj 0 (Nat.zero_lt_succ _)
    rw [if_pos h0, fbad_some (rs := t) (k := k + 1) (i := i) (Nat.lt_of_succ_lt_succ hi) hb fun j h => hj (j + 1) (Nat.succ_lt_succ h)]
    congr 1
    omega
def many (m : Int) : D := .tup [.str "many", .int m]
def ansD (n s : Int) (rs : List Rl) : D :=
  if 300 < n then many 300 else if 900 < rs.length then many 900 else if 300 < s then many 300 else match fbad n s rs 0 with
    | some i => .tup [.str "rule", .int (i : Nat)]
    | none => .tup [.str "made", .bl true, .lst [.str "stacks", .str "stacks"], .int n, .int s, .tup (rs.map Rl.d)]
theorem subR {rs : List Rl} {i : Nat} (h : i < rs.length) : subD (.lst (rs.map Rl.d)) (.int (i : Nat)) = some rs[i].d := subL_at Rl.d h
def ld1 : En → Fl := (sIf (fTst boolD (fBin gtD (fVar 0) (fC (.int 300)))) (bSeq (sRet (fTup (aCons (fC (.str "many")) (aCons (fC (.int 300)) aNil)))) bNil) bNil)
def ld2 : En → Fl := (sIf (fTst boolD (fBin gtD (fLenN 2) (fC (.int 900)))) (bSeq (sRet (fTup (aCons (fC (.str "many")) (aCons (fC (.int 900)) aNil)))) bNil) bNil)
def ld3 : En → Fl := (sIf (fTst boolD (fBin gtD (fVar 1) (fC (.int 300)))) (bSeq (sRet (fTup (aCons (fC (.str "many")) (aCons (fC (.int 300)) aNil)))) bNil) bNil)
def ldLoop : En → Fl := (bSeq (sIf (fNot (fTst boolD (fCall den__law_good_rule (aCons (fLate 2 subD (fVar 3)) (aCons (fVar 0) (aCons (fVar 1) aNil))) []))) (bSeq (sRet (fTup (aCons (fC (.str "rule")) (aCons (fVar 3) aNil)))) bNil) bNil) bNil)
def ld4 : En → Fl := (sFor (iRange1 (aCons (fLenN 2) aNil)) (setD 3) ldLoop)
def ld5 : En → Fl := (sRet (fTup (aCons (fC (.str "made")) (aCons (fC (.bl true)) (aCons (fO (oLst (aCons (fC (.str "stacks")) (aCons (fC (.str "stacks")) aNil)))) (aCons (fVar 0) (aCons (fVar 1) (aCons (fBlt tupleL (aCons (fVar 2) aNil)) aNil))))))))
theorem ld_is : bod__law_due_answer = (bSeq ld1 (bSeq ld2 (bSeq ld3 (bSeq ld4 (bSeq ld5 bNil))))) := rfl
theorem due_is {n s : Int} {rs : List Rl} (hl : rs.length ≤ 1000) (hr : ∀ r ∈ rs, OkR r) : den__law_due_answer [.int n, .int s, .lst (rs.map Rl.d)] = .ok (ansD n s rs) := by
  have hlim : (5000 : Nat) < lim := by decide
  have h2 : 2 ≤ lim := by decide
  have st : den__law_due_answer [.int n, .int s, .lst (rs.map Rl.d)] = (bod__law_due_answer [.d (.int n), .d (.int s), .d (.lst (rs.map Rl.d)), .un]).fin := rfl
  rw [st, ld_is]
  have ln : lenOf (.lst (rs.map Rl.d)) = some (.int (rs.length : Nat)) := len_map _ _
  have gt : gtD (.int (rs.length : Nat)) (.int 900) = some (.bl (decide (900 < rs.length))) := by
    show some (D.bl (decide ((rs.length : Int) > 900))) = _
    congr 2
    simp only [decide_eq_decide]
    omega
  have hR : okR (rs.length : Nat) = true := okR_nat (Nat.lt_of_le_of_lt hl (by decide))
  have e4 : ld4 [.d (.int n), .d (.int s), .d (.lst (rs.map Rl.d)), .un] = forD (setD 3) ldLoop (dRange 0 rs.length) [.d (.int n), .d (.int s), .d (.lst (rs.map Rl.d)), .un] := by
    unfold ld4
    generalize ldLoop = L
    generalize rs.map Rl.d = RD at *
    simp [seq_bNil, bSeq, bNil, sAsg, sAsgO, setO, setD, sIf, sRet, sDrop, sFor, sApp, fC, fVar, fBin, fLate, slotD, fTst, boolD, fAnd, fOr, fNot, fUn, negD, fIf, fBlt, fLenN, fTup, fO, oLst, aNil, aCons, fSl, pNone, pSome, intD, fPop, ownAt, iSeq, iRange1, iRange2, iEnum1, cmpI, ltD, leD, gtD, geD, lenL, gUn, tsCons, tsNil, List.getElem?_cons_zero, List.getElem?_cons_succ, List.set_cons_zero, List.set_cons_succ, List.length_cons, List.length_nil, ln, hR]
  have sc := forD_scan (g := setD 3) (f := ldLoop) (fun ρ => ∃ x3, ρ = [.d (.int n), .d (.int s), .d (.lst (rs.map Rl.d)), x3]) (fun i => if h : i < rs.length then goodR n s rs[i] else true) (fun i z => z = .rt (.tup [.str "rule", .int (i : Nat)])) (fun i z h => .inl ⟨_, h⟩) (ds := dRange 0 rs.length) (ρ := [.d (.int n), .d (.int s), .d (.lst (rs.map Rl.d)), .un]) (fun i d ρ hd hi => by
    obtain ⟨x3, rfl⟩ := hi
    obtain ⟨h1, rfl⟩ := dRange_inv0 hd
    simp only [h1, dite_true]
    have sr := subR h1
    have ok := hr _ (List.getElem_mem h1)
    have g := good_rule_is rs[i] n s (by have := ok.l; omega) ok.x
    unfold ldLoop
    generalize rs[i].d = rd at *
    generalize rs.map Rl.d = RD at *
    generalize den__law_good_rule = dg at *
    generalize (i : Int) = ii at *
    cases hg : goodR n s rs[i]
    · right
      rw [hg] at g
      simp [seq_bNil, bSeq, bNil, sAsg, sAsgO, setO, setD, sIf, sRet, sDrop, sFor, sApp, fC, fVar, fBin, fLate, slotD, fTst, boolD, fAnd, fOr, fNot, fUn, negD, fIf, fBlt, fLenN, fTup, fO, oLst, aNil, aCons, fSl, pNone, pSome, intD, fPop, ownAt, iSeq, iRange1, iRange2, iEnum1, cmpI, ltD, leD, gtD, geD, lenL, gUn, tsCons, tsNil, List.getElem?_cons_zero, List.getElem?_cons_succ, List.set_cons_zero, List.set_cons_succ, List.length_cons, List.length_nil, fCall, sr, g, h2]
    · left
      rw [hg] at g
      simp [seq_bNil, bSeq, bNil, sAsg, sAsgO, setO, setD, sIf, sRet, sDrop, sFor, sApp, fC, fVar, fBin, fLate, slotD, fTst, boolD, fAnd, fOr, fNot, fUn, negD, fIf, fBlt, fLenN, fTup, fO, oLst, aNil, aCons, fSl, pNone, pSome, intD, fPop, ownAt, iSeq, iRange1, iRange2, iEnum1, cmpI, ltD, leD, gtD, geD, lenL, gUn, tsCons, tsNil, List.getElem?_cons_zero, List.getElem?_cons_succ, List.set_cons_zero, List.set_cons_succ, List.length_cons, List.length_nil, fCall, sr, g]) ⟨_, rfl⟩
  unfold ansD
  by_cases h1 : 300 < n
  · rw [if_pos h1]
    unfold ld1 many
    generalize rs.map Rl.d = RD at *
    simp [seq_bNil, bSeq, bNil, sAsg, sAsgO, setO, setD, sIf, sRet, sDrop, sFor, sApp, fC, fVar, fBin, fLate, slotD, fTst, boolD, fAnd, fOr, fNot, fUn, negD, fIf, fBlt, fLenN, fTup, fO, oLst, aNil, aCons, fSl, pNone, pSome, intD, fPop, ownAt, iSeq, iRange1, iRange2, iEnum1, cmpI, ltD, leD, gtD, geD, lenL, gUn, tsCons, tsNil, List.getElem?_cons_zero, List.getElem?_cons_succ, List.set_cons_zero, List.set_cons_succ, List.length_cons, List.length_nil, h1, h2, Fl.fin]
  have e1 : ld1 [.d (.int n), .d (.int s), .d (.lst (rs.map Rl.d)), .un] = .nx [.d (.int n), .d (.int s), .d (.lst (rs.map Rl.d)), .un] := by
    unfold ld1
    generalize rs.map Rl.d = RD at *
    simp [seq_bNil, bSeq, bNil, sAsg, sAsgO, setO, setD, sIf, sRet, sDrop, sFor, sApp, fC, fVar, fBin, fLate, slotD, fTst, boolD, fAnd, fOr, fNot, fUn, negD, fIf, fBlt, fLenN, fTup, fO, oLst, aNil, aCons, fSl, pNone, pSome, intD, fPop, ownAt, iSeq, iRange1, iRange2, iEnum1, cmpI, ltD, leD, gtD, geD, lenL, gUn, tsCons, tsNil, List.getElem?_cons_zero, List.getElem?_cons_succ, List.set_cons_zero, List.set_cons_succ, List.length_cons, List.length_nil, h1]
  rw [if_neg h1, bSeq_app, e1, Fl.seq_nx]
  by_cases h3 : 900 < rs.length
  · rw [if_pos h3]
    rw [decide_eq_true h3] at gt
    unfold ld2 many
    generalize rs.map Rl.d = RD at *
    generalize (rs.length : Int) = rl at *
    simp [seq_bNil, bSeq, bNil, sAsg, sAsgO, setO, setD, sIf, sRet, sDrop, sFor, sApp, fC, fVar, fBin, fLate, slotD, fTst, boolD, fAnd, fOr, fNot, fUn, negD, fIf, fBlt, fLenN, fTup, fO, oLst, aNil, aCons, fSl, pNone, pSome, intD, fPop, ownAt, iSeq, iRange1, iRange2, iEnum1, lenL, gUn, tsCons, tsNil, List.getElem?_cons_zero, List.getElem?_cons_succ, List.set_cons_zero, List.set_cons_succ, List.length_cons, List.length_nil, ln, gt, h2, Fl.fin]
  rw [decide_eq_false h3] at gt
  have e2 : ld2 [.d (.int n), .d (.int s), .d (.lst (rs.map Rl.d)), .un] = .nx [.d (.int n), .d (.int s), .d (.lst (rs.map Rl.d)), .un] := by
    unfold ld2
    generalize rs.map Rl.d = RD at *
    generalize (rs.length : Int) = rl at *
    simp [seq_bNil, bSeq, bNil, sAsg, sAsgO, setO, setD, sIf, sRet, sDrop, sFor, sApp, fC, fVar, fBin, fLate, slotD, fTst, boolD, fAnd, fOr, fNot, fUn, negD, fIf, fBlt, fLenN, fTup, fO, oLst, aNil, aCons, fSl, pNone, pSome, intD, fPop, ownAt, iSeq, iRange1, iRange2, iEnum1, lenL, gUn, tsCons, tsNil, List.getElem?_cons_zero, List.getElem?_cons_succ, List.set_cons_zero, List.set_cons_succ, List.length_cons, List.length_nil, ln, gt]
  rw [if_neg h3, bSeq_app, e2, Fl.seq_nx]
  by_cases h4 : 300 < s
  · rw [if_pos h4]
    unfold ld3 many
    generalize rs.map Rl.d = RD at *
    simp [seq_bNil, bSeq, bNil, sAsg, sAsgO, setO, setD, sIf, sRet, sDrop, sFor, sApp, fC, fVar, fBin, fLate, slotD, fTst, boolD, fAnd, fOr, fNot, fUn, negD, fIf, fBlt, fLenN, fTup, fO, oLst, aNil, aCons, fSl, pNone, pSome, intD, fPop, ownAt, iSeq, iRange1, iRange2, iEnum1, cmpI, ltD, leD, gtD, geD, lenL, gUn, tsCons, tsNil, List.getElem?_cons_zero, List.getElem?_cons_succ, List.set_cons_zero, List.set_cons_succ, List.length_cons, List.length_nil, h4, h2, Fl.fin]
  have e3 : ld3 [.d (.int n), .d (.int s), .d (.lst (rs.map Rl.d)), .un] = .nx [.d (.int n), .d (.int s), .d (.lst (rs.map Rl.d)), .un] := by
    unfold ld3
    generalize rs.map Rl.d = RD at *
    simp [seq_bNil, bSeq, bNil, sAsg, sAsgO, setO, setD, sIf, sRet, sDrop, sFor, sApp, fC, fVar, fBin, fLate, slotD, fTst, boolD, fAnd, fOr, fNot, fUn, negD, fIf, fBlt, fLenN, fTup, fO, oLst, aNil, aCons, fSl, pNone, pSome, intD, fPop, ownAt, iSeq, iRange1, iRange2, iEnum1, cmpI, ltD, leD, gtD, geD, lenL, gUn, tsCons, tsNil, List.getElem?_cons_zero, List.getElem?_cons_succ, List.set_cons_zero, List.set_cons_succ, List.length_cons, List.length_nil, h4]
  rw [if_neg h4, bSeq_app, e3, Fl.seq_nx, bSeq_app, e4]
  rcases sc with ⟨ha, ρ', e, x3, rfl⟩ | ⟨i, hi, hb, hj, e⟩
  · rw [dRange_len] at ha
    rw [fbad_none fun i h => by
      have := ha i h
      simpa only [h, dite_true] using this, e, Fl.seq_nx]
    rfl
  · rw [dRange_len] at hi
    simp only [hi, dite_true] at hb
    rw [fbad_some hi hb fun j h => by
      have := hj j h
      have hl : j < rs.length := by omega
      simpa only [hl, dite_true] using this, e, Nat.zero_add]
    rfl
/-! ### the grammar is made -/
def gram (n s : Int) (rs : List Rl) : M := .ins "StackGrammar" [("names", .fz (.int n)), ("rules", .fz (.tup (rs.map Rl.d))), ("signs", .fz (.int s))]
def gi1 : En → Fl := (sIf (fTst boolD (fBin gtD (fVar 1) (fC (.int 300)))) (bSeq (fRaise1 "TooMany" "limit" (aCons (fC (.int 300)) aNil)) bNil) bNil)
def gi2 : En → Fl := (sIf (fTst boolD (fBin gtD (fStD (fLenN 2)) (fC (.int 900)))) (bSeq (fRaise1 "TooMany" "limit" (aCons (fC (.int 900)) aNil)) bNil) bNil)
def gi3 : En → Fl := (sFldM "StackGrammar" "names" 0 (lName 0) (mFz (fVar 1)))
def gi4 : En → Fl := (sFldM "StackGrammar" "rules" 0 (lName 0) (mFz (fTupN 2)))
theorem gi_is : bod_Grammar_init_StackGrammar = (bSeq gi1 (bSeq gi2 (bSeq gi3 (bSeq gi4 bNil)))) := rfl
theorem base_is (n : Int) (L : List D) : den_Grammar_init_StackGrammar [.mt (.ins "StackGrammar" []), .d (.int n), .ln L] =
    if 300 < n then .exc ⟨"TooMany", [("limit", .int 300)]⟩ else if 900 < L.length then .exc ⟨"TooMany", [("limit", .int 900)]⟩ else .ok (.ins "StackGrammar" [("names", .fz (.int n)), ("rules", .fz (.tup L))]) := by
  have st : den_Grammar_init_StackGrammar [.mt (.ins "StackGrammar" []), .d (.int n), .ln L] = (bod_Grammar_init_StackGrammar [.mt (.ins "StackGrammar" []), .d (.int n), .ln L]).finI := rfl
  rw [st, gi_is]
  by_cases h1 : 300 < n
  · have e : gi1 [.mt (.ins "StackGrammar" []), .d (.int n), .ln L] = .exc ⟨"TooMany", [("limit", .int 300)]⟩ [.mt (.ins "StackGrammar" []), .d (.int n), .ln L] := by
      unfold gi1
      simp [seq_bNil, bSeq, bNil, sAsg, sAsgO, setO, setD, sIf, sRet, sDrop, sFor, sApp, fC, fVar, fBin, fLate, slotD, fTst, boolD, fAnd, fOr, fNot, fUn, negD, fIf, fBlt, fLenN, fTup, fO, oLst, aNil, aCons, fSl, pNone, pSome, intD, fPop, ownAt, iSeq, iRange1, iRange2, iEnum1, cmpI, ltD, leD, gtD, geD, lenL, gUn, tsCons, tsNil, List.getElem?_cons_zero, List.getElem?_cons_succ, List.set_cons_zero, List.set_cons_succ, List.length_cons, List.length_nil, h1, fRaise1]
    rw [if_pos h1, bSeq_app, e]
    rfl
  have e1 : gi1 [.mt (.ins "StackGrammar" []), .d (.int n), .ln L] = .nx [.mt (.ins "StackGrammar" []), .d (.int n), .ln L] := by
    unfold gi1
    simp [seq_bNil, bSeq, bNil, sAsg, sAsgO, setO, setD, sIf, sRet, sDrop, sFor, sApp, fC, fVar, fBin, fLate, slotD, fTst, boolD, fAnd, fOr, fNot, fUn, negD, fIf, fBlt, fLenN, fTup, fO, oLst, aNil, aCons, fSl, pNone, pSome, intD, fPop, ownAt, iSeq, iRange1, iRange2, iEnum1, cmpI, ltD, leD, gtD, geD, lenL, gUn, tsCons, tsNil, List.getElem?_cons_zero, List.getElem?_cons_succ, List.set_cons_zero, List.set_cons_succ, List.length_cons, List.length_nil, h1]
  rw [if_neg h1, bSeq_app, e1, Fl.seq_nx]
  have hl : fStD (fLenN 2) [.mt (.ins "StackGrammar" []), .d (.int n), .ln L] = .ok (.int (L.length : Nat)) [.mt (.ins "StackGrammar" []), .d (.int n), .ln L] := by rfl
  have gt : gtD (.int (L.length : Nat)) (.int 900) = some (.bl (decide (900 < L.length))) := by
    show some (D.bl (decide ((L.length : Int) > 900))) = _
    congr 2
    simp only [decide_eq_decide]
    omega
  by_cases h2 : 900 < L.length
  · rw [decide_eq_true h2] at gt
    have e : gi2 [.mt (.ins "StackGrammar" []), .d (.int n), .ln L] = .exc ⟨"TooMany", [("limit", .int 900)]⟩ [.mt (.ins "StackGrammar" []), .d (.int n), .ln L] := by
      unfold gi2
      generalize (L.length : Int) = k at *
      simp [seq_bNil, bSeq, bNil, sAsg, sAsgO, setO, setD, sIf, sRet, sDrop, sFor, sApp, fC, fVar, fBin, fLate, slotD, fTst, boolD, fAnd, fOr, fNot, fUn, negD, fIf, fBlt, fLenN, fTup, fO, oLst, aNil, aCons, fSl, pNone, pSome, intD, fPop, ownAt, iSeq, iRange1, iRange2, iEnum1, lenL, gUn, tsCons, tsNil, List.getElem?_cons_zero, List.getElem?_cons_succ, List.set_cons_zero, List.set_cons_succ, List.length_cons, List.length_nil, hl, gt, fRaise1]
    rw [if_pos h2, bSeq_app, e]
    rfl
  rw [decide_eq_false h2] at gt
  have e2 : gi2 [.mt (.ins "StackGrammar" []), .d (.int n), .ln L] = .nx [.mt (.ins "StackGrammar" []), .d (.int n), .ln L] := by
    unfold gi2
    generalize (L.length : Int) = k at *
    simp [seq_bNil, bSeq, bNil, sAsg, sAsgO, setO, setD, sIf, sRet, sDrop, sFor, sApp, fC, fVar, fBin, fLate, slotD, fTst, boolD, fAnd, fOr, fNot, fUn, negD, fIf, fBlt, fLenN, fTup, fO, oLst, aNil, aCons, fSl, pNone, pSome, intD, fPop, ownAt, iSeq, iRange1, iRange2, iEnum1, lenL, gUn, tsCons, tsNil, List.getElem?_cons_zero, List.getElem?_cons_succ, List.set_cons_zero, List.set_cons_succ, List.length_cons, List.length_nil, hl, gt]
  rw [if_neg h2, bSeq_app, e2, Fl.seq_nx]
  rfl
def si1 : En → Fl := (sIf (fTst boolD (fBin gtD (fVar 2) (fC (.int 300)))) (bSeq (fRaise1 "TooMany" "limit" (aCons (fC (.int 300)) aNil)) bNil) bNil)
def siTg : D → En → Fl := (gUn 2 (tsCons (setD 4) (tsCons (setD 5) tsNil)))
def siLoop : En → Fl := (bSeq (sIf (fNot (fTst boolD (fCall den_is_stack_rule (aCons (fVar 5) (aCons (fVar 1) (aCons (fVar 2) aNil))) []))) (bSeq (fRaise1 "BadRule" "place" (aCons (fVar 4) aNil)) bNil) bNil) bNil)
def si2 : En → Fl := (sFor (iEnum1 (aCons (fPlc 0 (lFld "StackGrammar" "rules" 0 (lName 0))) aNil)) siTg siLoop)
def si3 : En → Fl := (sFldM "StackGrammar" "signs" 0 (lName 0) (mFz (fVar 2)))
theorem si_is : bod_StackGrammar_init = (bSeq si1 (bSeq si2 (bSeq si3 bNil))) := rfl
def half (n : Int) (rs : List Rl) : M := .ins "StackGrammar" [("names", .fz (.int n)), ("rules", .fz (.tup (rs.map Rl.d)))]
theorem init_is {n s : Int} {rs : List Rl} (hr : ∀ r ∈ rs, OkR r) : den_StackGrammar_init [.mt (.ins "StackGrammar" []), .d (.int n), .d (.int s), .ln (rs.map Rl.d)] =
    if 300 < n then .exc ⟨"TooMany", [("limit", .int 300)]⟩ else if 900 < rs.length then .exc ⟨"TooMany", [("limit", .int 900)]⟩ else if 300 < s then .exc ⟨"TooMany", [("limit", .int 300)]⟩ else match fbad n s rs 0 with
      | some i => .exc ⟨"BadRule", [("place", .int (i : Nat))]⟩
      | none => .ok (gram n s rs) := by
  have st : den_StackGrammar_init [.mt (.ins "StackGrammar" []), .d (.int n), .d (.int s), .ln (rs.map Rl.d)] = (bSup "StackGrammar" den_Grammar_init_StackGrammar (laE (fVar 1) (laN 3 (fun ρ => .ok [] ρ))) [] bod_StackGrammar_init [.mt (.ins "StackGrammar" []), .d (.int n), .d (.int s), .ln (rs.map Rl.d), .un, .un]).finI := rfl
  have st2 : bSup "StackGrammar" den_Grammar_init_StackGrammar (laE (fVar 1) (laN 3 (fun ρ => .ok [] ρ))) [] bod_StackGrammar_init [.mt (.ins "StackGrammar" []), .d (.int n), .d (.int s), .ln (rs.map Rl.d), .un, .un] =
      (match den_Grammar_init_StackGrammar [.mt (.ins "StackGrammar" []), .d (.int n), .ln (rs.map Rl.d)] with
        | .ok m => bod_StackGrammar_init [.mt m, .d (.int n), .d (.int s), .ln (rs.map Rl.d), .un, .un]
        | .exc x => .exc x [.mt (.ins "StackGrammar" []), .d (.int n), .d (.int s), .ln (rs.map Rl.d), .un, .un]
        | .bad => .bad) := by
    unfold bSup
    simp only [List.getElem?_cons_zero, if_true]
    rfl
  rw [st, st2, base_is, List.length_map]
  by_cases h1 : 300 < n
  · rw [if_pos h1, if_pos h1]
    rfl
  rw [if_neg h1, if_neg h1]
  by_cases h2 : 900 < rs.length
  · rw [if_pos h2, if_pos h2]
    rfl
  rw [if_neg h2, if_neg h2]
  show (bod_StackGrammar_init [.mt (half n rs), .d (.int n), .d (.int s), .ln (rs.map Rl.d), .un, .un]).finI = _
  rw [si_is]
  by_cases h3 : 300 < s
  · have e : si1 [.mt (half n rs), .d (.int n), .d (.int s), .ln (rs.map Rl.d), .un, .un] = .exc ⟨"TooMany", [("limit", .int 300)]⟩ [.mt (half n rs), .d (.int n), .d (.int s), .ln (rs.map Rl.d), .un, .un] := by
      unfold si1
      generalize half n rs = h at *
      generalize rs.map Rl.d = RD at *
      simp [seq_bNil, bSeq, bNil, sAsg, sAsgO, setO, setD, sIf, sRet, sDrop, sFor, sApp, fC, fVar, fBin, fLate, slotD, fTst, boolD, fAnd, fOr, fNot, fUn, negD, fIf, fBlt, fLenN, fTup, fO, oLst, aNil, aCons, fSl, pNone, pSome, intD, fPop, ownAt, iSeq, iRange1, iRange2, iEnum1, cmpI, ltD, leD, gtD, geD, lenL, gUn, tsCons, tsNil, List.getElem?_cons_zero, List.getElem?_cons_succ, List.set_cons_zero, List.set_cons_succ, List.length_cons, List.length_nil, h3, fRaise1]
    rw [if_pos h3, bSeq_app, e]
    rfl
  have e1 : si1 [.mt (half n rs), .d (.int n), .d (.int s), .ln (rs.map Rl.d), .un, .un] = .nx [.mt (half n rs), .d (.int n), .d (.int s), .ln (rs.map Rl.d), .un, .un] := by
    unfold si1
    generalize half n rs = h at *
    generalize rs.map Rl.d = RD at *
    simp [seq_bNil, bSeq, bNil, sAsg, sAsgO, setO, setD, sIf, sRet, sDrop, sFor, sApp, fC, fVar, fBin, fLate, slotD, fTst, boolD, fAnd, fOr, fNot, fUn, negD, fIf, fBlt, fLenN, fTup, fO, oLst, aNil, aCons, fSl, pNone, pSome, intD, fPop, ownAt, iSeq, iRange1, iRange2, iEnum1, cmpI, ltD, leD, gtD, geD, lenL, gUn, tsCons, tsNil, List.getElem?_cons_zero, List.getElem?_cons_succ, List.set_cons_zero, List.set_cons_succ, List.length_cons, List.length_nil, h3]
  rw [if_neg h3, bSeq_app, e1, Fl.seq_nx, bSeq_app]
  have e2 : si2 [.mt (half n rs), .d (.int n), .d (.int s), .ln (rs.map Rl.d), .un, .un] = forD siTg siLoop (dEnum (rs.map Rl.d)) [.mt (half n rs), .d (.int n), .d (.int s), .ln (rs.map Rl.d), .un, .un] := rfl
  rw [e2]
  have hlen : (dEnum (rs.map Rl.d)).length = rs.length := by
    unfold dEnum
    rw [dEnumAux_len, List.length_map]
  have sc := forD_scan (g := siTg) (f := siLoop) (fun ρ => ∃ x4 x5, ρ = [.mt (half n rs), .d (.int n), .d (.int s), .ln (rs.map Rl.d), x4, x5]) (fun i => if h : i < rs.length then goodR n s rs[i] else true) (fun i z => ∃ ρ', z = .exc ⟨"BadRule", [("place", .int (i : Nat))]⟩ ρ') (fun i z h => .inr ⟨_, h⟩) (ds := dEnum (rs.map Rl.d)) (ρ := [.mt (half n rs), .d (.int n), .d (.int s), .ln (rs.map Rl.d), .un, .un]) (fun i d ρ hd hi => by
    obtain ⟨x4, x5, rfl⟩ := hi
    have h1 : i < rs.length := by rw [← hlen]; exact get_lt hd
    have hg := dEnumAux_get 0 (rs.map Rl.d) i rs[i].d (by rw [List.getElem?_map, List.getElem?_eq_getElem h1]; rfl)
    rw [Nat.zero_add] at hg
    have hd' : some d = some (.tup [.int (i : Nat), rs[i].d]) := by rw [← hd]; exact hg
    cases hd'
    simp only [h1, dite_true]
    have ok := hr _ (List.getElem_mem h1)
    have g := stack_rule_is rs[i] n s (by have := ok.l; omega)
    clear hd hg
    unfold siTg siLoop
    generalize rs[i].d = rd at *
    generalize half n rs = hh at *
    generalize rs.map Rl.d = RD at *
    generalize den_is_stack_rule = dg at *
    generalize (i : Int) = ii at *
    cases hg : goodR n s rs[i]
    · right
      rw [hg] at g
      simp [seq_bNil, bSeq, bNil, sAsg, sAsgO, setO, setD, sIf, sRet, sDrop, sFor, sApp, fC, fVar, fBin, fLate, slotD, fTst, boolD, fAnd, fOr, fNot, fUn, negD, fIf, fBlt, fLenN, fTup, fO, oLst, aNil, aCons, fSl, pNone, pSome, intD, fPop, ownAt, iSeq, iRange1, iRange2, iEnum1, cmpI, ltD, leD, gtD, geD, lenL, gUn, tsCons, tsNil, List.getElem?_cons_zero, List.getElem?_cons_succ, List.set_cons_zero, List.set_cons_succ, List.length_cons, List.length_nil, fCall, g, fRaise1]
    · left
      rw [hg] at g
      simp [seq_bNil, bSeq, bNil, sAsg, sAsgO, setO, setD, sIf, sRet, sDrop, sFor, sApp, fC, fVar, fBin, fLate, slotD, fTst, boolD, fAnd, fOr, fNot, fUn, negD, fIf, fBlt, fLenN, fTup, fO, oLst, aNil, aCons, fSl, pNone, pSome, intD, fPop, ownAt, iSeq, iRange1, iRange2, iEnum1, cmpI, ltD, leD, gtD, geD, lenL, gUn, tsCons, tsNil, List.getElem?_cons_zero, List.getElem?_cons_succ, List.set_cons_zero, List.set_cons_succ, List.length_cons, List.length_nil, fCall, g]) ⟨_, _, rfl⟩
  rcases sc with ⟨ha, ρ', e, x4, x5, rfl⟩ | ⟨i, hi, hb, hj, ρ', e⟩
  · rw [hlen] at ha
    rw [fbad_none fun i h => by
      have := ha i h
      simpa only [h, dite_true] using this, e, Fl.seq_nx]
    rfl
  · rw [hlen] at hi
    simp only [hi, dite_true] at hb
    rw [fbad_some hi hb fun j h => by
      have := hj j h
      have hl : j < rs.length := by omega
      simpa only [hl, dite_true] using this, e, Nat.zero_add]
    rfl
end G
set_option Elab.async false
set_option linter.all false
set_option maxRecDepth 100000
set_option maxHeartbeats 4000000
/-! D19: what the law is told. -/
namespace G
open PySem PySem.Spec L2 PD
theorem Pt.ok (p : Pt) : ok1 p.d := by
  cases p with
  | i z => exact ok1_int z
  | s x => exact ok1_str x
theorem Pt.dp (p : Pt) : D.dp p.d = 0 := by cases p <;> rfl
theorem Pt.sz (p : Pt) : D.sz p.d = 1 := by cases p <;> rfl
theorem Rl.ok (r : Rl) : ok1 r.d := by
  refine ok1_tup fun x hx => ?_
  rcases List.mem_cons.mp hx with rfl | hx
  · exact ok1_str _
  · obtain ⟨p, _, rfl⟩ := List.mem_map.mp hx
    exact p.ok
theorem Rl.dp (r : Rl) : D.dp r.d ≤ 1 := by
  have : D.dpL (.str r.k :: r.ps.map Pt.d) ≤ 0 := dpL_le fun x hx => by
    rcases List.mem_cons.mp hx with rfl | hx
    · exact Nat.le_refl _
    · obtain ⟨p, _, rfl⟩ := List.mem_map.mp hx
      rw [p.dp]
      exact Nat.le_refl _
  show D.dpL (.str r.k :: r.ps.map Pt.d) + 1 ≤ 1
  omega
theorem Rl.sz {r : Rl} (h : OkR r) : D.sz r.d ≤ 103 := by
  have h1 : D.szL (.str r.k :: r.ps.map Pt.d) ≤ 1 * (D.str r.k :: r.ps.map Pt.d).length := szL_le fun x hx => by
    rcases List.mem_cons.mp hx with rfl | hx
    · exact Nat.le_refl _
    · obtain ⟨p, _, rfl⟩ := List.mem_map.mp hx
      rw [p.sz]
      exact Nat.le_refl _
  rw [List.length_cons, List.length_map] at h1
  have h2 := h.l
  show 1 + D.szL (.str r.k :: r.ps.map Pt.d) ≤ 103
  omega
theorem rs_ok (rs : List Rl) : ∀ x ∈ rs.map Rl.d, ok1 x := fun x hx => by
  obtain ⟨r, _, rfl⟩ := List.mem_map.mp hx
  exact r.ok
theorem rs_dp (rs : List Rl) : D.dpL (rs.map Rl.d) ≤ 1 := dpL_le fun x hx => by
  obtain ⟨r, _, rfl⟩ := List.mem_map.mp hx
  exact r.dp
theorem rs_sz {rs : List Rl} (h : ∀ r ∈ rs, OkR r) : D.szL (rs.map Rl.d) ≤ 103 * rs.length := by
  have := szL_le (k := 103) (xs := rs.map Rl.d) fun x hx => by
    obtain ⟨r, hr, rfl⟩ := List.mem_map.mp hx
    exact Rl.sz (h r hr)
  rwa [List.length_map] at this
def lt1 : En → Fl := (sAsgO (oList (aCons (fVar 2) aNil)) 3)
def lt2 : En → Fl := (fTry 5 ex_Fault (bSeq (sAsg (fFrz (fMake "StackGrammar" den_StackGrammar_init (laE (fVar 0) (laE (fVar 1) (laN 3 (fun ρ => .ok [] ρ)))) [])) (setD 4)) bNil) (bSeq (sIf (fOr (fNot (fTst boolD (fIsE 5 is_ValueError))) (fTst boolD (fIsE 5 is_BadLine))) (bSeq (sRet (fTup (aCons (fC (.str "other")) (aCons (fC (.int 0)) aNil)))) bNil) bNil) (bSeq (sIf (fAnd (fTst boolD (fIsE 5 is_TooMany)) (fNot (fTst boolD (fIsE 5 is_BadRule)))) (bSeq (sRet (fTup (aCons (fC (.str "many")) (aCons (fXf 5 ok_limit "limit") aNil)))) bNil) bNil) (bSeq (sIf (fAnd (fTst boolD (fIsE 5 is_BadRule)) (fNot (fTst boolD (fIsE 5 is_TooMany)))) (bSeq (sRet (fTup (aCons (fC (.str "rule")) (aCons (fXf 5 ok_place "place") aNil)))) bNil) bNil) (bSeq (sRet (fTup (aCons (fC (.str "other")) (aCons (fC (.int 1)) aNil)))) bNil)))))
def lt3 : En → Fl := (sIf (fTst boolD (fLate 3 neD (fVar 2))) (bSeq (sRet (fTup (aCons (fC (.str "other")) (aCons (fC (.int 2)) aNil)))) bNil) bNil)
def lt4 : En → Fl := (sApp 3 (fTup (aCons (fC (.str "stop")) (aCons (fC (.int 0)) (aCons (fC (.str "zz")) aNil)))))
def lt5 : En → Fl := (sSetIx 3 (fTup (aCons (fC (.str "stop")) (aCons (fC (.int 0)) (aCons (fC (.str "z")) aNil)))) (fC (.int 0)))
def lt6 : En → Fl := (sAsgO (oLst (aCons (fCon "StackGrammar" "KIND" (.str "stacks") (fVar 4)) (aCons (fC (.str "stacks")) aNil))) 6)
def lt7 : En → Fl := (sRet (fTup (aCons (fC (.str "made")) (aCons (fIsI isI_Grammar (fVar 4)) (aCons (fVar 6) (aCons (fFldD "StackGrammar" "names" (fVar 4)) (aCons (fFldD "StackGrammar" "signs" (fVar 4)) (aCons (fFldD "StackGrammar" "rules" (fVar 4)) aNil))))))))
theorem lt_is : bod__law_told = (bSeq lt1 (bSeq lt2 (bSeq lt3 (bSeq lt4 (bSeq lt5 (bSeq lt6 (bSeq lt7 bNil))))))) := rfl
def gramD (n s : Int) (rs : List Rl) : D := .ins "StackGrammar" [("names", .int n), ("rules", .tup (rs.map Rl.d)), ("signs", .int s)]
theorem lt2_is (n s : Int) (rs : List Rl) : (bSeq (sAsg (fFrz (fMake "StackGrammar" den_StackGrammar_init (laE (fVar 0) (laE (fVar 1) (laN 3 (fun ρ => .ok [] ρ)))) [])) (setD 4)) bNil) [.d (.int n), .d (.int s), .d (.lst (rs.map Rl.d)), .own (rs.map Rl.d), .un, .un, .un] =
    (match den_StackGrammar_init [.mt (.ins "StackGrammar" []), .d (.int n), .d (.int s), .ln (rs.map Rl.d)] with
      | .ok m => .nx [.d (.int n), .d (.int s), .d (.lst (rs.map Rl.d)), .own (rs.map Rl.d), .d m.toD, .un, .un]
      | .exc x => .exc x [.d (.int n), .d (.int s), .d (.lst (rs.map Rl.d)), .own (rs.map Rl.d), .un, .un, .un]
      | .bad => .bad) := by
  generalize rs.map Rl.d = RD
  generalize hd : den_StackGrammar_init = dn
  have e : fMake "StackGrammar" dn (laE (fVar 0) (laE (fVar 1) (laN 3 (fun ρ => .ok [] ρ)))) [] [.d (.int n), .d (.int s), .d (.lst RD), .own RD, .un, .un, .un] = (match dn [.mt (.ins "StackGrammar" []), .d (.int n), .d (.int s), .ln RD] with
      | .ok m => .ok m [.d (.int n), .d (.int s), .d (.lst RD), .own RD, .un, .un, .un]
      | .exc x => .exc x [.d (.int n), .d (.int s), .d (.lst RD), .own RD, .un, .un, .un]
      | .bad => .bad) := rfl
  unfold bSeq sAsg fFrz
  rw [e]
  cases dn [.mt (.ins "StackGrammar" []), .d (.int n), .d (.int s), .ln RD] <;> rfl
theorem told_is {n s : Int} {rs : List Rl} (hl : rs.length ≤ 1000) (hr : ∀ r ∈ rs, OkR r) : den__law_told [.int n, .int s, .lst (rs.map Rl.d)] = .ok (ansD n s rs) := by
  have hlim : (5000 : Nat) < lim := by decide
  have h2 : 2 ≤ lim := by decide
  have st : den__law_told [.int n, .int s, .lst (rs.map Rl.d)] = (bod__law_told [.d (.int n), .d (.int s), .d (.lst (rs.map Rl.d)), .un, .un, .un, .un]).fin := rfl
  rw [st, lt_is]
  have hln : (rs.map Rl.d).length ≤ lim := by rw [List.length_map]; omega
  have e1 : lt1 [.d (.int n), .d (.int s), .d (.lst (rs.map Rl.d)), .un, .un, .un, .un] = .nx [.d (.int n), .d (.int s), .d (.lst (rs.map Rl.d)), .own (rs.map Rl.d), .un, .un, .un] := by
    unfold lt1
    generalize rs.map Rl.d = RD at *
    simp [seq_bNil, bSeq, bNil, sAsg, sAsgO, setO, setD, sIf, sRet, sDrop, sFor, sApp, fC, fVar, fBin, fLate, slotD, fTst, boolD, fAnd, fOr, fNot, fUn, negD, fIf, fBlt, fLenN, fTup, fO, oLst, aNil, aCons, fSl, pNone, pSome, intD, fPop, ownAt, iSeq, iRange1, iRange2, iEnum1, cmpI, ltD, leD, gtD, geD, lenL, gUn, tsCons, tsNil, List.getElem?_cons_zero, List.getElem?_cons_succ, List.set_cons_zero, List.set_cons_succ, List.length_cons, List.length_nil, oList, hln]
    rfl
  have i := init_is (n := n) (s := s) hr
  have l2 := lt2_is n s rs
  rw [i] at l2
  rw [bSeq_app, e1, Fl.seq_nx, bSeq_app]
  unfold ansD
  by_cases h1 : 300 < n
  · rw [if_pos h1] at l2 ⊢
    unfold lt2 fTry
    rw [l2]
    generalize rs.map Rl.d = RD at *
    rfl
  rw [if_neg h1] at l2 ⊢
  by_cases h3 : 900 < rs.length
  · rw [if_pos h3] at l2 ⊢
    unfold lt2 fTry
    rw [l2]
    generalize rs.map Rl.d = RD at *
    rfl
  rw [if_neg h3] at l2 ⊢
  by_cases h4 : 300 < s
  · rw [if_pos h4] at l2 ⊢
    unfold lt2 fTry
    rw [l2]
    generalize rs.map Rl.d = RD at *
    rfl
  rw [if_neg h4] at l2 ⊢
  cases hf : fbad n s rs 0 with
  | some i =>
    rw [hf] at l2
    unfold lt2 fTry
    rw [l2]
    generalize rs.map Rl.d = RD at *
    rfl
  | none =>
    rw [hf] at l2
    have e2 : lt2 [.d (.int n), .d (.int s), .d (.lst (rs.map Rl.d)), .own (rs.map Rl.d), .un, .un, .un] = .nx [.d (.int n), .d (.int s), .d (.lst (rs.map Rl.d)), .own (rs.map Rl.d), .d (gramD n s rs), .un, .un] := by
      unfold lt2 fTry
      rw [l2]
      rfl
    rw [e2, Fl.seq_nx]
    have ne : neD (.lst (rs.map Rl.d)) (.lst (rs.map Rl.d)) = some (.bl false) := ne_same (ok1_lst (rs_ok rs)) (by
      have := rs_dp rs
      show D.dpL (rs.map Rl.d) + 1 ≤ 60
      omega)
    have e3 : lt3 [.d (.int n), .d (.int s), .d (.lst (rs.map Rl.d)), .own (rs.map Rl.d), .d (gramD n s rs), .un, .un] = .nx [.d (.int n), .d (.int s), .d (.lst (rs.map Rl.d)), .own (rs.map Rl.d), .d (gramD n s rs), .un, .un] := by
      unfold lt3
      generalize gramD n s rs = gd at *
      generalize rs.map Rl.d = RD at *
      simp [seq_bNil, bSeq, bNil, sAsg, sAsgO, setO, setD, sIf, sRet, sDrop, sFor, sApp, fC, fVar, fBin, fLate, slotD, fTst, boolD, fAnd, fOr, fNot, fUn, negD, fIf, fBlt, fLenN, fTup, fO, oLst, aNil, aCons, fSl, pNone, pSome, intD, fPop, ownAt, iSeq, iRange1, iRange2, iEnum1, cmpI, ltD, leD, gtD, geD, lenL, gUn, tsCons, tsNil, List.getElem?_cons_zero, List.getElem?_cons_succ, List.set_cons_zero, List.set_cons_succ, List.length_cons, List.length_nil, ne]
    have h3l : 3 ≤ lim := by decide
    have hlt : (rs.map Rl.d).length < lim := by rw [List.length_map]; omega
    have e4 : lt4 [.d (.int n), .d (.int s), .d (.lst (rs.map Rl.d)), .own (rs.map Rl.d), .d (gramD n s rs), .un, .un] = .nx [.d (.int n), .d (.int s), .d (.lst (rs.map Rl.d)), .own (rs.map Rl.d ++ [D.tup [.str "stop", .int 0, .str "zz"]]), .d (gramD n s rs), .un, .un] := by
      unfold lt4
      generalize gramD n s rs = gd at *
      generalize rs.map Rl.d = RD at *
      simp [seq_bNil, bSeq, bNil, sAsg, sAsgO, setO, setD, sIf, sRet, sDrop, sFor, sApp, fC, fVar, fBin, fLate, slotD, fTst, boolD, fAnd, fOr, fNot, fUn, negD, fIf, fBlt, fLenN, fTup, fO, oLst, aNil, aCons, fSl, pNone, pSome, intD, fPop, ownAt, iSeq, iRange1, iRange2, iEnum1, cmpI, ltD, leD, gtD, geD, lenL, gUn, tsCons, tsNil, List.getElem?_cons_zero, List.getElem?_cons_succ, List.set_cons_zero, List.set_cons_succ, List.length_cons, List.length_nil, h3l, hlt]
    have hix : ixN (rs.map Rl.d ++ [D.tup [.str "stop", .int 0, .str "zz"]]).length 0 = some 0 := by
      have : 0 < (rs.map Rl.d ++ [D.tup [.str "stop", .int 0, .str "zz"]]).length := by simp
      unfold ixN
      simp
    have e5 : ∃ L, lt5 [.d (.int n), .d (.int s), .d (.lst (rs.map Rl.d)), .own (rs.map Rl.d ++ [D.tup [.str "stop", .int 0, .str "zz"]]), .d (gramD n s rs), .un, .un] = .nx [.d (.int n), .d (.int s), .d (.lst (rs.map Rl.d)), .own L, .d (gramD n s rs), .un, .un] := by
      refine ⟨(rs.map Rl.d ++ [D.tup [.str "stop", .int 0, .str "zz"]]).set 0 (.tup [.str "stop", .int 0, .str "z"]), ?_⟩
      unfold lt5
      generalize gramD n s rs = gd at *
      generalize rs.map Rl.d ++ [D.tup [.str "stop", .int 0, .str "zz"]] = LL at *
      generalize rs.map Rl.d = RD at *
      simp [seq_bNil, bSeq, bNil, sAsg, sAsgO, setO, setD, sIf, sRet, sDrop, sFor, sApp, fC, fVar, fBin, fLate, slotD, fTst, boolD, fAnd, fOr, fNot, fUn, negD, fIf, fBlt, fLenN, fTup, fO, oLst, aNil, aCons, fSl, pNone, pSome, intD, fPop, ownAt, iSeq, iRange1, iRange2, iEnum1, cmpI, ltD, leD, gtD, geD, lenL, gUn, tsCons, tsNil, List.getElem?_cons_zero, List.getElem?_cons_succ, List.set_cons_zero, List.set_cons_succ, List.length_cons, List.length_nil, sSetIx, h3l, hix]
    obtain ⟨L, e5⟩ := e5
    rw [bSeq_app, e3, Fl.seq_nx, bSeq_app, e4, Fl.seq_nx, bSeq_app, e5, Fl.seq_nx]
    rfl
theorem ans_ok (n s : Int) (rs : List Rl) : ok1 (ansD n s rs) := by
  have hm : ∀ m, ok1 (many m) := fun m => ok1_tup fun x hx => by
    simp only [List.mem_cons, List.not_mem_nil, or_false] at hx
    rcases hx with rfl | rfl
    · exact ok1_str _
    · exact ok1_int _
  unfold ansD
  split
  · exact hm _
  · split
    · exact hm _
    · split
      · exact hm _
      · split
        · exact ok1_tup fun x hx => by
            simp only [List.mem_cons, List.not_mem_nil, or_false] at hx
            rcases hx with rfl | rfl
            · exact ok1_str _
            · exact ok1_int _
        · exact ok1_tup fun x hx => by
            simp only [List.mem_cons, List.not_mem_nil, or_false] at hx
            rcases hx with rfl | rfl | rfl | rfl | rfl | rfl
            · exact ok1_str _
            · exact ok1_bl _
            · exact ok1_lst fun y hy => by
                simp only [List.mem_cons, List.not_mem_nil, or_false] at hy
                rcases hy with rfl | rfl <;> exact ok1_str _
            · exact ok1_int _
            · exact ok1_int _
            · exact ok1_tup (rs_ok rs)
theorem ans_sz {n s : Int} {rs : List Rl} (hl : rs.length ≤ 1000) (hr : ∀ r ∈ rs, OkR r) : D.sz (ansD n s rs) < 200000 := by
  have h := rs_sz hr
  unfold ansD
  split
  · exact (by decide : (3 : Nat) < 200000)
  · split
    · exact (by decide : (3 : Nat) < 200000)
    · split
      · exact (by decide : (3 : Nat) < 200000)
      · split
        · exact (by decide : (3 : Nat) < 200000)
        · simp only [D.sz, D.szL]
          omega
/-- the law's word on one grammar -/
theorem one_is {n s : Int} {rs : List Rl} (hl : rs.length ≤ 1000) (hr : ∀ r ∈ rs, OkR r) : den__law_same [ansD n s rs, ansD n s rs] = .ok (.bl true) := same_ok (ans_ok n s rs) (ans_sz hl hr)
end G
set_option Elab.async false
set_option linter.all false
set_option maxRecDepth 100000
set_option maxHeartbeats 4000000
/-! P19: texts and rules that the law draws. -/
namespace G
open PySem PySem.Spec L2 PD
theorem add_ii (a b : Int) : addD (.int a) (.int b) = some (.int (a + b)) := rfl
theorem sub_ii (a b : Int) : subI (.int a) (.int b) = some (.int (a - b)) := rfl
theorem mod_ii {a b : Int} (h : 0 < b) : modI (.int a) (.int b) = some (.int (a % b)) := if_pos h
theorem int_i (a : Int) : intL [.int a] = some (.int a) := rfl
def lx1 : En → Fl := (sAsg (fBin subD (fO (oLst (aCons (fC (.int 0)) (aCons (fC (.int 1)) (aCons (fC (.int 1)) (aCons (fC (.int 2)) (aCons (fC (.int 2)) (aCons (fC (.int 3)) (aCons (fC (.int 0)) (aCons (fC (.int 1)) (aCons (fC (.int 1)) (aCons (fC (.int 2)) (aCons (fC (.int 1)) (aCons (fC (.int 12)) aNil)))))))))))))) (fBin modI (fBlt intL (aCons (fVar 0) aNil)) (fC (.int 12)))) (setD 1))
def lx2 : En → Fl := (sAsg (fC (.str "")) (setD 2))
def lxLoop : En → Fl := (bSeq (sAsg (fBin addD (fVar 2) (fBin subD (fC (.str "abcdefghijklmnopqrstuvwxyz")) (fBin modI (fBlt intL (aCons (fBin addD (fBin fdivI (fVar 0) (fC (.int 12))) (fBin mulD (fVar 3) (fBin addD (fC (.int 1)) (fBin modI (fBlt intL (aCons (fVar 0) aNil)) (fC (.int 5)))))) aNil)) (fC (.int 26))))) (setD 2)) bNil)
def lx3 : En → Fl := (sFor (iRange1 (aCons (fVar 1) aNil)) (setD 3) lxLoop)
def lx4 : En → Fl := (sRet (fVar 2))
theorem lx_is : bod__law_text = (bSeq lx1 (bSeq lx2 (bSeq lx3 (bSeq lx4 bNil)))) := rfl
theorem text_is (z : Int) : ∃ x : Str, den__law_text [.int z] = .ok (.str x) ∧ x.length ≤ 12 := by
  have hlim : (5000 : Nat) < lim := by decide
  have st : den__law_text [.int z] = (bod__law_text [.d (.int z), .un, .un, .un]).fin := rfl
  rw [st, lx_is]
  obtain ⟨m0, m1⟩ := mod_ok z (b := 12) (by decide)
  obtain ⟨v, hv, gv⟩ := subL_map D.int (xs := [0, 1, 1, 2, 2, 3, 0, 1, 1, 2, 1, 12]) m0 m1
  have hv12 : ∃ k : Nat, v = (k : Int) ∧ k ≤ 12 := by
    simp only [List.mem_cons, List.not_mem_nil, or_false] at hv
    rcases hv with rfl | rfl | rfl | rfl | rfl | rfl | rfl | rfl | rfl | rfl | rfl | rfl
    all_goals first | exact ⟨0, rfl, by decide⟩ | exact ⟨1, rfl, by decide⟩ | exact ⟨2, rfl, by decide⟩ | exact ⟨3, rfl, by decide⟩ | exact ⟨12, rfl, by decide⟩
  obtain ⟨k, rfl, hk⟩ := hv12
  have mo := mod_ii (a := z) (b := 12) (by decide)
  have h12 : 12 ≤ lim := by decide
  have e1 : lx1 [.d (.int z), .un, .un, .un] = .nx [.d (.int z), .d (.int (k : Nat)), .un, .un] := by
    unfold lx1
    simp only [List.map_cons, List.map_nil] at gv
    generalize z % 12 = zz at *
    generalize (k : Int) = kk at *
    simp [seq_bNil, bSeq, bNil, sAsg, sAsgO, setO, setD, sIf, sRet, sDrop, sFor, sApp, fC, fVar, fBin, fLate, slotD, fTst, boolD, fAnd, fOr, fNot, fUn, negD, fIf, fBlt, fLenN, fTup, fO, oLst, aNil, aCons, fSl, pNone, pSome, intD, fPop, ownAt, iSeq, iRange1, iRange2, iEnum1, cmpI, ltD, leD, gtD, geD, lenL, gUn, tsCons, tsNil, List.getElem?_cons_zero, List.getElem?_cons_succ, List.set_cons_zero, List.set_cons_succ, List.length_cons, List.length_nil, int_i, mo, h12, gv]
  have e2 : lx2 [.d (.int z), .d (.int (k : Nat)), .un, .un] = .nx [.d (.int z), .d (.int (k : Nat)), .d (.str ""), .un] := rfl
  have hR : okR (k : Nat) = true := okR_nat (by omega)
  have e3 : lx3 [.d (.int z), .d (.int (k : Nat)), .d (.str ""), .un] = forD (setD 3) lxLoop (dRange 0 k) [.d (.int z), .d (.int (k : Nat)), .d (.str ""), .un] := by
    unfold lx3
    generalize lxLoop = L
    simp [seq_bNil, bSeq, bNil, sAsg, sAsgO, setO, setD, sIf, sRet, sDrop, sFor, sApp, fC, fVar, fBin, fLate, slotD, fTst, boolD, fAnd, fOr, fNot, fUn, negD, fIf, fBlt, fLenN, fTup, fO, oLst, aNil, aCons, fSl, pNone, pSome, intD, fPop, ownAt, iSeq, iRange1, iRange2, iEnum1, cmpI, ltD, leD, gtD, geD, lenL, gUn, tsCons, tsNil, List.getElem?_cons_zero, List.getElem?_cons_succ, List.set_cons_zero, List.set_cons_succ, List.length_cons, List.length_nil, hR]
  obtain ⟨ρ', e, x, x3, rfl, hx⟩ := forD_thru (g := setD 3) (f := lxLoop) (fun i ρ => ∃ (x : Str) (x3 : Sl), ρ = [.d (.int z), .d (.int (k : Nat)), .d (.str x), x3] ∧ x.length = i) (ds := dRange 0 k) (ρ := [.d (.int z), .d (.int (k : Nat)), .d (.str ""), .un]) (fun i d ρ hd hi => by
    obtain ⟨x, x3, rfl, hx⟩ := hi
    obtain ⟨h1, rfl⟩ := dRange_inv0 hd
    obtain ⟨q0, q1⟩ := mod_ok z (b := 5) (by decide)
    have mo5 := mod_ii (a := z) (b := 5) (by decide)
    have fd : fdivI (.int z) (.int 12) = some (.int (z / 12)) := rfl
    have a1 := add_ii 1 (z % 5)
    have mu : mulD (.int (i : Nat)) (.int (1 + z % 5)) = some (.int ((i : Nat) * (1 + z % 5))) := mulD_ii (by omega)
    have a2 := add_ii (z / 12) ((i : Nat) * (1 + z % 5))
    generalize z / 12 + (i : Nat) * (1 + z % 5) = w at *
    obtain ⟨w0, w1⟩ := mod_ok w (b := 26) (by decide)
    have mo26 := mod_ii (a := w) (b := 26) (by decide)
    have le := let_at w0 w1
    have cat := addS' (a := x) (b := ⟨#[97 + (w % 26).toNat]⟩) (by rw [one_len]; omega)
    have hc := len_cat x ⟨#[97 + (w % 26).toNat]⟩
    rw [one_len] at hc
    generalize x ++ ⟨#[97 + (w % 26).toNat]⟩ = y at *
    refine ⟨[.d (.int z), .d (.int (k : Nat)), .d (.str y), .d (.int (i : Nat))], .inl ?_, y, _, rfl, by omega⟩
    unfold lxLoop
    generalize w % 26 = w26 at *
    generalize (97 + w26.toNat) = c at *
    generalize (i : Int) * (1 + z % 5) = im at *
    generalize 1 + z % 5 = z5' at *
    generalize z % 5 = z5 at *
    generalize z / 12 = z12 at *
    generalize (i : Int) = ii at *
    generalize (k : Int) = kk at *
    simp [seq_bNil, bSeq, bNil, sAsg, sAsgO, setO, setD, sIf, sRet, sDrop, sFor, sApp, fC, fVar, fBin, fLate, slotD, fTst, boolD, fAnd, fOr, fNot, fUn, negD, fIf, fBlt, fLenN, fTup, fO, oLst, aNil, aCons, fSl, pNone, pSome, intD, fPop, ownAt, iSeq, iRange1, iRange2, iEnum1, cmpI, ltD, leD, gtD, geD, lenL, gUn, tsCons, tsNil, List.getElem?_cons_zero, List.getElem?_cons_succ, List.set_cons_zero, List.set_cons_succ, List.length_cons, List.length_nil, int_i, mo5, fd, a1, mu, a2, mo26, le, cat]) ⟨"", .un, rfl, rfl⟩
  rw [bSeq_app, e1, Fl.seq_nx, bSeq_app, e2, Fl.seq_nx, bSeq_app, e3, e, Fl.seq_nx]
  rw [dRange_len] at hx
  exact ⟨x, rfl, by omega⟩
/-- a rule of at most m parts -/
structure OkM (m : Nat) (r : Rl) : Prop where
  l : r.ps.length ≤ m
  x : ∀ p ∈ r.ps, ∀ x, p = .s x → x.length ≤ 1000
theorem OkM.ok {m : Nat} {r : Rl} (h : OkM m r) (hm : m ≤ 100) : OkR r := ⟨Nat.le_trans h.l hm, h.x⟩
theorem OkM.mono {m k : Nat} {r : Rl} (h : OkM m r) (hm : m ≤ k) : OkM k r := ⟨Nat.le_trans h.l hm, h.x⟩
def okP (p : Pt) : Prop := ∀ x, p = .s x → x.length ≤ 1000
theorem okP_i (z : Int) : okP (.i z) := fun x h => by cases h
theorem okP_s {x : Str} (h : x.length ≤ 1000) : okP (.s x) := fun y e => by cases e; exact h
theorem okM_of {m : Nat} {k : Str} {ps : List Pt} (h : ps.length ≤ m) (hx : ∀ p ∈ ps, okP p) : OkM m ⟨k, ps⟩ := ⟨h, hx⟩
def lq1 : En → Fl := (sAsg (fBin subD (fO (oLst (aCons (fC (.str "emit")) (aCons (fC (.str "before")) (aCons (fC (.str "after")) (aCons (fC (.str "push")) (aCons (fC (.str "emit")) (aCons (fC (.str "push")) (aCons (fC (.str "pop")) (aCons (fC (.str "stop")) aNil)))))))))) (fBin modI (fBlt intL (aCons (fLate 0 subD (fC (.int 0))) aNil)) (fC (.int 8)))) (setD 5))
def lq2 : En → Fl := (sAsg (fBin mulD (fBin modI (fBlt intL (aCons (fLate 0 subD (fC (.int 1))) aNil)) (fVar 1)) (fVar 3)) (setD 6))
def lq3 : En → Fl := (sAsg (fBin mulD (fBin modI (fBlt intL (aCons (fLate 0 subD (fC (.int 2))) aNil)) (fVar 1)) (fVar 3)) (setD 7))
def lq4 : En → Fl := (sIf (fAnd (fTst boolD (fLate 2 eqD (fC (.int 0)))) (fOr (fTst boolD (fLate 5 eqD (fC (.str "push")))) (fTst boolD (fLate 5 eqD (fC (.str "pop")))))) (bSeq (sAsg (fC (.str "emit")) (setD 5)) bNil) bNil)
def lq5 : En → Fl := (sIf (fTst boolD (fLate 5 eqD (fC (.str "emit")))) (bSeq (sRet (fTup (aCons (fVar 5) (aCons (fVar 6) (aCons (fVar 7) (aCons (fCall den__law_text (aCons (fLate 0 subD (fC (.int 3))) aNil) []) (aCons (fCall den__law_text (aCons (fLate 0 subD (fC (.int 4))) aNil) []) aNil))))))) bNil) bNil)
def lq6 : En → Fl := (sIf (fTst boolD (fLate 5 eqD (fC (.str "stop")))) (bSeq (sRet (fTup (aCons (fVar 5) (aCons (fVar 6) (aCons (fCall den__law_text (aCons (fLate 0 subD (fC (.int 3))) aNil) []) aNil))))) bNil) bNil)
def lq7 : En → Fl := (sIf (fTst boolD (fLate 5 eqD (fC (.str "push")))) (bSeq (sRet (fTup (aCons (fVar 5) (aCons (fVar 6) (aCons (fVar 7) (aCons (fBin mulD (fBin modI (fBlt intL (aCons (fLate 0 subD (fC (.int 3))) aNil)) (fVar 2)) (fVar 4)) aNil)))))) bNil) bNil)
def lq8 : En → Fl := (sIf (fTst boolD (fLate 5 eqD (fC (.str "pop")))) (bSeq (sRet (fTup (aCons (fVar 5) (aCons (fVar 6) (aCons (fBin mulD (fBin modI (fBlt intL (aCons (fLate 0 subD (fC (.int 3))) aNil)) (fVar 2)) (fVar 4)) (aCons (fVar 7) aNil)))))) bNil) bNil)
def lq9 : En → Fl := (sRet (fTup (aCons (fVar 5) (aCons (fVar 6) (aCons (fVar 7) (aCons (fBin mulD (fBin modI (fBlt intL (aCons (fLate 0 subD (fC (.int 3))) aNil)) (fVar 1)) (fVar 3)) aNil))))))
theorem lq_is : bod__law_rule = (bSeq lq1 (bSeq lq2 (bSeq lq3 (bSeq lq4 (bSeq lq5 (bSeq lq6 (bSeq lq7 (bSeq lq8 (bSeq lq9 bNil))))))))) := rfl
theorem rule_is {cs : List Int} {n s : Int} (hc : 5 ≤ cs.length) (hn : 0 < n) (hs : 0 ≤ s) : ∃ r : Rl, den__law_rule [.lst (cs.map D.int), .int n, .int s, .int 1, .int 1] = .ok r.d ∧ OkM 4 r := by
  have hlim : (5000 : Nat) < lim := by decide
  have st : den__law_rule [.lst (cs.map D.int), .int n, .int s, .int 1, .int 1] = (bod__law_rule [.d (.lst (cs.map D.int)), .d (.int n), .d (.int s), .d (.int 1), .d (.int 1), .un, .un, .un]).fin := rfl
  rw [st, lq_is]
  obtain ⟨c0, _, g0⟩ := subL_map D.int (xs := cs) (z := 0) (by decide) (by omega)
  obtain ⟨c1, _, g1⟩ := subL_map D.int (xs := cs) (z := 1) (by decide) (by omega)
  obtain ⟨c2, _, g2⟩ := subL_map D.int (xs := cs) (z := 2) (by decide) (by omega)
  obtain ⟨c3, _, g3⟩ := subL_map D.int (xs := cs) (z := 3) (by decide) (by omega)
  obtain ⟨c4, _, g4⟩ := subL_map D.int (xs := cs) (z := 4) (by decide) (by omega)
  obtain ⟨m0, m1⟩ := mod_ok c0 (b := 8) (by decide)
  obtain ⟨K, _, gK⟩ := subL_map D.str (xs := ["emit", "before", "after", "push", "emit", "push", "pop", "stop"]) m0 m1
  have mo := mod_ii (a := c0) (b := 8) (by decide)
  have h8 : 8 ≤ lim := by decide
  have mu : ∀ a : Int, mulD (.int a) (.int 1) = some (.int a) := fun a => by
    rw [mulD_ii (by decide), Int.mul_one]
  have mn : ∀ a : Int, modI (.int a) (.int n) = some (.int (a % n)) := fun a => mod_ii hn
  obtain ⟨t3, d3, l3⟩ := text_is c3
  obtain ⟨t4, d4, l4⟩ := text_is c4
  generalize cs.map D.int = CS at *
  have e1 : lq1 [.d (.lst CS), .d (.int n), .d (.int s), .d (.int 1), .d (.int 1), .un, .un, .un] = .nx [.d (.lst CS), .d (.int n), .d (.int s), .d (.int 1), .d (.int 1), .d (.str K), .un, .un] := by
    unfold lq1
    simp only [List.map_cons, List.map_nil] at gK
    generalize c0 % 8 = z8 at *
    simp [seq_bNil, bSeq, bNil, sAsg, sAsgO, setO, setD, sIf, sRet, sDrop, sFor, sApp, fC, fVar, fBin, fLate, slotD, fTst, boolD, fAnd, fOr, fNot, fUn, negD, fIf, fBlt, fLenN, fTup, fO, oLst, aNil, aCons, fSl, pNone, pSome, intD, fPop, ownAt, iSeq, iRange1, iRange2, iEnum1, cmpI, ltD, leD, gtD, geD, lenL, gUn, tsCons, tsNil, List.getElem?_cons_zero, List.getElem?_cons_succ, List.set_cons_zero, List.set_cons_succ, List.length_cons, List.length_nil, int_i, g0, mo, h8, gK]
  have e2 : lq2 [.d (.lst CS), .d (.int n), .d (.int s), .d (.int 1), .d (.int 1), .d (.str K), .un, .un] = .nx [.d (.lst CS), .d (.int n), .d (.int s), .d (.int 1), .d (.int 1), .d (.str K), .d (.int (c1 % n)), .un] := by
    unfold lq2
    have := mn c1
    generalize c1 % n = z at *
    simp [seq_bNil, bSeq, bNil, sAsg, sAsgO, setO, setD, sIf, sRet, sDrop, sFor, sApp, fC, fVar, fBin, fLate, slotD, fTst, boolD, fAnd, fOr, fNot, fUn, negD, fIf, fBlt, fLenN, fTup, fO, oLst, aNil, aCons, fSl, pNone, pSome, intD, fPop, ownAt, iSeq, iRange1, iRange2, iEnum1, cmpI, ltD, leD, gtD, geD, lenL, gUn, tsCons, tsNil, List.getElem?_cons_zero, List.getElem?_cons_succ, List.set_cons_zero, List.set_cons_succ, List.length_cons, List.length_nil, int_i, g1, this, mu]
  have e3 : lq3 [.d (.lst CS), .d (.int n), .d (.int s), .d (.int 1), .d (.int 1), .d (.str K), .d (.int (c1 % n)), .un] = .nx [.d (.lst CS), .d (.int n), .d (.int s), .d (.int 1), .d (.int 1), .d (.str K), .d (.int (c1 % n)), .d (.int (c2 % n))] := by
    unfold lq3
    have := mn c2
    generalize c2 % n = z at *
    generalize c1 % n = z1 at *
    simp [seq_bNil, bSeq, bNil, sAsg, sAsgO, setO, setD, sIf, sRet, sDrop, sFor, sApp, fC, fVar, fBin, fLate, slotD, fTst, boolD, fAnd, fOr, fNot, fUn, negD, fIf, fBlt, fLenN, fTup, fO, oLst, aNil, aCons, fSl, pNone, pSome, intD, fPop, ownAt, iSeq, iRange1, iRange2, iEnum1, cmpI, ltD, leD, gtD, geD, lenL, gUn, tsCons, tsNil, List.getElem?_cons_zero, List.getElem?_cons_succ, List.set_cons_zero, List.set_cons_succ, List.length_cons, List.length_nil, int_i, g2, this, mu]
  rw [bSeq_app, e1, Fl.seq_nx, bSeq_app, e2, Fl.seq_nx, bSeq_app, e3, Fl.seq_nx, bSeq_app]
  have e4 : ∃ K' : Str, (s = 0 → K' ≠ "push" ∧ K' ≠ "pop") ∧ lq4 [.d (.lst CS), .d (.int n), .d (.int s), .d (.int 1), .d (.int 1), .d (.str K), .d (.int (c1 % n)), .d (.int (c2 % n))] = .nx [.d (.lst CS), .d (.int n), .d (.int s), .d (.int 1), .d (.int 1), .d (.str K'), .d (.int (c1 % n)), .d (.int (c2 % n))] := by
    unfold lq4
    generalize c1 % n = z1 at *
    generalize c2 % n = z2 at *
    have q0 := eq_int s 0
    have q1 := eq_str K "push"
    have q2 := eq_str K "pop"
    by_cases h0 : s = 0
    · rw [decide_eq_true h0] at q0
      by_cases h1 : K = "push"
      · rw [decide_eq_true h1] at q1
        exact ⟨"emit", fun _ => ⟨by decide +kernel, by decide +kernel⟩, by simp [seq_bNil, bSeq, bNil, sAsg, sAsgO, setO, setD, sIf, sRet, sDrop, sFor, sApp, fC, fVar, fBin, fLate, slotD, fTst, boolD, fAnd, fOr, fNot, fUn, negD, fIf, fBlt, fLenN, fTup, fO, oLst, aNil, aCons, fSl, pNone, pSome, intD, fPop, ownAt, iSeq, iRange1, iRange2, iEnum1, cmpI, ltD, leD, gtD, geD, lenL, gUn, tsCons, tsNil, List.getElem?_cons_zero, List.getElem?_cons_succ, List.set_cons_zero, List.set_cons_succ, List.length_cons, List.length_nil, q0, q1]⟩
      · rw [decide_eq_false h1] at q1
        by_cases h2 : K = "pop"
        · rw [decide_eq_true h2] at q2
          exact ⟨"emit", fun _ => ⟨by decide +kernel, by decide +kernel⟩, by simp [seq_bNil, bSeq, bNil, sAsg, sAsgO, setO, setD, sIf, sRet, sDrop, sFor, sApp, fC, fVar, fBin, fLate, slotD, fTst, boolD, fAnd, fOr, fNot, fUn, negD, fIf, fBlt, fLenN, fTup, fO, oLst, aNil, aCons, fSl, pNone, pSome, intD, fPop, ownAt, iSeq, iRange1, iRange2, iEnum1, cmpI, ltD, leD, gtD, geD, lenL, gUn, tsCons, tsNil, List.getElem?_cons_zero, List.getElem?_cons_succ, List.set_cons_zero, List.set_cons_succ, List.length_cons, List.length_nil, q0, q1, q2]⟩
        · rw [decide_eq_false h2] at q2
          exact ⟨K, fun _ => ⟨h1, h2⟩, by simp [seq_bNil, bSeq, bNil, sAsg, sAsgO, setO, setD, sIf, sRet, sDrop, sFor, sApp, fC, fVar, fBin, fLate, slotD, fTst, boolD, fAnd, fOr, fNot, fUn, negD, fIf, fBlt, fLenN, fTup, fO, oLst, aNil, aCons, fSl, pNone, pSome, intD, fPop, ownAt, iSeq, iRange1, iRange2, iEnum1, cmpI, ltD, leD, gtD, geD, lenL, gUn, tsCons, tsNil, List.getElem?_cons_zero, List.getElem?_cons_succ, List.set_cons_zero, List.set_cons_succ, List.length_cons, List.length_nil, q0, q1, q2]⟩
    · rw [decide_eq_false h0] at q0
      exact ⟨K, fun z => absurd z h0, by simp [seq_bNil, bSeq, bNil, sAsg, sAsgO, setO, setD, sIf, sRet, sDrop, sFor, sApp, fC, fVar, fBin, fLate, slotD, fTst, boolD, fAnd, fOr, fNot, fUn, negD, fIf, fBlt, fLenN, fTup, fO, oLst, aNil, aCons, fSl, pNone, pSome, intD, fPop, ownAt, iSeq, iRange1, iRange2, iEnum1, cmpI, ltD, leD, gtD, geD, lenL, gUn, tsCons, tsNil, List.getElem?_cons_zero, List.getElem?_cons_succ, List.set_cons_zero, List.set_cons_succ, List.length_cons, List.length_nil, q0]⟩
  obtain ⟨K', hK, e4⟩ := e4
  rw [e4, Fl.seq_nx]
  clear e1 e2 e3 e4 gK g0 st
  have ms : K' = "push" ∨ K' = "pop" → modI (.int c3) (.int s) = some (.int (c3 % s)) := fun h => mod_ii (by
    by_cases h0 : s = 0
    · obtain ⟨a, b⟩ := hK h0
      rcases h with h | h
      · exact absurd h a
      · exact absurd h b
    · omega)
  have mn3 := mn c3
  generalize c1 % n = z1 at *
  generalize c2 % n = z2 at *
  generalize c3 % n = z3 at *
  generalize c3 % s = zs at *
  have q1 := eq_str K' "emit"
  have q2 := eq_str K' "stop"
  have q3 := eq_str K' "push"
  have q4 := eq_str K' "pop"
  have w3 : 3 ≤ lim := by decide
  have w4 : 4 ≤ lim := by decide
  have w5 : 5 ≤ lim := by decide
  unfold lq5 lq6 lq7 lq8 lq9
  generalize den__law_text = dt at *
  by_cases h1 : K' = "emit"
  · rw [decide_eq_true h1] at q1
    refine ⟨⟨K', [.i z1, .i z2, .s t3, .s t4]⟩, ?_, okM_of (by simp) fun p hp => ?_⟩
    · simp [seq_bNil, bSeq, bNil, sAsg, sAsgO, setO, setD, sIf, sRet, sDrop, sFor, sApp, fC, fVar, fBin, fLate, slotD, fTst, boolD, fAnd, fOr, fNot, fUn, negD, fIf, fBlt, fLenN, fTup, fO, oLst, aNil, aCons, fSl, pNone, pSome, intD, fPop, ownAt, iSeq, iRange1, iRange2, iEnum1, cmpI, ltD, leD, gtD, geD, lenL, gUn, tsCons, tsNil, List.getElem?_cons_zero, List.getElem?_cons_succ, List.set_cons_zero, List.set_cons_succ, List.length_cons, List.length_nil, fCall, g3, g4, d3, d4, q1, w5, Fl.fin, Rl.d, Pt.d]
    · simp only [List.mem_cons, List.not_mem_nil, or_false] at hp
      rcases hp with rfl | rfl | rfl | rfl
      · exact okP_i _
      · exact okP_i _
      · exact okP_s (by omega)
      · exact okP_s (by omega)
  rw [decide_eq_false h1] at q1
  by_cases h2 : K' = "stop"
  · rw [decide_eq_true h2] at q2
    refine ⟨⟨K', [.i z1, .s t3]⟩, ?_, okM_of (by simp) fun p hp => ?_⟩
    · simp [seq_bNil, bSeq, bNil, sAsg, sAsgO, setO, setD, sIf, sRet, sDrop, sFor, sApp, fC, fVar, fBin, fLate, slotD, fTst, boolD, fAnd, fOr, fNot, fUn, negD, fIf, fBlt, fLenN, fTup, fO, oLst, aNil, aCons, fSl, pNone, pSome, intD, fPop, ownAt, iSeq, iRange1, iRange2, iEnum1, cmpI, ltD, leD, gtD, geD, lenL, gUn, tsCons, tsNil, List.getElem?_cons_zero, List.getElem?_cons_succ, List.set_cons_zero, List.set_cons_succ, List.length_cons, List.length_nil, fCall, g3, d3, q1, q2, w3, Fl.fin, Rl.d, Pt.d]
    · simp only [List.mem_cons, List.not_mem_nil, or_false] at hp
      rcases hp with rfl | rfl
      · exact okP_i _
      · exact okP_s (by omega)
  rw [decide_eq_false h2] at q2
  by_cases h3 : K' = "push"
  · have mss := ms (.inl h3)
    rw [decide_eq_true h3] at q3
    refine ⟨⟨K', [.i z1, .i z2, .i zs]⟩, ?_, okM_of (by simp) fun p hp => ?_⟩
    · simp [seq_bNil, bSeq, bNil, sAsg, sAsgO, setO, setD, sIf, sRet, sDrop, sFor, sApp, fC, fVar, fBin, fLate, slotD, fTst, boolD, fAnd, fOr, fNot, fUn, negD, fIf, fBlt, fLenN, fTup, fO, oLst, aNil, aCons, fSl, pNone, pSome, intD, fPop, ownAt, iSeq, iRange1, iRange2, iEnum1, cmpI, ltD, leD, gtD, geD, lenL, gUn, tsCons, tsNil, List.getElem?_cons_zero, List.getElem?_cons_succ, List.set_cons_zero, List.set_cons_succ, List.length_cons, List.length_nil, int_i, g3, mss, mu, q1, q2, q3, w4, Fl.fin, Rl.d, Pt.d]
    · simp only [List.mem_cons, List.not_mem_nil, or_false] at hp
      rcases hp with rfl | rfl | rfl <;> exact okP_i _
  rw [decide_eq_false h3] at q3
  by_cases h4 : K' = "pop"
  · have mss := ms (.inr h4)
    rw [decide_eq_true h4] at q4
    refine ⟨⟨K', [.i z1, .i zs, .i z2]⟩, ?_, okM_of (by simp) fun p hp => ?_⟩
    · simp [seq_bNil, bSeq, bNil, sAsg, sAsgO, setO, setD, sIf, sRet, sDrop, sFor, sApp, fC, fVar, fBin, fLate, slotD, fTst, boolD, fAnd, fOr, fNot, fUn, negD, fIf, fBlt, fLenN, fTup, fO, oLst, aNil, aCons, fSl, pNone, pSome, intD, fPop, ownAt, iSeq, iRange1, iRange2, iEnum1, cmpI, ltD, leD, gtD, geD, lenL, gUn, tsCons, tsNil, List.getElem?_cons_zero, List.getElem?_cons_succ, List.set_cons_zero, List.set_cons_succ, List.length_cons, List.length_nil, int_i, g3, mss, mu, q1, q2, q3, q4, w4, Fl.fin, Rl.d, Pt.d]
    · simp only [List.mem_cons, List.not_mem_nil, or_false] at hp
      rcases hp with rfl | rfl | rfl <;> exact okP_i _
  rw [decide_eq_false h4] at q4
  refine ⟨⟨K', [.i z1, .i z2, .i z3]⟩, ?_, okM_of (by simp) fun p hp => ?_⟩
  · simp [seq_bNil, bSeq, bNil, sAsg, sAsgO, setO, setD, sIf, sRet, sDrop, sFor, sApp, fC, fVar, fBin, fLate, slotD, fTst, boolD, fAnd, fOr, fNot, fUn, negD, fIf, fBlt, fLenN, fTup, fO, oLst, aNil, aCons, fSl, pNone, pSome, intD, fPop, ownAt, iSeq, iRange1, iRange2, iEnum1, cmpI, ltD, leD, gtD, geD, lenL, gUn, tsCons, tsNil, List.getElem?_cons_zero, List.getElem?_cons_succ, List.set_cons_zero, List.set_cons_succ, List.length_cons, List.length_nil, int_i, g3, mn3, mu, q1, q2, q3, q4, w4, Fl.fin, Rl.d, Pt.d]
  · simp only [List.mem_cons, List.not_mem_nil, or_false] at hp
    rcases hp with rfl | rfl | rfl <;> exact okP_i _
end G
set_option Elab.async false
set_option linter.all false
set_option maxRecDepth 100000
set_option maxHeartbeats 4000000
/-! Q19: odd parts, bent rules. -/
namespace G
open PySem PySem.Spec L2 PD
def odds (n s : Int) : List Pt := [.i (-1), .i n, .i (n + 1), .i (n - 1), .i s, .i (s + 1), .i (s - 1), .i 0, .i 300, .i 1000000000, .i (-n), .i (-s - 1)] ++ [.s "", .s "a", .s "abcdefghijkl", .s "abcdefghijklm", .s "aB", .s "a b", .s " a", .s "z1", .s "0", .s "`", .s "{", .s "-"]
theorem odds_len (n s : Int) : (odds n s).length = 24 := rfl
theorem odds_ok (n s : Int) : ∀ p ∈ odds n s, okP p := fun p hp => by
  unfold odds at hp
  simp only [List.cons_append, List.nil_append, List.mem_cons, List.not_mem_nil, or_false] at hp
  rcases hp with rfl | rfl | rfl | rfl | rfl | rfl | rfl | rfl | rfl | rfl | rfl | rfl | rfl | rfl | rfl | rfl | rfl | rfl | rfl | rfl | rfl | rfl | rfl | rfl
  all_goals first | exact okP_i _ | exact okP_s (by decide +kernel)
def lo1 : En → Fl := (sAsgO (oLst (aCons (fUn negD (fC (.int 1))) (aCons (fVar 0) (aCons (fBin addD (fVar 0) (fC (.int 1))) (aCons (fBin subI (fVar 0) (fC (.int 1))) (aCons (fVar 1) (aCons (fBin addD (fVar 1) (fC (.int 1))) (aCons (fBin subI (fVar 1) (fC (.int 1))) (aCons (fC (.int 0)) (aCons (fC (.int 300)) (aCons (fBin powI (fC (.int 10)) (fC (.int 9))) (aCons (fUn negD (fVar 0)) (aCons (fBin subI (fUn negD (fVar 1)) (fC (.int 1))) aNil))))))))))))) 2)
def lo2 : En → Fl := (sRet (fBin addD (fVar 2) (fO (oLst (aCons (fC (.str "")) (aCons (fC (.str "a")) (aCons (fC (.str "abcdefghijkl")) (aCons (fC (.str "abcdefghijklm")) (aCons (fC (.str "aB")) (aCons (fC (.str "a b")) (aCons (fC (.str " a")) (aCons (fC (.str "z1")) (aCons (fC (.str "0")) (aCons (fC (.str "`")) (aCons (fC (.str "{")) (aCons (fC (.str "-")) aNil))))))))))))))))
theorem lo_is : bod__law_odd_parts = (bSeq lo1 (bSeq lo2 bNil)) := rfl
theorem odd_is (n s : Int) : den__law_odd_parts [.int n, .int s] = .ok (.lst ((odds n s).map Pt.d)) := by
  have st : den__law_odd_parts [.int n, .int s] = (bod__law_odd_parts [.d (.int n), .d (.int s), .un]).fin := rfl
  rw [st, lo_is]
  have h12 : 12 ≤ lim := by decide
  have p9 : powI (.int 10) (.int 9) = some (.int 1000000000) := rfl
  have ng : ∀ a : Int, negD (.int a) = some (.int (-a)) := fun a => rfl
  have e1 : lo1 [.d (.int n), .d (.int s), .un] = .nx [.d (.int n), .d (.int s), .own [.int (-1), .int n, .int (n + 1), .int (n - 1), .int s, .int (s + 1), .int (s - 1), .int 0, .int 300, .int 1000000000, .int (-n), .int (-s - 1)]] := by
    unfold lo1
    have a1 := add_ii n 1
    have a2 := add_ii s 1
    have b1 := sub_ii n 1
    have b2 := sub_ii s 1
    have b3 := sub_ii (-s) 1
    have n1 := ng 1
    have n2 := ng n
    have n3 := ng s
    generalize n + 1 = v1 at *
    generalize s + 1 = v2 at *
    generalize n - 1 = v3 at *
    generalize s - 1 = v4 at *
    generalize -s - 1 = v5 at *
    generalize -n = v6 at *
    generalize -s = v7 at *
    generalize (-1 : Int) = v8 at *
    simp [seq_bNil, bSeq, bNil, sAsgO, setO, oLst, aCons, aNil, fUn, fC, fVar, fBin, n1, n2, n3, a1, a2, b1, b2, b3, p9, h12]
  rw [bSeq_app, e1, Fl.seq_nx]
  have ad := addL' (a := [.int (-1), .int n, .int (n + 1), .int (n - 1), .int s, .int (s + 1), .int (s - 1), .int 0, .int 300, .int 1000000000, .int (-n), .int (-s - 1)]) (b := [.str "", .str "a", .str "abcdefghijkl", .str "abcdefghijklm", .str "aB", .str "a b", .str " a", .str "z1", .str "0", .str "`", .str "{", .str "-"]) (show 24 ≤ lim by decide)
  have ho : (odds n s).map Pt.d = [.int (-1), .int n, .int (n + 1), .int (n - 1), .int s, .int (s + 1), .int (s - 1), .int 0, .int 300, .int 1000000000, .int (-n), .int (-s - 1)] ++ [.str "", .str "a", .str "abcdefghijkl", .str "abcdefghijklm", .str "aB", .str "a b", .str " a", .str "z1", .str "0", .str "`", .str "{", .str "-"] := rfl
  rw [← ho] at ad
  generalize (odds n s).map Pt.d = OD at *
  clear ho st e1
  generalize ([.int (-1), .int n, .int (n + 1), .int (n - 1), .int s, .int (s + 1), .int (s - 1), .int 0, .int 300, .int 1000000000, .int (-n), .int (-s - 1)] : List D) = L1 at *
  unfold lo2
  simp [seq_bNil, bSeq, bNil, sAsg, sAsgO, setO, setD, sIf, sRet, sDrop, sFor, sApp, fC, fVar, fBin, fLate, slotD, fTst, boolD, fAnd, fOr, fNot, fUn, negD, fIf, fBlt, fLenN, fTup, fO, oLst, aNil, aCons, fSl, pNone, pSome, intD, fPop, ownAt, iSeq, iRange1, iRange2, iEnum1, cmpI, ltD, leD, gtD, geD, lenL, gUn, tsCons, tsNil, List.getElem?_cons_zero, List.getElem?_cons_succ, List.set_cons_zero, List.set_cons_succ, List.length_cons, List.length_nil, h12, ad, Fl.fin]
/-! ### slices of rules -/
theorem take_r (r : Rl) {p : Int} (h : 1 ≤ p) : slD r.d none (some p) = some (Rl.d ⟨r.k, r.ps.take (p - 1).toNat⟩) := by
  show some (D.tup (cutD (.str r.k :: r.ps.map Pt.d) none (some p))) = _
  have := cut_take (id : D → D) (.str r.k :: r.ps.map Pt.d) (p := p) (by omega)
  rw [List.map_id, List.map_id] at this
  rw [this]
  obtain ⟨k, rfl⟩ : ∃ k : Nat, p = (k : Int) + 1 := ⟨(p - 1).toNat, by omega⟩
  have e1 : ((k : Int) + 1).toNat = k + 1 := by omega
  have e2 : ((k : Int) + 1 - 1).toNat = k := by omega
  rw [e1, e2, List.take_succ_cons, ← List.map_take]
  rfl
theorem drop_r (r : Rl) {p : Int} (h : 1 ≤ p) : slD r.d (some p) none = some (.tup ((r.ps.drop (p - 1).toNat).map Pt.d)) := by
  show some (D.tup (cutD (.str r.k :: r.ps.map Pt.d) (some p) none)) = _
  have := cut_drop (id : D → D) (.str r.k :: r.ps.map Pt.d) (p := p) (by omega)
  rw [List.map_id, List.map_id] at this
  rw [this]
  obtain ⟨k, rfl⟩ : ∃ k : Nat, p = (k : Int) + 1 := ⟨(p - 1).toNat, by omega⟩
  have e1 : ((k : Int) + 1).toNat = k + 1 := by omega
  have e2 : ((k : Int) + 1 - 1).toNat = k := by omega
  rw [e1, e2, List.drop_succ_cons, ← List.map_drop]
theorem cat_r (r : Rl) (ps : List Pt) (h : r.ps.length + ps.length ≤ 5000) : addD r.d (.tup (ps.map Pt.d)) = some (Rl.d ⟨r.k, r.ps ++ ps⟩) := by
  have hlim : (50000 : Nat) < lim := by decide
  have := addT' (a := .str r.k :: r.ps.map Pt.d) (b := ps.map Pt.d) (by rw [List.length_cons, List.length_map, List.length_map]; omega)
  show addD (.tup (.str r.k :: r.ps.map Pt.d)) (.tup (ps.map Pt.d)) = _
  rw [this]
  show some (D.tup (.str r.k :: (r.ps.map Pt.d ++ ps.map Pt.d))) = _
  rw [← List.map_append]
  rfl
theorem kind_r (k : Str) (ps : List Pt) (h : ps.length ≤ 5000) : addD (.tup [.str k]) (.tup (ps.map Pt.d)) = some (Rl.d ⟨k, ps⟩) := by
  have := cat_r ⟨k, []⟩ ps (by simpa using h)
  exact this
theorem maxL_2 (a b : Int) : maxL [.int a, .int b] = some (.int (if b > a then b else a)) := rfl
theorem rev_tup (f : En → Res D) (xs : List D) (ρ ρ1 : En) (h : f ρ = .ok (.tup xs) ρ1) : fRev f ρ = .ok (.tup xs.reverse) ρ1 := by
  unfold fRev
  rw [h]
  rfl
def lb1 : En → Fl := (sAsg (fCall den__law_odd_parts (aCons (fVar 3) (aCons (fVar 4) aNil)) []) (setD 5))
def lb2 : En → Fl := (sIf (fTst boolD (fBin ltD (fVar 1) (fLenN 5))) (bSeq (sAsg (fBin addD (fC (.int 1)) (fBin modI (fBlt intL (aCons (fVar 2) aNil)) (fBlt maxL (aCons (fC (.int 1)) (aCons (fBin subI (fLenN 0) (fC (.int 1))) aNil))))) (setD 6)) (bSeq (sRet (fBin addD (fBin addD (fSl (fVar 0) pNone (pSome (fVar 6))) (fTup (aCons (fLate 5 subD (fVar 1)) aNil))) (fSl (fVar 0) (pSome (fBin addD (fVar 6) (fC (.int 1)))) pNone))) bNil)) bNil)
def lb3 : En → Fl := (sAsg (fBin subI (fVar 1) (fLenN 5)) (setD 7))
def lb4 : En → Fl := (sAsgO (oLst (aCons (fC (.str "leaf")) (aCons (fC (.str "wrap")) (aCons (fC (.str "left")) (aCons (fC (.str "Emit")) (aCons (fC (.str "")) (aCons (fC (.str "emits")) (aCons (fC (.str "stop ")) (aCons (fC (.str "emit")) (aCons (fC (.str "before")) (aCons (fC (.str "after")) (aCons (fC (.str "push")) (aCons (fC (.str "pop")) (aCons (fC (.str "stop")) aNil)))))))))))))) 8)
def lb5 : En → Fl := (sIf (fTst boolD (fBin ltD (fVar 7) (fLenN 8))) (bSeq (sRet (fBin addD (fTup (aCons (fLate 8 subD (fVar 7)) aNil)) (fSl (fVar 0) (pSome (fC (.int 1))) pNone))) bNil) bNil)
def lb6 : En → Fl := (sAsgO (oLst (aCons (fSl (fVar 0) pNone (pSome (fBlt maxL (aCons (fC (.int 1)) (aCons (fBin subI (fLenN 0) (fC (.int 1))) aNil))))) (aCons (fBin addD (fVar 0) (fTup (aCons (fC (.str "a")) aNil))) (aCons (fBin addD (fVar 0) (fTup (aCons (fC (.int 0)) aNil))) (aCons (fSl (fVar 0) pNone (pSome (fC (.int 1)))) (aCons (fBin addD (fVar 0) (fSl (fVar 0) (pSome (fC (.int 1))) pNone)) (aCons (fBin addD (fSl (fVar 0) pNone (pSome (fC (.int 1)))) (fRev (fSl (fVar 0) (pSome (fC (.int 1))) pNone))) (aCons (fSl (fVar 0) pNone (pSome (fC (.int 2)))) aNil)))))))) 9)
def lb7 : En → Fl := (sRet (fLate 9 subD (fBin modI (fBlt intL (aCons (fBin subI (fVar 7) (fLenN 8)) aNil)) (fLenN 9))))
theorem lb_is : bod__law_bent = (bSeq lb1 (bSeq lb2 (bSeq lb3 (bSeq lb4 (bSeq lb5 (bSeq lb6 (bSeq lb7 bNil))))))) := rfl
def kinds13 : List Str := ["leaf", "wrap", "left", "Emit", "", "emits", "stop ", "emit", "before", "after", "push", "pop", "stop"]
theorem bent_is {r : Rl} {way pick n s : Int} {m : Nat} (hr : OkM m r) (hm : m ≤ 40) (hw : 0 ≤ way) : ∃ r' : Rl, den__law_bent [r.d, .int way, .int pick, .int n, .int s] = .ok r'.d ∧ OkM (2 * m + 1) r' := by
  have hlim : (50000 : Nat) < lim := by decide
  have st : den__law_bent [r.d, .int way, .int pick, .int n, .int s] = (bod__law_bent [.d r.d, .d (.int way), .d (.int pick), .d (.int n), .d (.int s), .un, .un, .un, .un, .un]).fin := rfl
  rw [st, lb_is]
  have hl := hr.l
  have od := odd_is n s
  have hol := odds_len n s
  have hok := odds_ok n s
  have lenO : lenOf (.lst ((odds n s).map Pt.d)) = some (.int (24 : Nat)) := by rw [len_map, hol]
  have lenR := lenR_is r
  have sb : subI (.int ((r.ps.length + 1 : Nat) : Int)) (.int 1) = some (.int (r.ps.length : Nat)) := by
    rw [sub_ii]
    congr 2
    omega
  have mx := maxL_2 1 (r.ps.length : Nat)
  have hM : ∃ M : Nat, 1 ≤ M ∧ M ≤ r.ps.length + 1 ∧ (if (r.ps.length : Int) > 1 then (r.ps.length : Int) else 1) = (M : Int) := by
    by_cases h : (r.ps.length : Int) > 1
    · exact ⟨r.ps.length, by omega, by omega, by rw [if_pos h]⟩
    · exact ⟨1, by omega, by omega, by rw [if_neg h]; rfl⟩
  obtain ⟨M, hM1, hM2, hMe⟩ := hM
  rw [hMe] at mx
  have e1 : lb1 [.d r.d, .d (.int way), .d (.int pick), .d (.int n), .d (.int s), .un, .un, .un, .un, .un] = .nx [.d r.d, .d (.int way), .d (.int pick), .d (.int n), .d (.int s), .d (.lst ((odds n s).map Pt.d)), .un, .un, .un, .un] := by
    unfold lb1
    generalize r.d = RD at *
    generalize (odds n s).map Pt.d = OD at *
    generalize den__law_odd_parts = dp at *
    simp [seq_bNil, bSeq, bNil, sAsg, sAsgO, setO, setD, sIf, sRet, sDrop, sFor, sApp, fC, fVar, fBin, fLate, slotD, fTst, boolD, fAnd, fOr, fNot, fUn, negD, fIf, fBlt, fLenN, fTup, fO, oLst, aNil, aCons, fSl, pNone, pSome, intD, fPop, ownAt, iSeq, iRange1, iRange2, iEnum1, cmpI, ltD, leD, gtD, geD, lenL, gUn, tsCons, tsNil, List.getElem?_cons_zero, List.getElem?_cons_succ, List.set_cons_zero, List.set_cons_succ, List.length_cons, List.length_nil, fCall, od]
  rw [bSeq_app, e1, Fl.seq_nx]
  by_cases h1 : way < 24
  · obtain ⟨o, ho, go⟩ := subL_map Pt.d (xs := odds n s) hw (by rw [hol]; omega)
    have hp0 : (0 : Int) < (M : Int) := by omega
    obtain ⟨q0, q1⟩ := mod_ok pick hp0
    have mo := mod_ii (a := pick) hp0
    have ad := add_ii 1 (pick % (M : Int))
    have ad2 := add_ii (1 + pick % (M : Int)) 1
    have tk := take_r r (p := 1 + pick % (M : Int)) (by omega)
    have dr := drop_r r (p := 1 + pick % (M : Int) + 1) (by omega)
    have lt : ltD (.int way) (.int (24 : Nat)) = some (.bl true) := by
      show some (D.bl (decide (way < ((24 : Nat) : Int)))) = _
      rw [decide_eq_true (by omega)]
    generalize hP : (1 + pick % (M : Int) - 1).toNat = P at *
    generalize hQ : (1 + pick % (M : Int) + 1 - 1).toNat = Q at *
    have c1 := cat_r ⟨r.k, r.ps.take P⟩ [o] (by simp only [List.length_take, List.length_singleton]; omega)
    have c2 := cat_r ⟨r.k, r.ps.take P ++ [o]⟩ (r.ps.drop Q) (by simp only [List.length_append, List.length_take, List.length_singleton, List.length_drop]; omega)
    refine ⟨⟨r.k, r.ps.take P ++ [o] ++ r.ps.drop Q⟩, ?_, okM_of ?_ fun p hp => ?_⟩
    · simp only [List.map_cons, List.map_nil] at c1
      have h1l : 1 ≤ lim := by decide
      unfold lb2
      clear e1 od st hMe hol
      generalize (odds n s).map Pt.d = OD at *
      generalize Rl.d ⟨r.k, r.ps.take P ++ [o] ++ r.ps.drop Q⟩ = R3 at *
      generalize Rl.d ⟨r.k, r.ps.take P ++ [o]⟩ = R2 at *
      generalize Rl.d ⟨r.k, r.ps.take P⟩ = R1 at *
      generalize (r.ps.drop Q).map Pt.d = DL at *
      generalize r.d = RD at *
      generalize o.d = oo at *
      generalize ((r.ps.length + 1 : Nat) : Int) = rj at *
      generalize (r.ps.length : Int) = ri at *
      generalize 1 + pick % (M : Int) + 1 = p2 at *
      generalize 1 + pick % (M : Int) = p1 at *
      generalize pick % (M : Int) = p0 at *
      generalize (M : Int) = Mi at *
      generalize ((24 : Nat) : Int) = n24 at *
      simp [seq_bNil, bSeq, bNil, sAsg, sAsgO, setO, setD, sIf, sRet, sDrop, sFor, sApp, fC, fVar, fBin, fLate, slotD, fTst, boolD, fAnd, fOr, fNot, fUn, negD, fIf, fBlt, fLenN, fTup, fO, oLst, aNil, aCons, fSl, pNone, pSome, intD, fPop, ownAt, iSeq, iRange1, iRange2, iEnum1, lenL, gUn, tsCons, tsNil, List.getElem?_cons_zero, List.getElem?_cons_succ, List.set_cons_zero, List.set_cons_succ, List.length_cons, List.length_nil, int_i, lenO, lt, lenR, sb, mx, mo, ad, tk, go, h1l, c1, ad2, dr, c2, Fl.fin]
    · simp only [List.length_append, List.length_take, List.length_singleton, List.length_drop]
      omega
    · rcases List.mem_append.mp hp with hp | hp
      · rcases List.mem_append.mp hp with hp | hp
        · exact hr.x p (List.mem_of_mem_take hp)
        · rw [List.mem_singleton] at hp
          subst hp
          exact hok _ ho
      · exact hr.x p (List.mem_of_mem_drop hp)
  have lt : ltD (.int way) (.int (24 : Nat)) = some (.bl false) := by
    show some (D.bl (decide (way < ((24 : Nat) : Int)))) = _
    rw [decide_eq_false (by omega)]
  have e2 : lb2 [.d r.d, .d (.int way), .d (.int pick), .d (.int n), .d (.int s), .d (.lst ((odds n s).map Pt.d)), .un, .un, .un, .un] = .nx [.d r.d, .d (.int way), .d (.int pick), .d (.int n), .d (.int s), .d (.lst ((odds n s).map Pt.d)), .un, .un, .un, .un] := by
    unfold lb2
    clear e1 od st hMe hol
    generalize (odds n s).map Pt.d = OD at *
    generalize r.d = RD at *
    generalize ((24 : Nat) : Int) = n24 at *
    simp [seq_bNil, bSeq, bNil, sAsg, sAsgO, setO, setD, sIf, sRet, sDrop, sFor, sApp, fC, fVar, fBin, fLate, slotD, fTst, boolD, fAnd, fOr, fNot, fUn, negD, fIf, fBlt, fLenN, fTup, fO, oLst, aNil, aCons, fSl, pNone, pSome, intD, fPop, ownAt, iSeq, iRange1, iRange2, iEnum1, lenL, gUn, tsCons, tsNil, List.getElem?_cons_zero, List.getElem?_cons_succ, List.set_cons_zero, List.set_cons_succ, List.length_cons, List.length_nil, lenO, lt]
  have sb2 := sub_ii way ((24 : Nat) : Int)
  generalize hrest : way - ((24 : Nat) : Int) = rest at *
  have h13l : 13 ≤ lim := by decide
  have e3 : lb3 [.d r.d, .d (.int way), .d (.int pick), .d (.int n), .d (.int s), .d (.lst ((odds n s).map Pt.d)), .un, .un, .un, .un] = .nx [.d r.d, .d (.int way), .d (.int pick), .d (.int n), .d (.int s), .d (.lst ((odds n s).map Pt.d)), .un, .d (.int rest), .un, .un] := by
    unfold lb3
    clear e1 e2 od st hMe hol
    generalize (odds n s).map Pt.d = OD at *
    generalize r.d = RD at *
    generalize ((24 : Nat) : Int) = n24 at *
    simp [seq_bNil, bSeq, bNil, sAsg, sAsgO, setO, setD, sIf, sRet, sDrop, sFor, sApp, fC, fVar, fBin, fLate, slotD, fTst, boolD, fAnd, fOr, fNot, fUn, negD, fIf, fBlt, fLenN, fTup, fO, oLst, aNil, aCons, fSl, pNone, pSome, intD, fPop, ownAt, iSeq, iRange1, iRange2, iEnum1, lenL, gUn, tsCons, tsNil, List.getElem?_cons_zero, List.getElem?_cons_succ, List.set_cons_zero, List.set_cons_succ, List.length_cons, List.length_nil, lenO, sb2]
  have e4 : lb4 [.d r.d, .d (.int way), .d (.int pick), .d (.int n), .d (.int s), .d (.lst ((odds n s).map Pt.d)), .un, .d (.int rest), .un, .un] = .nx [.d r.d, .d (.int way), .d (.int pick), .d (.int n), .d (.int s), .d (.lst ((odds n s).map Pt.d)), .un, .d (.int rest), .own (kinds13.map D.str), .un] := by
    unfold lb4 kinds13
    clear e1 e2 e3 od st hMe hol
    generalize (odds n s).map Pt.d = OD at *
    generalize r.d = RD at *
    simp [seq_bNil, bSeq, bNil, sAsg, sAsgO, setO, setD, sIf, sRet, sDrop, sFor, sApp, fC, fVar, fBin, fLate, slotD, fTst, boolD, fAnd, fOr, fNot, fUn, negD, fIf, fBlt, fLenN, fTup, fO, oLst, aNil, aCons, fSl, pNone, pSome, intD, fPop, ownAt, iSeq, iRange1, iRange2, iEnum1, lenL, gUn, tsCons, tsNil, List.getElem?_cons_zero, List.getElem?_cons_succ, List.set_cons_zero, List.set_cons_succ, List.length_cons, List.length_nil, h13l]
  rw [bSeq_app, e2, Fl.seq_nx, bSeq_app, e3, Fl.seq_nx, bSeq_app, e4, Fl.seq_nx, bSeq_app]
  have lenK : lenOf (.lst (kinds13.map D.str)) = some (.int ((13 : Nat) : Int)) := len_map _ _
  clear e1 e2 e3 e4 od st lt sb2
  by_cases h2 : rest < 13
  · obtain ⟨k, hk, gk⟩ := subL_map D.str (xs := kinds13) (z := rest) (by omega) h2
    have lt2 : ltD (.int rest) (.int ((13 : Nat) : Int)) = some (.bl true) := by
      show some (D.bl (decide (rest < ((13 : Nat) : Int)))) = _
      rw [decide_eq_true (by omega)]
    have tl := tl_is r
    have kr := kind_r k r.ps (by omega)
    refine ⟨⟨k, r.ps⟩, ?_, okM_of (by omega) hr.x⟩
    have h1l : 1 ≤ lim := by decide
    unfold lb5
    generalize Rl.d ⟨k, r.ps⟩ = R2 at *
    generalize kinds13.map D.str = KD at *
    generalize (odds n s).map Pt.d = OD at *
    generalize r.ps.map Pt.d = DL at *
    generalize r.d = RD at *
    generalize ((13 : Nat) : Int) = n13 at *
    simp [seq_bNil, bSeq, bNil, sAsg, sAsgO, setO, setD, sIf, sRet, sDrop, sFor, sApp, fC, fVar, fBin, fLate, slotD, fTst, boolD, fAnd, fOr, fNot, fUn, negD, fIf, fBlt, fLenN, fTup, fO, oLst, aNil, aCons, fSl, pNone, pSome, intD, fPop, ownAt, iSeq, iRange1, iRange2, iEnum1, lenL, gUn, tsCons, tsNil, List.getElem?_cons_zero, List.getElem?_cons_succ, List.set_cons_zero, List.set_cons_succ, List.length_cons, List.length_nil, lenK, lt2, gk, h1l, tl, kr, Fl.fin]
  have lt2 : ltD (.int rest) (.int ((13 : Nat) : Int)) = some (.bl false) := by
    show some (D.bl (decide (rest < ((13 : Nat) : Int)))) = _
    rw [decide_eq_false (by omega)]
  have e5 : lb5 [.d r.d, .d (.int way), .d (.int pick), .d (.int n), .d (.int s), .d (.lst ((odds n s).map Pt.d)), .un, .d (.int rest), .own (kinds13.map D.str), .un] = .nx [.d r.d, .d (.int way), .d (.int pick), .d (.int n), .d (.int s), .d (.lst ((odds n s).map Pt.d)), .un, .d (.int rest), .own (kinds13.map D.str), .un] := by
    unfold lb5
    generalize kinds13.map D.str = KD at *
    generalize (odds n s).map Pt.d = OD at *
    generalize r.d = RD at *
    generalize ((13 : Nat) : Int) = n13 at *
    simp [seq_bNil, bSeq, bNil, sAsg, sAsgO, setO, setD, sIf, sRet, sDrop, sFor, sApp, fC, fVar, fBin, fLate, slotD, fTst, boolD, fAnd, fOr, fNot, fUn, negD, fIf, fBlt, fLenN, fTup, fO, oLst, aNil, aCons, fSl, pNone, pSome, intD, fPop, ownAt, iSeq, iRange1, iRange2, iEnum1, lenL, gUn, tsCons, tsNil, List.getElem?_cons_zero, List.getElem?_cons_succ, List.set_cons_zero, List.set_cons_succ, List.length_cons, List.length_nil, lenK, lt2]
  have t1 := take_r r (p := (M : Int)) (by omega)
  have t2 := take_r r (p := 1) (by omega)
  have t3 := take_r r (p := 2) (by omega)
  have tl := tl_is r
  have c1 := cat_r r [.s "a"] (by simp only [List.length_singleton]; omega)
  have c2 := cat_r r [.i 0] (by simp only [List.length_singleton]; omega)
  have c3 := cat_r r r.ps (by omega)
  have c4 := cat_r ⟨r.k, r.ps.take ((1 : Int) - 1).toNat⟩ r.ps.reverse (by simp only [List.length_take, List.length_reverse]; omega)
  let ways : List Rl := [⟨r.k, r.ps.take ((M : Int) - 1).toNat⟩, ⟨r.k, r.ps ++ [.s "a"]⟩, ⟨r.k, r.ps ++ [.i 0]⟩, ⟨r.k, r.ps.take ((1 : Int) - 1).toNat⟩, ⟨r.k, r.ps ++ r.ps⟩, ⟨r.k, r.ps.take ((1 : Int) - 1).toNat ++ r.ps.reverse⟩, ⟨r.k, r.ps.take ((2 : Int) - 1).toNat⟩]
  have hok : ∀ w ∈ ways, OkM (2 * m + 1) w := fun w hw => by
    have oks := okP_s (x := "a") (by decide +kernel)
    simp only [ways, List.mem_cons, List.not_mem_nil, or_false] at hw
    rcases hw with rfl | rfl | rfl | rfl | rfl | rfl | rfl
    · exact okM_of (by rw [List.length_take]; omega) fun p hp => hr.x p (List.mem_of_mem_take hp)
    · refine okM_of (by rw [List.length_append, List.length_singleton]; omega) fun p hp => ?_
      rcases List.mem_append.mp hp with hp | hp
      · exact hr.x p hp
      · rw [List.mem_singleton] at hp
        subst hp
        exact oks
    · refine okM_of (by rw [List.length_append, List.length_singleton]; omega) fun p hp => ?_
      rcases List.mem_append.mp hp with hp | hp
      · exact hr.x p hp
      · rw [List.mem_singleton] at hp
        subst hp
        exact okP_i _
    · exact okM_of (by rw [List.length_take]; omega) fun p hp => hr.x p (List.mem_of_mem_take hp)
    · refine okM_of (by rw [List.length_append]; omega) fun p hp => ?_
      rcases List.mem_append.mp hp with hp | hp
      · exact hr.x p hp
      · exact hr.x p hp
    · refine okM_of (by rw [List.length_append, List.length_take, List.length_reverse]; omega) fun p hp => ?_
      rcases List.mem_append.mp hp with hp | hp
      · exact hr.x p (List.mem_of_mem_take hp)
      · exact hr.x p (List.mem_reverse.mp hp)
    · exact okM_of (by rw [List.length_take]; omega) fun p hp => hr.x p (List.mem_of_mem_take hp)
  have e6 : lb6 [.d r.d, .d (.int way), .d (.int pick), .d (.int n), .d (.int s), .d (.lst ((odds n s).map Pt.d)), .un, .d (.int rest), .own (kinds13.map D.str), .un] = .nx [.d r.d, .d (.int way), .d (.int pick), .d (.int n), .d (.int s), .d (.lst ((odds n s).map Pt.d)), .un, .d (.int rest), .own (kinds13.map D.str), .own (ways.map Rl.d)] := by
    have hw : ways.map Rl.d = [Rl.d ⟨r.k, r.ps.take ((M : Int) - 1).toNat⟩, Rl.d ⟨r.k, r.ps ++ [.s "a"]⟩, Rl.d ⟨r.k, r.ps ++ [.i 0]⟩, Rl.d ⟨r.k, r.ps.take ((1 : Int) - 1).toNat⟩, Rl.d ⟨r.k, r.ps ++ r.ps⟩, Rl.d ⟨r.k, r.ps.take ((1 : Int) - 1).toNat ++ r.ps.reverse⟩, Rl.d ⟨r.k, r.ps.take ((2 : Int) - 1).toNat⟩] := rfl
    rw [hw]
    clear hw hok
    clear_value ways
    have h1l : 1 ≤ lim := by decide
    have h7l : 7 ≤ lim := by decide
    have d1 : [Pt.s "a"].map Pt.d = [.str "a"] := rfl
    have d2 : [Pt.i 0].map Pt.d = [.int 0] := rfl
    rw [d1] at c1
    rw [d2] at c2
    rw [List.map_reverse] at c4
    unfold lb6
    generalize Rl.d ⟨r.k, r.ps.take ((M : Int) - 1).toNat⟩ = R1 at *
    generalize Rl.d ⟨r.k, r.ps ++ [.s "a"]⟩ = R2 at *
    generalize Rl.d ⟨r.k, r.ps ++ [.i 0]⟩ = R3 at *
    generalize Rl.d ⟨r.k, r.ps.take ((1 : Int) - 1).toNat ++ r.ps.reverse⟩ = R6 at *
    generalize Rl.d ⟨r.k, r.ps.take ((1 : Int) - 1).toNat⟩ = R4 at *
    generalize Rl.d ⟨r.k, r.ps ++ r.ps⟩ = R5 at *
    generalize Rl.d ⟨r.k, r.ps.take ((2 : Int) - 1).toNat⟩ = R7 at *
    generalize kinds13.map D.str = KD at *
    generalize (odds n s).map Pt.d = OD at *
    generalize r.ps.map Pt.d = DL at *
    generalize r.d = RD at *
    generalize ((r.ps.length + 1 : Nat) : Int) = rj at *
    generalize (r.ps.length : Int) = ri at *
    generalize (M : Int) = Mi at *
    simp [seq_bNil, bSeq, bNil, sAsg, sAsgO, setO, setD, sIf, sRet, sDrop, sFor, sApp, fC, fVar, fBin, fLate, slotD, fTst, boolD, fAnd, fOr, fNot, fUn, negD, fIf, fBlt, fLenN, fTup, fO, oLst, aNil, aCons, fSl, pNone, pSome, intD, fPop, ownAt, iSeq, iRange1, iRange2, iEnum1, lenL, gUn, tsCons, tsNil, List.getElem?_cons_zero, List.getElem?_cons_succ, List.set_cons_zero, List.set_cons_succ, List.length_cons, List.length_nil, fRev, lenR, sb, mx, t1, h1l, c1, c2, t2, tl, c3, c4, t3, h7l]
  rw [e5, Fl.seq_nx, bSeq_app, e6, Fl.seq_nx]
  have sb3 := sub_ii rest ((13 : Nat) : Int)
  generalize rest - ((13 : Nat) : Int) = rr at *
  obtain ⟨v0, v1⟩ := mod_ok rr (b := ((7 : Nat) : Int)) (by decide)
  have mo := mod_ii (a := rr) (b := ((7 : Nat) : Int)) (by decide)
  have hwl : ways.length = 7 := rfl
  obtain ⟨w, hw, gw⟩ := subL_map Rl.d (xs := ways) v0 (by rw [hwl]; exact v1)
  have lenW : lenOf (.lst (ways.map Rl.d)) = some (.int ((7 : Nat) : Int)) := len_map _ _
  refine ⟨w, ?_, hok w hw⟩
  clear e5 e6 hok hw hwl
  clear_value ways
  unfold lb7
  generalize ways.map Rl.d = WD at *
  generalize kinds13.map D.str = KD at *
  generalize (odds n s).map Pt.d = OD at *
  generalize w.d = wd at *
  generalize r.d = RD at *
  generalize ((13 : Nat) : Int) = n13 at *
  generalize rr % ((7 : Nat) : Int) = z7 at *
  generalize ((7 : Nat) : Int) = n7 at *
  simp [seq_bNil, bSeq, bNil, sAsg, sAsgO, setO, setD, sIf, sRet, sDrop, sFor, sApp, fC, fVar, fBin, fLate, slotD, fTst, boolD, fAnd, fOr, fNot, fUn, negD, fIf, fBlt, fLenN, fTup, fO, oLst, aNil, aCons, fSl, pNone, pSome, intD, fPop, ownAt, iSeq, iRange1, iRange2, iEnum1, lenL, gUn, tsCons, tsNil, List.getElem?_cons_zero, List.getElem?_cons_succ, List.set_cons_zero, List.set_cons_succ, List.length_cons, List.length_nil, int_i, lenK, sb3, lenW, mo, gw, Fl.fin]
end G
set_option Elab.async false
set_option linter.all false
set_option maxRecDepth 100000
set_option maxHeartbeats 4000000
/-! R19: the drawn rules. -/
namespace G
open PySem PySem.Spec L2 PD
def lrPop : En → Fl := (bSeq (sApp 5 (fTup (aCons (fC (.str "pop")) (aCons (fBin mulD (fVar 6) (fVar 3)) (aCons (fBin mulD (fVar 7) (fVar 4)) (aCons (fBin mulD (fBin modI (fBlt intL (aCons (fLate 0 subD (fBin addD (fBin addD (fC (.int 61)) (fBin mulD (fC (.int 3)) (fVar 6))) (fVar 7))) aNil)) (fVar 1)) (fVar 3)) aNil)))))) bNil)
def lrStop : En → Fl := (sApp 5 (fTup (aCons (fC (.str "stop")) (aCons (fBin mulD (fVar 6) (fVar 3)) (aCons (fCall den__law_text (aCons (fLate 0 subD (fBin addD (fC (.int 57)) (fVar 6))) aNil) []) aNil)))))
def lrLoop : En → Fl := (bSeq lrStop (bSeq (sFor (iRange1 (aCons (fVar 2) aNil)) (setD 7) lrPop) bNil))
def lrDraw : En → Fl := (bSeq (sApp 5 (fCall den__law_rule (aCons (fSl (fVar 0) (pSome (fBin addD (fC (.int 12)) (fBin mulD (fC (.int 5)) (fVar 6)))) (pSome (fBin addD (fC (.int 17)) (fBin mulD (fC (.int 5)) (fVar 6))))) (aCons (fVar 1) (aCons (fVar 2) (aCons (fVar 3) (aCons (fVar 4) aNil))))) [])) bNil)
def lr1 : En → Fl := (sAsgO (oLst aNil) 5)
def lr2 : En → Fl := (sIf (fTst boolD (fBin gtD (fBin modI (fBlt intL (aCons (fLate 0 subD (fC (.int 3))) aNil)) (fC (.int 4))) (fC (.int 0)))) (bSeq (sFor (iRange1 (aCons (fVar 1) aNil)) (setD 6) lrLoop) bNil) bNil)
def lr3 : En → Fl := (sFor (iRange1 (aCons (fBin addD (fBin modI (fBlt intL (aCons (fLate 0 subD (fC (.int 1))) aNil)) (fC (.int 9))) (fC (.int 1))) aNil)) (setD 6) lrDraw)
def lr4 : En → Fl := (sAsg (fBin modI (fBlt intL (aCons (fLate 0 subD (fC (.int 2))) aNil)) (fLenN 5)) (setD 8))
def lr5 : En → Fl := (sRet (fBin addD (fSl (fVar 5) (pSome (fVar 8)) pNone) (fSl (fVar 5) pNone (pSome (fVar 8)))))
theorem lr_is : bod__law_rules = (bSeq lr1 (bSeq lr2 (bSeq lr3 (bSeq lr4 (bSeq lr5 bNil))))) := rfl
/-- the list that grows: k rules or more, at most j -/
def Grow (R : List Int) (n s : Int) (k j : Nat) (ρ : En) : Prop := ∃ (rs : List Rl) (x6 x7 x8 : Sl), ρ = [.d (.lst (R.map D.int)), .d (.int n), .d (.int s), .d (.int 1), .d (.int 1), .own (rs.map Rl.d), x6, x7, x8] ∧ k ≤ rs.length ∧ rs.length ≤ j ∧ ∀ r ∈ rs, OkM 4 r
theorem grow_app {rs : List Rl} {r : Rl} (h : ∀ r ∈ rs, OkM 4 r) (hr : OkM 4 r) : ∀ x ∈ rs ++ [r], OkM 4 x := fun x hx => by
  rcases List.mem_append.mp hx with hx | hx
  · exact h x hx
  · rw [List.mem_singleton] at hx
    subst hx
    exact hr
theorem mul1 (a : Int) : mulD (.int a) (.int 1) = some (.int a) := by rw [mulD_ii (by decide), Int.mul_one]
theorem rules_is {R : List Int} {n s : Nat} (hR : RowOk 240 R) (hn : 0 < n) (hn4 : n ≤ 4) (hs3 : s ≤ 3) :
    ∃ rs : List Rl, den__law_rules [.lst (R.map D.int), .int n, .int s, .int 1, .int 1] = .ok (.lst (rs.map Rl.d)) ∧ 1 ≤ rs.length ∧ rs.length ≤ 100 ∧ ∀ r ∈ rs, OkM 4 r := by
  have hlim : (50000 : Nat) < lim := by decide
  have st : den__law_rules [.lst (R.map D.int), .int n, .int s, .int 1, .int 1] = (bod__law_rules [.d (.lst (R.map D.int)), .d (.int n), .d (.int s), .d (.int 1), .d (.int 1), .un, .un, .un, .un]).fin := rfl
  rw [st, lr_is]
  have e1 : lr1 [.d (.lst (R.map D.int)), .d (.int n), .d (.int s), .d (.int 1), .d (.int 1), .un, .un, .un, .un] = .nx [.d (.lst (R.map D.int)), .d (.int n), .d (.int s), .d (.int 1), .d (.int 1), .own [], .un, .un, .un] := rfl
  rw [bSeq_app, e1, Fl.seq_nx]
  obtain ⟨r3, _, g3⟩ := hR.at (i := 3) (by decide) (by decide)
  obtain ⟨r1, _, g1⟩ := hR.at (i := 1) (by decide) (by decide)
  obtain ⟨r2, _, g2⟩ := hR.at (i := 2) (by decide) (by decide)
  have e2 : ∃ ρ, lr2 [.d (.lst (R.map D.int)), .d (.int n), .d (.int s), .d (.int 1), .d (.int 1), .own [], .un, .un, .un] = .nx ρ ∧ Grow R n s 0 16 ρ := by
    obtain ⟨q0, q1⟩ := mod_ok r3 (b := 4) (by decide)
    have mo := mod_ii (a := r3) (b := 4) (by decide)
    by_cases hz : 0 < r3 % 4
    · have t : fTst boolD (fBin gtD (fBin modI (fBlt intL (aCons (fLate 0 subD (fC (.int 3))) aNil)) (fC (.int 4))) (fC (.int 0))) [.d (.lst (R.map D.int)), .d (.int n), .d (.int s), .d (.int 1), .d (.int 1), .own [], .un, .un, .un] = .ok true [.d (.lst (R.map D.int)), .d (.int n), .d (.int s), .d (.int 1), .d (.int 1), .own [], .un, .un, .un] := by
        have gt : gtD (.int (r3 % 4)) (.int 0) = some (.bl true) := by
          show some (D.bl (decide (r3 % 4 > 0))) = _
          rw [decide_eq_true (by omega)]
        generalize R.map D.int = RD at *
        generalize r3 % 4 = z4 at *
        simp [seq_bNil, bSeq, bNil, sAsg, sAsgO, setO, setD, sIf, sRet, sDrop, sFor, sApp, fC, fVar, fBin, fLate, slotD, fTst, boolD, fAnd, fOr, fNot, fUn, negD, fIf, fBlt, fLenN, fTup, fO, oLst, aNil, aCons, fSl, pNone, pSome, intD, fPop, ownAt, iSeq, iRange1, iRange2, iEnum1, lenL, gUn, tsCons, tsNil, List.getElem?_cons_zero, List.getElem?_cons_succ, List.set_cons_zero, List.set_cons_succ, List.length_cons, List.length_nil, int_i, g3, mo, gt]
      have hRn : okR (n : Nat) = true := okR_nat (by omega)
      have e3 : sFor (iRange1 (aCons (fVar 1) aNil)) (setD 6) lrLoop [.d (.lst (R.map D.int)), .d (.int n), .d (.int s), .d (.int 1), .d (.int 1), .own [], .un, .un, .un] = forD (setD 6) lrLoop (dRange 0 n) [.d (.lst (R.map D.int)), .d (.int n), .d (.int s), .d (.int 1), .d (.int 1), .own [], .un, .un, .un] := by
        generalize lrLoop = L
        generalize R.map D.int = RD at *
        simp [seq_bNil, bSeq, bNil, sAsg, sAsgO, setO, setD, sIf, sRet, sDrop, sFor, sApp, fC, fVar, fBin, fLate, slotD, fTst, boolD, fAnd, fOr, fNot, fUn, negD, fIf, fBlt, fLenN, fTup, fO, oLst, aNil, aCons, fSl, pNone, pSome, intD, fPop, ownAt, iSeq, iRange1, iRange2, iEnum1, cmpI, ltD, leD, gtD, geD, lenL, gUn, tsCons, tsNil, List.getElem?_cons_zero, List.getElem?_cons_succ, List.set_cons_zero, List.set_cons_succ, List.length_cons, List.length_nil, hRn]
      obtain ⟨ρ', e, hg⟩ := forD_thru (g := setD 6) (f := lrLoop) (fun i ρ => Grow R n s i (4 * i) ρ) (ds := dRange 0 n) (ρ := [.d (.lst (R.map D.int)), .d (.int n), .d (.int s), .d (.int 1), .d (.int 1), .own [], .un, .un, .un]) (fun i d ρ hd hi => by
        obtain ⟨rs, x6, x7, x8, rfl, k1, k2, k3⟩ := hi
        obtain ⟨h1, rfl⟩ := dRange_inv0 hd
        obtain ⟨c, _, gc⟩ := hR.at (i := 57 + (i : Nat)) (by omega) (by omega)
        obtain ⟨t, dt, lt⟩ := text_is c
        have a57 := add_ii 57 (i : Nat)
        have m1 := mul1 (i : Nat)
        have hll : (rs.map Rl.d).length < lim := by rw [List.length_map]; omega
        have h3l : 3 ≤ lim := by decide
        have f1 : (setD 6 (.int (i : Nat)) [.d (.lst (R.map D.int)), .d (.int n), .d (.int s), .d (.int 1), .d (.int 1), .own (rs.map Rl.d), x6, x7, x8]).seq lrStop = .nx [.d (.lst (R.map D.int)), .d (.int n), .d (.int s), .d (.int 1), .d (.int 1), .own ((rs ++ [Rl.mk "stop" [.i (i : Nat), .s t]]).map Rl.d), .d (.int (i : Nat)), x7, x8] := by
          rw [List.map_append]
          have : [Rl.mk "stop" [.i (i : Nat), .s t]].map Rl.d = [.tup [.str "stop", .int (i : Nat), .str t]] := rfl
          rw [this]
          unfold lrStop
          generalize den__law_text = dtx at *
          generalize rs.map Rl.d = RS at *
          generalize R.map D.int = RD at *
          generalize 57 + (i : Int) = i57 at *
          generalize (i : Int) = ii at *
          simp [seq_bNil, bSeq, bNil, sAsg, sAsgO, setO, setD, sIf, sRet, sDrop, sFor, sApp, fC, fVar, fBin, fLate, slotD, fTst, boolD, fAnd, fOr, fNot, fUn, negD, fIf, fBlt, fLenN, fTup, fO, oLst, aNil, aCons, fSl, pNone, pSome, intD, fPop, ownAt, iSeq, iRange1, iRange2, iEnum1, cmpI, ltD, leD, gtD, geD, lenL, gUn, tsCons, tsNil, List.getElem?_cons_zero, List.getElem?_cons_succ, List.set_cons_zero, List.set_cons_succ, List.length_cons, List.length_nil, fCall, a57, gc, dt, m1, h3l, hll]
        have hR2 : okR (s : Nat) = true := okR_nat (by omega)
        have ks : ∀ r ∈ rs ++ [Rl.mk "stop" [.i (i : Nat), .s t]], OkM 4 r := grow_app k3 (okM_of (by simp) fun p hp => by
          simp only [List.mem_cons, List.not_mem_nil, or_false] at hp
          rcases hp with rfl | rfl
          · exact okP_i _
          · exact okP_s (by omega))
        have hln : (rs ++ [Rl.mk "stop" [.i (i : Nat), .s t]]).length = rs.length + 1 := by simp
        generalize rs ++ [Rl.mk "stop" [.i (i : Nat), .s t]] = rs1 at *
        have e4 : sFor (iRange1 (aCons (fVar 2) aNil)) (setD 7) lrPop [.d (.lst (R.map D.int)), .d (.int n), .d (.int s), .d (.int 1), .d (.int 1), .own (rs1.map Rl.d), .d (.int (i : Nat)), x7, x8] = forD (setD 7) lrPop (dRange 0 s) [.d (.lst (R.map D.int)), .d (.int n), .d (.int s), .d (.int 1), .d (.int 1), .own (rs1.map Rl.d), .d (.int (i : Nat)), x7, x8] := by
          generalize lrPop = L
          generalize R.map D.int = RD at *
          generalize rs1.map Rl.d = RS at *
          generalize (i : Int) = ii at *
          simp [seq_bNil, bSeq, bNil, sAsg, sAsgO, setO, setD, sIf, sRet, sDrop, sFor, sApp, fC, fVar, fBin, fLate, slotD, fTst, boolD, fAnd, fOr, fNot, fUn, negD, fIf, fBlt, fLenN, fTup, fO, oLst, aNil, aCons, fSl, pNone, pSome, intD, fPop, ownAt, iSeq, iRange1, iRange2, iEnum1, cmpI, ltD, leD, gtD, geD, lenL, gUn, tsCons, tsNil, List.getElem?_cons_zero, List.getElem?_cons_succ, List.set_cons_zero, List.set_cons_succ, List.length_cons, List.length_nil, hR2]
        obtain ⟨ρ2, e5, rs2, y7, rfl, j1, j2⟩ := forD_thru (g := setD 7) (f := lrPop) (fun f ρ => ∃ (rs2 : List Rl) (y7 : Sl), ρ = [.d (.lst (R.map D.int)), .d (.int n), .d (.int s), .d (.int 1), .d (.int 1), .own (rs2.map Rl.d), .d (.int (i : Nat)), y7, x8] ∧ rs2.length = rs1.length + f ∧ ∀ r ∈ rs2, OkM 4 r) (ds := dRange 0 s) (ρ := [.d (.lst (R.map D.int)), .d (.int n), .d (.int s), .d (.int 1), .d (.int 1), .own (rs1.map Rl.d), .d (.int (i : Nat)), x7, x8]) (fun f d ρ hd hi => by
          obtain ⟨rs2, y7, rfl, j1, j2⟩ := hi
          obtain ⟨h2, rfl⟩ := dRange_inv0 hd
          obtain ⟨c, _, gc2⟩ := hR.at (i := 61 + 3 * (i : Nat) + (f : Nat)) (by omega) (by omega)
          have m3 : mulD (.int 3) (.int (i : Nat)) = some (.int (3 * (i : Nat))) := mulD_ii (by omega)
          have a61 := add_ii 61 (3 * (i : Nat))
          have af := add_ii (61 + 3 * (i : Nat)) (f : Nat)
          have mo := mod_ii (a := c) (b := (n : Int)) (by omega)
          have m1 := mul1 (i : Nat)
          have m2 := mul1 (f : Nat)
          have m4 := mul1 (c % (n : Int))
          have hll : (rs2.map Rl.d).length < lim := by rw [List.length_map]; omega
          have h4l : 4 ≤ lim := by decide
          refine ⟨[.d (.lst (R.map D.int)), .d (.int n), .d (.int s), .d (.int 1), .d (.int 1), .own ((rs2 ++ [Rl.mk "pop" [.i (i : Nat), .i (f : Nat), .i (c % (n : Int))]]).map Rl.d), .d (.int (i : Nat)), .d (.int (f : Nat)), x8], .inl ?_, _, _, rfl, by rw [List.length_append, List.length_singleton]; omega, grow_app j2 (okM_of (by simp) fun p hp => by
            simp only [List.mem_cons, List.not_mem_nil, or_false] at hp
            rcases hp with rfl | rfl | rfl <;> exact okP_i _)⟩
          rw [List.map_append]
          have : [Rl.mk "pop" [.i (i : Nat), .i (f : Nat), .i (c % (n : Int))]].map Rl.d = [.tup [.str "pop", .int (i : Nat), .int (f : Nat), .int (c % (n : Int))]] := rfl
          rw [this]
          unfold lrPop
          generalize rs2.map Rl.d = RS at *
          generalize R.map D.int = RD at *
          generalize 61 + 3 * (i : Int) + (f : Int) = w3 at *
          generalize 61 + 3 * (i : Int) = w2 at *
          generalize 3 * (i : Int) = w1 at *
          generalize c % (n : Int) = cn at *
          generalize (i : Int) = ii at *
          generalize (f : Int) = fi at *
          generalize (n : Int) = ni at *
          generalize (s : Int) = si at *
          simp [seq_bNil, bSeq, bNil, sAsg, sAsgO, setO, setD, sIf, sRet, sDrop, sFor, sApp, fC, fVar, fBin, fLate, slotD, fTst, boolD, fAnd, fOr, fNot, fUn, negD, fIf, fBlt, fLenN, fTup, fO, oLst, aNil, aCons, fSl, pNone, pSome, intD, fPop, ownAt, iSeq, iRange1, iRange2, iEnum1, cmpI, ltD, leD, gtD, geD, lenL, gUn, tsCons, tsNil, List.getElem?_cons_zero, List.getElem?_cons_succ, List.set_cons_zero, List.set_cons_succ, List.length_cons, List.length_nil, int_i, m1, m2, m3, a61, af, gc2, mo, m4, h4l, hll]) ⟨rs1, x7, rfl, by omega, ks⟩
        rw [dRange_len] at j1
        refine ⟨[.d (.lst (R.map D.int)), .d (.int n), .d (.int s), .d (.int 1), .d (.int 1), .own (rs2.map Rl.d), .d (.int (i : Nat)), y7, x8], .inl ?_, rs2, _, _, _, rfl, by omega, by omega, j2⟩
        unfold lrLoop
        rw [seq_bSeq, f1, Fl.seq_nx, bSeq_app, e4, e5]
        rfl) ⟨[], .un, .un, .un, rfl, by simp, by simp, fun r hr => by cases hr⟩
      obtain ⟨rs, x6, x7, x8, rfl, k1, k2, k3⟩ := hg
      rw [dRange_len] at k2
      refine ⟨_, ?_, rs, x6, x7, x8, rfl, by omega, by omega, k3⟩
      unfold lr2
      rw [sIf_t t, bSeq_app, e3, e]
      rfl
    · refine ⟨_, ?_, [], .un, .un, .un, rfl, by simp, by simp, fun r hr => by cases hr⟩
      have gt : gtD (.int (r3 % 4)) (.int 0) = some (.bl false) := by
        show some (D.bl (decide (r3 % 4 > 0))) = _
        rw [decide_eq_false (by omega)]
      unfold lr2
      generalize R.map D.int = RD at *
      generalize r3 % 4 = z4 at *
      simp [seq_bNil, bSeq, bNil, sAsg, sAsgO, setO, setD, sIf, sRet, sDrop, sFor, sApp, fC, fVar, fBin, fLate, slotD, fTst, boolD, fAnd, fOr, fNot, fUn, negD, fIf, fBlt, fLenN, fTup, fO, oLst, aNil, aCons, fSl, pNone, pSome, intD, fPop, ownAt, iSeq, iRange1, iRange2, iEnum1, lenL, gUn, tsCons, tsNil, List.getElem?_cons_zero, List.getElem?_cons_succ, List.set_cons_zero, List.set_cons_succ, List.length_cons, List.length_nil, int_i, g3, mo, gt]
  obtain ⟨ρ2, e2, rs, x6, x7, x8, rfl, k1, k2, k3⟩ := e2
  rw [bSeq_app, e2, Fl.seq_nx]
  obtain ⟨q0, q1⟩ := mod_ok r1 (b := 9) (by decide)
  have mo9 := mod_ii (a := r1) (b := 9) (by decide)
  have a91 := add_ii (r1 % 9) 1
  obtain ⟨c, hc⟩ : ∃ c : Nat, r1 % 9 + 1 = (c : Int) := ⟨(r1 % 9 + 1).toNat, by omega⟩
  rw [hc] at a91
  have hc9 : 1 ≤ c ∧ c ≤ 9 := by omega
  have hRc : okR (c : Nat) = true := okR_nat (by omega)
  have e3 : lr3 [.d (.lst (R.map D.int)), .d (.int n), .d (.int s), .d (.int 1), .d (.int 1), .own (rs.map Rl.d), x6, x7, x8] = forD (setD 6) lrDraw (dRange 0 c) [.d (.lst (R.map D.int)), .d (.int n), .d (.int s), .d (.int 1), .d (.int 1), .own (rs.map Rl.d), x6, x7, x8] := by
    unfold lr3
    generalize lrDraw = L
    generalize R.map D.int = RD at *
    generalize rs.map Rl.d = RS at *
    generalize r1 % 9 = z9 at *
    simp [seq_bNil, bSeq, bNil, sAsg, sAsgO, setO, setD, sIf, sRet, sDrop, sFor, sApp, fC, fVar, fBin, fLate, slotD, fTst, boolD, fAnd, fOr, fNot, fUn, negD, fIf, fBlt, fLenN, fTup, fO, oLst, aNil, aCons, fSl, pNone, pSome, intD, fPop, ownAt, iSeq, iRange1, iRange2, iEnum1, cmpI, ltD, leD, gtD, geD, lenL, gUn, tsCons, tsNil, List.getElem?_cons_zero, List.getElem?_cons_succ, List.set_cons_zero, List.set_cons_succ, List.length_cons, List.length_nil, int_i, g1, mo9, a91, hRc]
  obtain ⟨ρ3, e4, rs3, y6, y7, y8, rfl, j1, j2, j3⟩ := forD_thru (g := setD 6) (f := lrDraw) (fun i ρ => Grow R n s i (16 + i) ρ) (ds := dRange 0 c) (ρ := [.d (.lst (R.map D.int)), .d (.int n), .d (.int s), .d (.int 1), .d (.int 1), .own (rs.map Rl.d), x6, x7, x8]) (fun i d ρ hd hi => by
    obtain ⟨rs, x6, x7, x8, rfl, k1, k2, k3⟩ := hi
    obtain ⟨h1, rfl⟩ := dRange_inv0 hd
    have hRl := hR.1
    have m5 : mulD (.int 5) (.int (i : Nat)) = some (.int (5 * (i : Nat))) := mulD_ii (by omega)
    have a12 := add_ii 12 (5 * (i : Nat))
    have a17 := add_ii 17 (5 * (i : Nat))
    have sl : slD (.lst (R.map D.int)) (some (12 + 5 * (i : Nat))) (some (17 + 5 * (i : Nat))) = some (.lst (((R.drop (12 + 5 * (i : Int)).toNat).take (17 + 5 * (i : Int) - (12 + 5 * (i : Int))).toNat).map D.int)) := by
      show some (D.lst _) = _
      rw [cut_mid D.int R (by omega) (by omega) (by omega)]
    have hcl : 5 ≤ ((R.drop (12 + 5 * (i : Int)).toNat).take (17 + 5 * (i : Int) - (12 + 5 * (i : Int))).toNat).length := by
      rw [List.length_take, List.length_drop]
      omega
    generalize (R.drop (12 + 5 * (i : Int)).toNat).take (17 + 5 * (i : Int) - (12 + 5 * (i : Int))).toNat = cs at *
    obtain ⟨r, dr, hr⟩ := rule_is (n := (n : Int)) (s := (s : Int)) hcl (by omega) (by omega)
    have hll : (rs.map Rl.d).length < lim := by rw [List.length_map]; omega
    refine ⟨[.d (.lst (R.map D.int)), .d (.int n), .d (.int s), .d (.int 1), .d (.int 1), .own ((rs ++ [r]).map Rl.d), .d (.int (i : Nat)), x7, x8], .inl ?_, rs ++ [r], _, _, _, rfl, by rw [List.length_append, List.length_singleton]; omega, by rw [List.length_append, List.length_singleton]; omega, grow_app k3 hr⟩
    rw [List.map_append]
    show _ = Fl.nx [.d (.lst (R.map D.int)), .d (.int n), .d (.int s), .d (.int 1), .d (.int 1), .own (rs.map Rl.d ++ [r.d]), .d (.int (i : Nat)), x7, x8]
    unfold lrDraw
    generalize den__law_rule = dru at *
    generalize rs.map Rl.d = RS at *
    generalize R.map D.int = RD at *
    generalize cs.map D.int = CD at *
    generalize r.d = rd at *
    generalize 12 + 5 * (i : Int) = w12 at *
    generalize 17 + 5 * (i : Int) = w17 at *
    generalize 5 * (i : Int) = w5 at *
    generalize (i : Int) = ii at *
    simp [seq_bNil, bSeq, bNil, sAsg, sAsgO, setO, setD, sIf, sRet, sDrop, sFor, sApp, fC, fVar, fBin, fLate, slotD, fTst, boolD, fAnd, fOr, fNot, fUn, negD, fIf, fBlt, fLenN, fTup, fO, oLst, aNil, aCons, fSl, pNone, pSome, intD, fPop, ownAt, iSeq, iRange1, iRange2, iEnum1, cmpI, ltD, leD, gtD, geD, lenL, gUn, tsCons, tsNil, List.getElem?_cons_zero, List.getElem?_cons_succ, List.set_cons_zero, List.set_cons_succ, List.length_cons, List.length_nil, fCall, m5, a12, a17, sl, dr, hll]) ⟨rs, x6, x7, x8, rfl, by omega, by omega, k3⟩
  rw [dRange_len] at j1 j2
  rw [bSeq_app, e3, e4, Fl.seq_nx]
  have hp : (0 : Int) < ((rs3.length : Nat) : Int) := by omega
  obtain ⟨v0, v1⟩ := mod_ok r2 hp
  have mo := mod_ii (a := r2) hp
  have lenR : lenOf (.lst (rs3.map Rl.d)) = some (.int (rs3.length : Nat)) := len_map _ _
  have sd := slL_drop Rl.d rs3 (p := r2 % ((rs3.length : Nat) : Int)) v0
  have sk := slL_take Rl.d rs3 (p := r2 % ((rs3.length : Nat) : Int)) v0
  have cat := addL' (a := (rs3.drop (r2 % ((rs3.length : Nat) : Int)).toNat).map Rl.d) (b := (rs3.take (r2 % ((rs3.length : Nat) : Int)).toNat).map Rl.d) (by
    rw [List.length_map, List.length_map, List.length_drop, List.length_take]
    omega)
  rw [← List.map_append] at cat
  refine ⟨rs3.drop (r2 % ((rs3.length : Nat) : Int)).toNat ++ rs3.take (r2 % ((rs3.length : Nat) : Int)).toNat, ?_, ?_, ?_, fun r hr => ?_⟩
  · unfold lr4 lr5
    generalize (rs3.drop (r2 % ((rs3.length : Nat) : Int)).toNat ++ rs3.take (r2 % ((rs3.length : Nat) : Int)).toNat).map Rl.d = C3 at *
    generalize (rs3.drop (r2 % ((rs3.length : Nat) : Int)).toNat).map Rl.d = C1 at *
    generalize (rs3.take (r2 % ((rs3.length : Nat) : Int)).toNat).map Rl.d = C2 at *
    generalize rs3.map Rl.d = RS at *
    generalize R.map D.int = RD at *
    generalize r2 % ((rs3.length : Nat) : Int) = z at *
    generalize ((rs3.length : Nat) : Int) = l3 at *
    clear e1 e2 e3 e4
    simp [seq_bNil, bSeq, bNil, sAsg, sAsgO, setO, setD, sIf, sRet, sDrop, sFor, sApp, fC, fVar, fBin, fLate, slotD, fTst, boolD, fAnd, fOr, fNot, fUn, negD, fIf, fBlt, fLenN, fTup, fO, oLst, aNil, aCons, fSl, pNone, pSome, intD, fPop, ownAt, iSeq, iRange1, iRange2, iEnum1, cmpI, ltD, leD, gtD, geD, lenL, gUn, tsCons, tsNil, List.getElem?_cons_zero, List.getElem?_cons_succ, List.set_cons_zero, List.set_cons_succ, List.length_cons, List.length_nil, int_i, g2, lenR, mo, sd, sk, cat, Fl.fin]
  · rw [List.length_append, List.length_drop, List.length_take]
    omega
  · rw [List.length_append, List.length_drop, List.length_take]
    omega
  · rcases List.mem_append.mp hr with hr | hr
    · exact j3 r (List.mem_of_mem_drop hr)
    · exact j3 r (List.mem_of_mem_take hr)
end G
set_option Elab.async false
set_option linter.all false
set_option maxRecDepth 100000
set_option maxHeartbeats 4000000
/-! S19: each form alone. -/
namespace G
open PySem PySem.Spec L2 PD
def le1 : En → Fl := (sAsgO (oLst aNil) 2)
def le2 : En → Fl := (sAsgO (oLst (aCons (fTup (aCons (fC (.str "emit")) (aCons (fC (.str "nntt")) aNil))) (aCons (fTup (aCons (fC (.str "before")) (aCons (fC (.str "nnn")) aNil))) (aCons (fTup (aCons (fC (.str "after")) (aCons (fC (.str "nnn")) aNil))) (aCons (fTup (aCons (fC (.str "push")) (aCons (fC (.str "nns")) aNil))) (aCons (fTup (aCons (fC (.str "pop")) (aCons (fC (.str "nsn")) aNil))) (aCons (fTup (aCons (fC (.str "stop")) (aCons (fC (.str "nt")) aNil))) aNil))))))) 3)
def lePart : En → Fl := (bSeq (sApp 2 (fBlt tupleL (aCons (fBin addD (fBin addD (fBin addD (fO (oLst (aCons (fVar 4) aNil))) (fSl (fVar 6) pNone (pSome (fVar 7)))) (fO (oLst (aCons (fVar 8) aNil)))) (fSl (fVar 6) (pSome (fBin addD (fVar 7) (fC (.int 1)))) pNone)) aNil))) bNil)
def leParts : En → Res D := (fO (oLst (aCons (fUn negD (fC (.int 1))) (aCons (fBin subI (fVar 0) (fC (.int 1))) (aCons (fVar 0) (aCons (fBin subI (fVar 1) (fC (.int 1))) (aCons (fVar 1) (aCons (fC (.str "abcdefghijkl")) (aCons (fC (.str "abcdefghijklm")) aNil)))))))))
def leK : En → Fl := (bSeq (sFor (iSeq leParts) (setD 8) lePart) bNil)
def lePlain : En → Fl := (sAsgO (fLc (iSeq (fVar 5)) (setD 9) tYesD (fBin subD (fO (oLst (aCons (fC (.int 0)) (aCons (fBin subI (fVar 1) (fC (.int 1))) (aCons (fC (.str "")) aNil))))) (fSIdx (fC (.str "nst")) (fVar 9))) [9]) 6)
def leLoop : En → Fl := (bSeq lePlain (bSeq (sFor (iRange1 (aCons (fLenN 5) aNil)) (setD 7) leK) bNil))
def leTg : D → En → Fl := (gUn 2 (tsCons (setD 4) (tsCons (setD 5) tsNil)))
def le3 : En → Fl := (sFor (iSeq (fVar 3)) leTg leLoop)
def le4 : En → Fl := (sRet (fVar 2))
theorem le_is : bod__law_edges = (bSeq le1 (bSeq le2 (bSeq le3 (bSeq le4 bNil)))) := rfl
/-- the plain part of a sort -/
def plainP (s : Int) : So → Pt
  | .n => .i 0
  | .s => .i (s - 1)
  | .t => .s ""
theorem plain_ok (s : Int) (o : So) : okP (plainP s o) := by
  cases o
  · exact okP_i _
  · exact okP_i _
  · exact okP_s (by decide +kernel)
def kw : List (Str × List So) := [("emit", [.n, .n, .t, .t]), ("before", [.n, .n, .n]), ("after", [.n, .n, .n]), ("push", [.n, .n, .s]), ("pop", [.n, .s, .n]), ("stop", [.n, .t])]
def So.ix : So → Nat
  | .n => 0
  | .s => 1
  | .t => 2
theorem idx_is (o : So) : Builtin.Str.occurrences ("nst" : Str) o.one 0 ("nst" : Str).length 1 = [o.ix] := by
  cases o <;> decide +kernel
def edgeParts (n s : Int) : List Pt := [.i (-1), .i (n - 1), .i n, .i (s - 1), .i s, .s "abcdefghijkl", .s "abcdefghijklm"]
theorem edge_ok (n s : Int) : ∀ p ∈ edgeParts n s, okP p := fun p hp => by
  unfold edgeParts at hp
  simp only [List.mem_cons, List.not_mem_nil, or_false] at hp
  rcases hp with rfl | rfl | rfl | rfl | rfl | rfl | rfl
  all_goals first | exact okP_i _ | exact okP_s (by decide +kernel)
theorem parts_is (n s : Int) (r : En) : leParts (.d (.int n) :: .d (.int s) :: r) = .ok (.lst ((edgeParts n s).map Pt.d)) (.d (.int n) :: .d (.int s) :: r) := by
  have h7 : 7 ≤ lim := by decide
  have ng : negD (.int 1) = some (.int (-1)) := rfl
  have b1 := sub_ii n 1
  have b2 := sub_ii s 1
  have e : (edgeParts n s).map Pt.d = [.int (-1), .int (n - 1), .int n, .int (s - 1), .int s, .str "abcdefghijkl", .str "abcdefghijklm"] := rfl
  rw [e]
  unfold leParts
  generalize n - 1 = v1 at *
  generalize s - 1 = v2 at *
  generalize (-1 : Int) = v3 at *
  simp [seq_bNil, bSeq, bNil, fO, oLst, aCons, aNil, fUn, fC, fVar, fBin, ng, b1, b2, h7]
theorem word_chars (q : List So) : chars (word q) = q.map fun o => .str o.one := by
  have ht : tx (word q) = q.map So.c := by
    unfold tx word
    simp
  rw [chars_map, ht, List.map_map]
  apply List.map_congr_left
  intro o _
  show ch o.c = _
  rw [So.one_is]
theorem plain_is {n s : Int} {q : List So} (hq : q.length ≤ 4) {x2 x3 x4 x6 x7 x8 : Sl} : lePlain [.d (.int n), .d (.int s), x2, x3, x4, .d (.str (word q)), x6, x7, x8, .un] = .nx [.d (.int n), .d (.int s), x2, x3, x4, .d (.str (word q)), .own ((q.map (plainP s)).map Pt.d), x7, x8, .un] := by
  have hlim : (50000 : Nat) < lim := by decide
  have lc := lcGo_map (tt := tYesD) (te := (fBin subD (fO (oLst (aCons (fC (.int 0)) (aCons (fBin subI (fVar 1) (fC (.int 1))) (aCons (fC (.str "")) aNil))))) (fSIdx (fC (.str "nst")) (fVar 9)))) (v := 9) (ρ := [.d (.int n), .d (.int s), x2, x3, x4, .d (.str (word q)), x6, x7, x8, .un]) (fun o : So => .str o.one) (fun _ => true) (fun o => (plainP s o).d) rfl q [] (fun o _ => rfl) (fun o _ _ => by
    have ix := idx_is o
    have b2 := sub_ii s 1
    have h3 : 3 ≤ lim := by decide
    have sl : ∀ x y z : D, (subD (.lst [x, y, z]) (.int ((0 : Nat) : Int)) = some x) ∧ (subD (.lst [x, y, z]) (.int ((1 : Nat) : Int)) = some y) ∧ (subD (.lst [x, y, z]) (.int ((2 : Nat) : Int)) = some z) := fun x y z => ⟨rfl, rfl, rfl⟩
    obtain ⟨s0, s1, s2⟩ := sl (.int 0) (.int (s - 1)) (.str "")
    have e0 : fO (oLst (aCons (fC (.int 0)) (aCons (fBin subI (fVar 1) (fC (.int 1))) (aCons (fC (.str "")) aNil)))) [.d (.int n), .d (.int s), x2, x3, x4, .d (.str (word q)), x6, x7, x8, .d (.str o.one)] = .ok (.lst [.int 0, .int (s - 1), .str ""]) [.d (.int n), .d (.int s), x2, x3, x4, .d (.str (word q)), x6, x7, x8, .d (.str o.one)] := by
      generalize word q = w at *
      generalize s - 1 = v at *
      simp [fO, oLst, aCons, aNil, fC, fVar, fBin, b2, h3]
    have e1 : fSIdx (fC (.str "nst")) (fVar 9) [.d (.int n), .d (.int s), x2, x3, x4, .d (.str (word q)), x6, x7, x8, .d (.str o.one)] = .ok (.int ((o.ix : Nat) : Int)) [.d (.int n), .d (.int s), x2, x3, x4, .d (.str (word q)), x6, x7, x8, .d (.str o.one)] := by
      unfold fSIdx
      show (match Builtin.Str.occurrences ("nst" : Str) o.one 0 ("nst" : Str).length 1 with
        | i :: _ => Res.ok (D.int (i : Nat)) _
        | [] => Res.bad) = _
      rw [ix]
    show fBin subD _ _ [.d (.int n), .d (.int s), x2, x3, x4, .d (.str (word q)), x6, x7, x8, .d (.str o.one)] = .ok (plainP s o).d [.d (.int n), .d (.int s), x2, x3, x4, .d (.str (word q)), x6, x7, x8, .d (.str o.one)]
    refine fBin_ok e0 e1 ?_
    cases o
    · exact s0
    · exact s1
    · exact s2) (by show 0 + _ < lim; omega)
  have hf : (q.filter fun _ => true) = q := by simp
  rw [List.nil_append, hf] at lc
  have e : fLc (iSeq (fVar 5)) (setD 9) tYesD (fBin subD (fO (oLst (aCons (fC (.int 0)) (aCons (fBin subI (fVar 1) (fC (.int 1))) (aCons (fC (.str "")) aNil))))) (fSIdx (fC (.str "nst")) (fVar 9))) [9] [.d (.int n), .d (.int s), x2, x3, x4, .d (.str (word q)), x6, x7, x8, .un] = .ok ((q.map (plainP s)).map Pt.d) [.d (.int n), .d (.int s), x2, x3, x4, .d (.str (word q)), x6, x7, x8, .un] := by
    unfold fLc
    have : iSeq (fVar 5) [.d (.int n), .d (.int s), x2, x3, x4, .d (.str (word q)), x6, x7, x8, .un] = .ok (q.map fun o => .str o.one) [.d (.int n), .d (.int s), x2, x3, x4, .d (.str (word q)), x6, x7, x8, .un] := by
      rw [← word_chars]
      rfl
    rw [this, Res.bind_ok, List.map_map]
    exact lc
  unfold lePlain sAsgO
  rw [e]
  rfl
theorem listD (k : Str) (ps : List Pt) : Rl.d ⟨k, ps⟩ = .tup (.str k :: ps.map Pt.d) := rfl
def Sl6 (L : List D) (x : Sl) : Prop := x = .own L ∨ x = .d (.lst L)
theorem part_step {n s : Int} {k w : Str} {pl : List Pt} {i : Nat} {p : Pt} {rs : List Rl} {x3 x6 x8 : Sl} (h6 : Sl6 (pl.map Pt.d) x6) (hl : rs.length ≤ 5000) (hpl : pl.length ≤ 4) :
    (setD 8 p.d [.d (.int n), .d (.int s), .own (rs.map Rl.d), x3, .d (.str k), .d (.str w), x6, .d (.int (i : Nat)), x8, .un]).seq lePart =
      .nx [.d (.int n), .d (.int s), .own ((rs ++ [Rl.mk k (pl.take i ++ [p] ++ pl.drop (i + 1))]).map Rl.d), x3, .d (.str k), .d (.str w), .d (.lst (pl.map Pt.d)), .d (.int (i : Nat)), .d p.d, .un] := by
  have hlim : (50000 : Nat) < lim := by decide
  have h1 : 1 ≤ lim := by decide
  have t1 := slL_take Pt.d pl (p := (i : Nat)) (by omega)
  have t2 := slL_drop Pt.d pl (p := (i : Nat) + 1) (by omega)
  have ad := add_ii (i : Nat) 1
  rw [Int.toNat_natCast] at t1
  have ei : ((i : Int) + 1).toNat = i + 1 := by omega
  rw [ei] at t2
  have c1 := addL' (a := [.str k]) (b := (pl.take i).map Pt.d) (by rw [List.length_singleton, List.length_map, List.length_take]; omega)
  have c2 := addL' (a := [.str k] ++ (pl.take i).map Pt.d) (b := [p.d]) (by rw [List.length_append, List.length_singleton, List.length_map, List.length_take, List.length_singleton]; omega)
  have c3 := addL' (a := [.str k] ++ (pl.take i).map Pt.d ++ [p.d]) (b := (pl.drop (i + 1)).map Pt.d) (by rw [List.length_append, List.length_append, List.length_singleton, List.length_map, List.length_take, List.length_singleton, List.length_map, List.length_drop]; omega)
  have tu : tupleL [.lst ([.str k] ++ (pl.take i).map Pt.d ++ [p.d] ++ (pl.drop (i + 1)).map Pt.d)] = some (Rl.d ⟨k, pl.take i ++ [p] ++ pl.drop (i + 1)⟩) := by
    rw [listD, List.map_append, List.map_append]
    rfl
  have hll : (rs.map Rl.d).length < lim := by rw [List.length_map]; omega
  rw [List.map_append]
  show _ = Fl.nx [.d (.int n), .d (.int s), .own (rs.map Rl.d ++ [Rl.d ⟨k, pl.take i ++ [p] ++ pl.drop (i + 1)⟩]), x3, .d (.str k), .d (.str w), .d (.lst (pl.map Pt.d)), .d (.int (i : Nat)), .d p.d, .un]
  unfold lePart
  generalize Rl.d ⟨k, pl.take i ++ [p] ++ pl.drop (i + 1)⟩ = R1 at *
  generalize [D.str k] ++ (pl.take i).map Pt.d ++ [p.d] ++ (pl.drop (i + 1)).map Pt.d = C3 at *
  generalize [D.str k] ++ (pl.take i).map Pt.d ++ [p.d] = C2 at *
  generalize [D.str k] ++ (pl.take i).map Pt.d = C1 at *
  generalize (pl.take i).map Pt.d = P1 at *
  generalize (pl.drop (i + 1)).map Pt.d = P2 at *
  generalize pl.map Pt.d = PL at *
  generalize rs.map Rl.d = RS at *
  generalize p.d = pd at *
  generalize (i : Int) + 1 = i1 at *
  generalize (i : Int) = ii at *
  rcases h6 with rfl | rfl <;> simp [seq_bNil, bSeq, bNil, sAsg, sAsgO, setO, setD, sIf, sRet, sDrop, sFor, sApp, fC, fVar, fBin, fLate, slotD, fTst, boolD, fAnd, fOr, fNot, fUn, negD, fIf, fBlt, fLenN, fTup, fO, oLst, aNil, aCons, fSl, pNone, pSome, intD, fPop, ownAt, iSeq, iRange1, iRange2, iEnum1, cmpI, ltD, leD, gtD, geD, lenL, gUn, tsCons, tsNil, List.getElem?_cons_zero, List.getElem?_cons_succ, List.set_cons_zero, List.set_cons_succ, List.length_cons, List.length_nil, h1, t1, c1, c2, ad, t2, c3, tu, hll]
/-- the rules of the edges, while they grow -/
def EdgeI (n s : Int) (rs : List Rl) (j : Nat) : Prop := rs.length ≤ j ∧ ∀ r ∈ rs, OkM 4 r
theorem k_step {n s : Int} {k w : Str} {pl : List Pt} {i j : Nat} {rs : List Rl} {x3 x6 x7 x8 : Sl} (h6 : Sl6 (pl.map Pt.d) x6) (hpl : pl.length ≤ 4) (hi : i < pl.length) (hok : ∀ p ∈ pl, okP p) (hr : EdgeI n s rs j) (hj : j ≤ 4000) :
    ∃ (rs2 : List Rl) (y6 y8 : Sl), Sl6 (pl.map Pt.d) y6 ∧ (setD 7 (.int (i : Nat)) [.d (.int n), .d (.int s), .own (rs.map Rl.d), x3, .d (.str k), .d (.str w), x6, x7, x8, .un]).seq leK =
      .nx [.d (.int n), .d (.int s), .own (rs2.map Rl.d), x3, .d (.str k), .d (.str w), y6, .d (.int (i : Nat)), y8, .un] ∧ EdgeI n s rs2 (j + 7) := by
  have e0 : setD 7 (.int (i : Nat)) [.d (.int n), .d (.int s), .own (rs.map Rl.d), x3, .d (.str k), .d (.str w), x6, x7, x8, .un] = .nx [.d (.int n), .d (.int s), .own (rs.map Rl.d), x3, .d (.str k), .d (.str w), x6, .d (.int (i : Nat)), x8, .un] := rfl
  rw [e0, Fl.seq_nx]
  unfold leK
  have e1 : sFor (iSeq leParts) (setD 8) lePart [.d (.int n), .d (.int s), .own (rs.map Rl.d), x3, .d (.str k), .d (.str w), x6, .d (.int (i : Nat)), x8, .un] = forD (setD 8) lePart ((edgeParts n s).map Pt.d) [.d (.int n), .d (.int s), .own (rs.map Rl.d), x3, .d (.str k), .d (.str w), x6, .d (.int (i : Nat)), x8, .un] := by
    unfold sFor iSeq
    rw [parts_is]
    rfl
  rw [bSeq_app, e1]
  obtain ⟨ρ', e, rs2, y6, y8, q6, rfl, h1, h2⟩ := forD_thru (g := setD 8) (f := lePart) (fun f ρ => ∃ (rs2 : List Rl) (y6 y8 : Sl), Sl6 (pl.map Pt.d) y6 ∧ ρ = [.d (.int n), .d (.int s), .own (rs2.map Rl.d), x3, .d (.str k), .d (.str w), y6, .d (.int (i : Nat)), y8, .un] ∧ EdgeI n s rs2 (j + f)) (ds := (edgeParts n s).map Pt.d) (ρ := [.d (.int n), .d (.int s), .own (rs.map Rl.d), x3, .d (.str k), .d (.str w), x6, .d (.int (i : Nat)), x8, .un]) (fun f d ρ hd hi2 => by
    obtain ⟨rs2, y6, y8, q6, rfl, h1, h2⟩ := hi2
    rw [List.getElem?_map] at hd
    cases hp : (edgeParts n s)[f]? with
    | none => rw [hp] at hd; cases hd
    | some p =>
      rw [hp] at hd
      cases hd
      have hf := get_lt hp
      have hl7 : (edgeParts n s).length = 7 := rfl
      rw [hl7] at hf
      have hpm : p ∈ edgeParts n s := List.mem_of_getElem? hp
      refine ⟨_, .inl (part_step (k := k) (w := w) (pl := pl) (i := i) (p := p) (rs := rs2) q6 (by omega) hpl), _, _, _, .inr rfl, rfl, ?_, fun r hr => ?_⟩
      · rw [List.length_append, List.length_singleton]
        omega
      · rcases List.mem_append.mp hr with hr | hr
        · exact h2 r hr
        · rw [List.mem_singleton] at hr
          subst hr
          refine okM_of ?_ fun q hq => ?_
          · rw [List.length_append, List.length_append, List.length_take, List.length_singleton, List.length_drop]
            omega
          · rcases List.mem_append.mp hq with hq | hq
            · rcases List.mem_append.mp hq with hq | hq
              · exact hok q (List.mem_of_mem_take hq)
              · rw [List.mem_singleton] at hq
                subst hq
                exact edge_ok n s _ hpm
            · exact hok q (List.mem_of_mem_drop hq)) ⟨rs, x6, x8, h6, rfl, hr⟩
  have hl7 : ((edgeParts n s).map Pt.d).length = 7 := rfl
  rw [hl7] at h1
  refine ⟨rs2, y6, y8, q6, ?_, h1, h2⟩
  rw [e]
  rfl
theorem form_step {n s : Int} {k : Str} {q : List So} {j : Nat} {rs : List Rl} {x3 x4 x5 x6 x7 x8 : Sl} (hq : q.length ≤ 4) (hr : EdgeI n s rs j) (hj : j ≤ 1000) :
    ∃ (rs2 : List Rl) (y6 y7 y8 : Sl), (leTg (.tup [.str k, .str (word q)]) [.d (.int n), .d (.int s), .own (rs.map Rl.d), x3, x4, x5, x6, x7, x8, .un]).seq leLoop =
      .nx [.d (.int n), .d (.int s), .own (rs2.map Rl.d), x3, .d (.str k), .d (.str (word q)), y6, y7, y8, .un] ∧ EdgeI n s rs2 (j + 28) := by
  have e0 : leTg (.tup [.str k, .str (word q)]) [.d (.int n), .d (.int s), .own (rs.map Rl.d), x3, x4, x5, x6, x7, x8, .un] = .nx [.d (.int n), .d (.int s), .own (rs.map Rl.d), x3, .d (.str k), .d (.str (word q)), x6, x7, x8, .un] := rfl
  rw [e0, Fl.seq_nx]
  unfold leLoop
  rw [bSeq_app, plain_is hq, Fl.seq_nx]
  have hlim : (50000 : Nat) < lim := by decide
  have hplo : ∀ p ∈ q.map (plainP s), okP p := fun p hp => by
    obtain ⟨o, _, rfl⟩ := List.mem_map.mp hp
    exact plain_ok s o
  have hpll : (q.map (plainP s)).length = q.length := List.length_map ..
  generalize q.map (plainP s) = pl at *
  have ht : (tx (word q)).length = q.length := by
    unfold tx word
    simp
  have lw : lenOf (.str (word q)) = some (.int (q.length : Nat)) := by rw [len_str (by rw [← tx_len, ht]; omega), ht]
  have hR : okR (q.length : Nat) = true := okR_nat (by omega)
  have e1 : sFor (iRange1 (aCons (fLenN 5) aNil)) (setD 7) leK [.d (.int n), .d (.int s), .own (rs.map Rl.d), x3, .d (.str k), .d (.str (word q)), .own (pl.map Pt.d), x7, x8, .un] = forD (setD 7) leK (dRange 0 q.length) [.d (.int n), .d (.int s), .own (rs.map Rl.d), x3, .d (.str k), .d (.str (word q)), .own (pl.map Pt.d), x7, x8, .un] := by
    generalize leK = L
    generalize rs.map Rl.d = RS at *
    generalize pl.map Pt.d = PL at *
    generalize word q = w at *
    simp [seq_bNil, bSeq, bNil, sAsg, sAsgO, setO, setD, sIf, sRet, sDrop, sFor, sApp, fC, fVar, fBin, fLate, slotD, fTst, boolD, fAnd, fOr, fNot, fUn, negD, fIf, fBlt, fLenN, fTup, fO, oLst, aNil, aCons, fSl, pNone, pSome, intD, fPop, ownAt, iSeq, iRange1, iRange2, iEnum1, cmpI, ltD, leD, gtD, geD, lenL, gUn, tsCons, tsNil, List.getElem?_cons_zero, List.getElem?_cons_succ, List.set_cons_zero, List.set_cons_succ, List.length_cons, List.length_nil, lw, hR]
  rw [bSeq_app, e1]
  obtain ⟨ρ', e, rs2, y6, y7, y8, q6, rfl, h1, h2⟩ := forD_thru (g := setD 7) (f := leK) (fun i ρ => ∃ (rs2 : List Rl) (y6 y7 y8 : Sl), Sl6 (pl.map Pt.d) y6 ∧ ρ = [.d (.int n), .d (.int s), .own (rs2.map Rl.d), x3, .d (.str k), .d (.str (word q)), y6, y7, y8, .un] ∧ EdgeI n s rs2 (j + 7 * i)) (ds := dRange 0 q.length) (ρ := [.d (.int n), .d (.int s), .own (rs.map Rl.d), x3, .d (.str k), .d (.str (word q)), .own (pl.map Pt.d), x7, x8, .un]) (fun i d ρ hd hi => by
    obtain ⟨rs2, y6, y7, y8, q6, rfl, hE⟩ := hi
    obtain ⟨h1, rfl⟩ := dRange_inv0 hd
    obtain ⟨rs3, z6, z8, r6, e, hE3⟩ := k_step (k := k) (w := word q) (x3 := x3) (x7 := y7) (x8 := y8) (i := i) q6 (by omega) (by omega) hplo hE (by omega)
    exact ⟨_, .inl e, rs3, z6, _, z8, r6, rfl, hE3.1, hE3.2⟩) ⟨rs, _, x7, x8, .inl rfl, rfl, hr⟩
  rw [dRange_len] at h1
  refine ⟨rs2, y6, y7, y8, ?_, by omega, h2⟩
  rw [e]
  rfl
def words6 : List (Str × List So) := [("emit", [.n, .n, .t, .t]), ("before", [.n, .n, .n]), ("after", [.n, .n, .n]), ("push", [.n, .n, .s]), ("pop", [.n, .s, .n]), ("stop", [.n, .t])]
def formD (x : Str × List So) : D := .tup [.str x.1, .str (word x.2)]
theorem words_short : ∀ x ∈ words6, x.2.length ≤ 4 := by decide
theorem edges_is (n s : Int) : ∃ rs : List Rl, den__law_edges [.int n, .int s] = .ok (.lst (rs.map Rl.d)) ∧ ∀ r ∈ rs, OkM 4 r := by
  have st : den__law_edges [.int n, .int s] = (bod__law_edges [.d (.int n), .d (.int s), .un, .un, .un, .un, .un, .un, .un, .un]).fin := rfl
  rw [st, le_is]
  have e1 : le1 [.d (.int n), .d (.int s), .un, .un, .un, .un, .un, .un, .un, .un] = .nx [.d (.int n), .d (.int s), .own [], .un, .un, .un, .un, .un, .un, .un] := rfl
  have w1 : word [.n, .n, .t, .t] = "nntt" := by decide +kernel
  have w2 : word [.n, .n, .n] = "nnn" := by decide +kernel
  have w3 : word [.n, .n, .s] = "nns" := by decide +kernel
  have w4 : word [.n, .s, .n] = "nsn" := by decide +kernel
  have w5 : word [.n, .t] = "nt" := by decide +kernel
  have hw : words6.map formD = [.tup [.str "emit", .str "nntt"], .tup [.str "before", .str "nnn"], .tup [.str "after", .str "nnn"], .tup [.str "push", .str "nns"], .tup [.str "pop", .str "nsn"], .tup [.str "stop", .str "nt"]] := by
    simp only [words6, formD, List.map_cons, List.map_nil, w1, w2, w3, w4, w5]
  have e2 : le2 [.d (.int n), .d (.int s), .own [], .un, .un, .un, .un, .un, .un, .un] = .nx [.d (.int n), .d (.int s), .own [], .own (words6.map formD), .un, .un, .un, .un, .un, .un] := by
    rw [hw]
    have h2 : 2 ≤ lim := by decide
    have h6 : 6 ≤ lim := by decide
    unfold le2
    simp [seq_bNil, bSeq, bNil, sAsg, sAsgO, setO, setD, sIf, sRet, sDrop, sFor, sApp, fC, fVar, fBin, fLate, slotD, fTst, boolD, fAnd, fOr, fNot, fUn, negD, fIf, fBlt, fLenN, fTup, fO, oLst, aNil, aCons, fSl, pNone, pSome, intD, fPop, ownAt, iSeq, iRange1, iRange2, iEnum1, cmpI, ltD, leD, gtD, geD, lenL, gUn, tsCons, tsNil, List.getElem?_cons_zero, List.getElem?_cons_succ, List.set_cons_zero, List.set_cons_succ, List.length_cons, List.length_nil, h2, h6]
  have e3 : le3 [.d (.int n), .d (.int s), .own [], .own (words6.map formD), .un, .un, .un, .un, .un, .un] = forD leTg leLoop (words6.map formD) [.d (.int n), .d (.int s), .own [], .d (.lst (words6.map formD)), .un, .un, .un, .un, .un, .un] := rfl
  rw [bSeq_app, e1, Fl.seq_nx, bSeq_app, e2, Fl.seq_nx, bSeq_app, e3]
  obtain ⟨ρ', e, rs, x4, x5, x6, x7, x8, rfl, h1, h2⟩ := forD_thru (g := leTg) (f := leLoop) (fun i ρ => ∃ (rs : List Rl) (x4 x5 x6 x7 x8 : Sl), ρ = [.d (.int n), .d (.int s), .own (rs.map Rl.d), .d (.lst (words6.map formD)), x4, x5, x6, x7, x8, .un] ∧ EdgeI n s rs (28 * i)) (ds := words6.map formD) (ρ := [.d (.int n), .d (.int s), .own [], .d (.lst (words6.map formD)), .un, .un, .un, .un, .un, .un]) (fun i d ρ hd hi => by
    obtain ⟨rs, x4, x5, x6, x7, x8, rfl, hE⟩ := hi
    rw [List.getElem?_map] at hd
    cases hp : words6[i]? with
    | none => rw [hp] at hd; cases hd
    | some x =>
      rw [hp] at hd
      cases hd
      have hi6 := get_lt hp
      have hl6 : words6.length = 6 := rfl
      rw [hl6] at hi6
      have hq := words_short x (List.mem_of_getElem? hp)
      obtain ⟨rs2, y6, y7, y8, e, h1, h2⟩ := form_step (k := x.1) (q := x.2) (x3 := .d (.lst (words6.map formD))) (x4 := x4) (x5 := x5) (x6 := x6) (x7 := x7) (x8 := x8) hq hE (by omega)
      exact ⟨_, .inl e, rs2, _, _, y6, y7, y8, rfl, by omega, h2⟩) ⟨[], .un, .un, .un, .un, .un, rfl, Nat.zero_le _, fun r hr => by cases hr⟩
  rw [e]
  exact ⟨rs, rfl, h2⟩
end G
set_option Elab.async false
set_option linter.all false
set_option maxRecDepth 100000
set_option maxHeartbeats 4000000
/-! U19: the limits; the law. -/
namespace G
open PySem PySem.Spec L2 PD
def chk (fa : En → Res (List D)) : En → Res Bool := (fNot (fTst boolD (fCall den__law_same (aCons (fCall den__law_told fa []) (aCons (fCall den__law_due_answer fa []) aNil)) [])))
theorem chk_is {fa : En → Res (List D)} {ρ ρ1 : En} {n s : Int} {rs : List Rl} (h1 : fa ρ = .ok [.int n, .int s, .lst (rs.map Rl.d)] ρ1) (h2 : fa ρ1 = .ok [.int n, .int s, .lst (rs.map Rl.d)] ρ1) (hl : rs.length ≤ 1000) (hr : ∀ r ∈ rs, OkR r) : chk fa ρ = .ok false ρ1 := by
  have t := told_is (n := n) (s := s) hl hr
  have d := due_is (n := n) (s := s) hl hr
  have o := one_is (n := n) (s := s) hl hr
  unfold chk
  generalize ansD n s rs = A at *
  generalize rs.map Rl.d = RS at *
  generalize den__law_same = ds at *
  generalize den__law_told = dt at *
  generalize den__law_due_answer = dd at *
  simp [fNot, fTst, boolD, fCall, aCons, aNil, h1, h2, t, d, o]
structure Ask where
  n : Int
  s : Int
  rs : List Rl
def Ask.d (a : Ask) : D := .tup [.int a.n, .int a.s, .lst (a.rs.map Rl.d)]
def Ask.ok (a : Ask) : Prop := a.rs.length ≤ 1000 ∧ ∀ r ∈ a.rs, OkR r
def stopR : Rl := ⟨"stop", [.i 0, .s "a"]⟩
def badR : Rl := ⟨"stop", [.i 0, .s "A"]⟩
theorem stop_ok : OkR stopR := ⟨by decide, fun p hp x e => by
  simp only [stopR, List.mem_cons, List.not_mem_nil, or_false] at hp
  rcases hp with rfl | rfl
  · cases e
  · cases e
    decide +kernel⟩
theorem bad_ok : OkR badR := ⟨by decide, fun p hp x e => by
  simp only [badR, List.mem_cons, List.not_mem_nil, or_false] at hp
  rcases hp with rfl | rfl
  · cases e
  · cases e
    decide +kernel⟩
def ll1 : En → Fl := (sAsg (fTup (aCons (fC (.str "stop")) (aCons (fC (.int 0)) (aCons (fC (.str "a")) aNil)))) (setD 4))
def ll2 : En → Fl := (sAsg (fTup (aCons (fC (.str "stop")) (aCons (fC (.int 0)) (aCons (fC (.str "A")) aNil)))) (setD 5))
def ll3 : En → Fl := (sAsgO (oRep (oLst (aCons (fVar 4) aNil)) (fC (.int 900))) 6)
def ll4 : En → Fl := (sAsg (fBin modI (fBlt intL (aCons (fLate 3 subD (fC (.int 44))) aNil)) (fC (.int 900))) (setD 7))
def ll5 : En → Fl := (sAsg (fBin addD (fBin addD (fSl (fVar 6) pNone (pSome (fVar 7))) (fO (oLst (aCons (fVar 5) aNil)))) (fSl (fVar 6) (pSome (fBin addD (fVar 7) (fC (.int 1)))) pNone)) (setD 8))
def ll6 : En → Fl := (sAsgO (oLst (aCons (fTup (aCons (fC (.int 300)) (aCons (fC (.int 300)) (aCons (fO (oLst (aCons (fVar 4) aNil))) aNil)))) (aCons (fTup (aCons (fC (.int 301)) (aCons (fC (.int 300)) (aCons (fO (oLst (aCons (fVar 4) aNil))) aNil)))) (aCons (fTup (aCons (fC (.int 300)) (aCons (fC (.int 301)) (aCons (fO (oLst (aCons (fVar 4) aNil))) aNil)))) (aCons (fTup (aCons (fC (.int 301)) (aCons (fC (.int 0)) (aCons (fO (oLst (aCons (fVar 5) aNil))) aNil)))) (aCons (fTup (aCons (fC (.int 1)) (aCons (fC (.int 301)) (aCons (fO (oLst (aCons (fVar 5) aNil))) aNil)))) (aCons (fTup (aCons (fC (.int 1)) (aCons (fC (.int 0)) (aCons (fO (oLst aNil)) aNil)))) aNil))))))) 9)
def ll7 : En → Fl := (sAsgO (oCat (fVar 9) (fO (oLst (aCons (fTup (aCons (fC (.int 301)) (aCons (fC (.int 301)) (aCons (fBin addD (fVar 6) (fO (oLst (aCons (fVar 4) aNil)))) aNil)))) (aCons (fTup (aCons (fC (.int 300)) (aCons (fC (.int 301)) (aCons (fBin addD (fVar 6) (fO (oLst (aCons (fVar 4) aNil)))) aNil)))) (aCons (fTup (aCons (fC (.int 1)) (aCons (fC (.int 0)) (aCons (fBin addD (fVar 8) (fO (oLst (aCons (fVar 4) aNil)))) aNil)))) (aCons (fTup (aCons (fVar 0) (aCons (fVar 1) (aCons (fVar 2) aNil)))) aNil))))))) 9)
def ll8 : En → Fl := (sApp 9 (fTup (aCons (fBin addD (fC (.int 299)) (fBin modI (fBlt intL (aCons (fLate 3 subD (fC (.int 45))) aNil)) (fC (.int 4)))) (aCons (fBin addD (fC (.int 299)) (fBin modI (fBlt intL (aCons (fLate 3 subD (fC (.int 46))) aNil)) (fC (.int 4)))) (aCons (fVar 2) aNil)))))
def ll9 : En → Fl := (sIf (fTst boolD (fBin eqD (fBin modI (fBlt intL (aCons (fLate 3 subD (fC (.int 47))) aNil)) (fC (.int 4))) (fC (.int 1)))) (bSeq (sApp 9 (fTup (aCons (fVar 0) (aCons (fVar 1) (aCons (fVar 6) aNil))))) bNil) bNil)
def ll10 : En → Fl := (sIf (fTst boolD (fBin eqD (fBin modI (fBlt intL (aCons (fLate 3 subD (fC (.int 47))) aNil)) (fC (.int 4))) (fC (.int 3)))) (bSeq (sApp 9 (fTup (aCons (fC (.int 300)) (aCons (fBin addD (fC (.int 300)) (fBin modI (fBlt intL (aCons (fLate 3 subD (fC (.int 45))) aNil)) (fC (.int 2)))) (aCons (fVar 8) aNil))))) bNil) bNil)
def llLoop : En → Fl := (bSeq (sIf (chk (aCons (fVar 10) (aCons (fVar 11) (aCons (fVar 12) aNil)))) (bSeq (sRet (fC (.bl false))) bNil) bNil) bNil)
def llTg : D → En → Fl := (gUn 3 (tsCons (setD 10) (tsCons (setD 11) (tsCons (setD 12) tsNil))))
def ll11 : En → Fl := (sFor (iSeq (fVar 9)) llTg llLoop)
def ll12 : En → Fl := (sRet (fC (.bl true)))
theorem ll_is : bod__law_limits = (bSeq ll1 (bSeq ll2 (bSeq ll3 (bSeq ll4 (bSeq ll5 (bSeq ll6 (bSeq ll7 (bSeq ll8 (bSeq ll9 (bSeq ll10 (bSeq ll11 (bSeq ll12 bNil)))))))))))) := rfl
theorem limits_is {n s : Int} {rs : List Rl} {R : List Int} (hR : RowOk 240 R) (hl : rs.length ≤ 100) (hr : ∀ r ∈ rs, OkM 4 r) : den__law_limits [.int n, .int s, .lst (rs.map Rl.d), .lst (R.map D.int)] = .ok (.bl true) := by
  have hlim : (50000 : Nat) < lim := by decide
  have h0l : 0 ≤ lim := by decide
  have h1l : 1 ≤ lim := by decide
  have h3l : 3 ≤ lim := by decide
  have h4l : 4 ≤ lim := by decide
  have h6l : 6 ≤ lim := by decide
  have st : den__law_limits [.int n, .int s, .lst (rs.map Rl.d), .lst (R.map D.int)] = (bod__law_limits [.d (.int n), .d (.int s), .d (.lst (rs.map Rl.d)), .d (.lst (R.map D.int)), .un, .un, .un, .un, .un, .un, .un, .un, .un]).fin := rfl
  rw [st, ll_is]
  obtain ⟨r44, _, g44⟩ := hR.at (i := 44) (by decide) (by decide)
  obtain ⟨r45, _, g45⟩ := hR.at (i := 45) (by decide) (by decide)
  obtain ⟨r46, _, g46⟩ := hR.at (i := 46) (by decide) (by decide)
  obtain ⟨r47, _, g47⟩ := hR.at (i := 47) (by decide) (by decide)
  have e1 : (bSeq ll1 ll2) [.d (.int n), .d (.int s), .d (.lst (rs.map Rl.d)), .d (.lst (R.map D.int)), .un, .un, .un, .un, .un, .un, .un, .un, .un] = .nx [.d (.int n), .d (.int s), .d (.lst (rs.map Rl.d)), .d (.lst (R.map D.int)), .d stopR.d, .d badR.d, .un, .un, .un, .un, .un, .un, .un] := rfl
  have hF : ((List.replicate 900 stopR).map Rl.d) = (List.replicate 900 [stopR.d]).flatten := by
    rw [List.map_replicate, List.flatten_replicate_singleton]
  have hFl : (List.replicate 900 stopR).length = 900 := List.length_replicate ..
  have hFo : ∀ r ∈ List.replicate 900 stopR, OkR r := fun r h => by
    rw [(List.mem_replicate.mp h).2]
    exact stop_ok
  have ep : ((900 : Int).natAbs < 2 ^ 62) := by decide
  have e3 : ll3 [.d (.int n), .d (.int s), .d (.lst (rs.map Rl.d)), .d (.lst (R.map D.int)), .d stopR.d, .d badR.d, .un, .un, .un, .un, .un, .un, .un] = .nx [.d (.int n), .d (.int s), .d (.lst (rs.map Rl.d)), .d (.lst (R.map D.int)), .d stopR.d, .d badR.d, .own ((List.replicate 900 stopR).map Rl.d), .un, .un, .un, .un, .un, .un] := by
    rw [hF]
    unfold ll3
    generalize stopR.d = sd at *
    generalize badR.d = bd at *
    generalize rs.map Rl.d = RS at *
    generalize R.map D.int = RD at *
    have c : (decide ((900 : Int).natAbs < 2 ^ 62) && decide ([sd].length * (900 : Int).toNat ≤ lim)) = true := by
      rw [List.length_singleton]
      decide
    have o : oRep (oLst (aCons (fVar 4) aNil)) (fC (.int 900)) [.d (.int n), .d (.int s), .d (.lst RS), .d (.lst RD), .d sd, .d bd, .un, .un, .un, .un, .un, .un, .un] = .ok (List.replicate 900 [sd]).flatten [.d (.int n), .d (.int s), .d (.lst RS), .d (.lst RD), .d sd, .d bd, .un, .un, .un, .un, .un, .un, .un] := by
      have q : oLst (aCons (fVar 4) aNil) [.d (.int n), .d (.int s), .d (.lst RS), .d (.lst RD), .d sd, .d bd, .un, .un, .un, .un, .un, .un, .un] = .ok [sd] [.d (.int n), .d (.int s), .d (.lst RS), .d (.lst RD), .d sd, .d bd, .un, .un, .un, .un, .un, .un, .un] := by
        simp [oLst, aCons, aNil, fVar, h1l]
      unfold oRep
      rw [q, Res.bind_ok]
      show (if (decide ((900 : Int).natAbs < 2 ^ 62) && decide ([sd].length * (900 : Int).toNat ≤ lim)) = true then Res.ok (List.replicate (900 : Int).toNat [sd]).flatten _ else .bad) = _
      rw [if_pos c]
      rfl
    unfold sAsgO
    rw [o]
    rfl
  rw [bSeq_assoc, bSeq_app, e1, Fl.seq_nx, bSeq_app, e3, Fl.seq_nx]
  clear e1 e3 hF
  generalize List.replicate 900 stopR = F at *
  obtain ⟨p0, p1⟩ := mod_ok r44 (b := 900) (by decide)
  have mo9 := mod_ii (a := r44) (b := 900) (by decide)
  generalize r44 % 900 = p at *
  have ap1 := add_ii p 1
  have sk := slL_take Rl.d F (p := p) p0
  have sdr := slL_drop Rl.d F (p := p + 1) (by omega)
  have c1 := addL' (a := (F.take p.toNat).map Rl.d) (b := [badR.d]) (by rw [List.length_map, List.length_take, List.length_singleton]; omega)
  have c2 := addL' (a := (F.take p.toNat).map Rl.d ++ [badR.d]) (b := (F.drop (p + 1).toNat).map Rl.d) (by rw [List.length_append, List.length_map, List.length_take, List.length_singleton, List.length_map, List.length_drop]; omega)
  have hS : (F.take p.toNat).map Rl.d ++ [badR.d] ++ (F.drop (p + 1).toNat).map Rl.d = (F.take p.toNat ++ [badR] ++ F.drop (p + 1).toNat).map Rl.d := by
    rw [List.map_append, List.map_append]
    rfl
  rw [hS] at c2
  have e45 : (bSeq ll4 ll5) [.d (.int n), .d (.int s), .d (.lst (rs.map Rl.d)), .d (.lst (R.map D.int)), .d stopR.d, .d badR.d, .own (F.map Rl.d), .un, .un, .un, .un, .un, .un] = .nx [.d (.int n), .d (.int s), .d (.lst (rs.map Rl.d)), .d (.lst (R.map D.int)), .d stopR.d, .d badR.d, .d (.lst (F.map Rl.d)), .d (.int p), .d (.lst ((F.take p.toNat ++ [badR] ++ F.drop (p + 1).toNat).map Rl.d)), .un, .un, .un, .un] := by
    unfold ll4 ll5
    clear hS st
    generalize (F.take p.toNat ++ [badR] ++ F.drop (p + 1).toNat).map Rl.d = SP at *
    generalize (F.take p.toNat).map Rl.d ++ [badR.d] = S1 at *
    generalize (F.take p.toNat).map Rl.d = S0 at *
    generalize (F.drop (p + 1).toNat).map Rl.d = S2 at *
    generalize F.map Rl.d = FD at *
    generalize stopR.d = sd at *
    generalize badR.d = bd at *
    generalize rs.map Rl.d = RS at *
    generalize R.map D.int = RD at *
    generalize p + 1 = pp at *
    simp [seq_bNil, bSeq, bNil, sAsg, sAsgO, setO, setD, sIf, sRet, sDrop, sFor, sApp, fC, fVar, fBin, fLate, slotD, fTst, boolD, fAnd, fOr, fNot, fUn, negD, fIf, fBlt, fLenN, fTup, fO, oLst, aNil, aCons, fSl, pNone, pSome, intD, fPop, ownAt, iSeq, iRange1, iRange2, iEnum1, cmpI, ltD, leD, gtD, geD, lenL, gUn, tsCons, tsNil, List.getElem?_cons_zero, List.getElem?_cons_succ, List.set_cons_zero, List.set_cons_succ, List.length_cons, List.length_nil, int_i, g44, mo9, sk, h1l, c1, ap1, sdr, c2]
  have hSl : (F.take p.toNat ++ [badR] ++ F.drop (p + 1).toNat).length ≤ 902 := by
    rw [List.length_append, List.length_append, List.length_take, List.length_singleton, List.length_drop]
    omega
  have hSo : ∀ r ∈ F.take p.toNat ++ [badR] ++ F.drop (p + 1).toNat, OkR r := fun r h => by
    rcases List.mem_append.mp h with h | h
    · rcases List.mem_append.mp h with h | h
      · exact hFo r (List.mem_of_mem_take h)
      · rw [List.mem_singleton] at h
        subst h
        exact bad_ok
    · exact hFo r (List.mem_of_mem_drop h)
  rw [bSeq_assoc, bSeq_app, e45, Fl.seq_nx]
  clear e45 hS c1 c2 sk sdr
  generalize F.take p.toNat ++ [badR] ++ F.drop (p + 1).toNat = SP at *
  have hrs : ∀ r ∈ rs, OkR r := fun r h => (hr r h).ok (by decide)
  obtain ⟨q0, q1⟩ := mod_ok r47 (b := 4) (by decide)
  have mo47 := mod_ii (a := r47) (b := 4) (by decide)
  have mo45 := mod_ii (a := r45) (b := 4) (by decide)
  have mo46 := mod_ii (a := r46) (b := 4) (by decide)
  have mo452 := mod_ii (a := r45) (b := 2) (by decide)
  have aa := add_ii 299 (r45 % 4)
  have ab := add_ii 299 (r46 % 4)
  have ac := add_ii 300 (r45 % 2)
  generalize 299 + r45 % 4 = na at *
  generalize 299 + r46 % 4 = sa at *
  generalize 300 + r45 % 2 = sb at *
  let a1 : List Ask := [⟨300, 300, [stopR]⟩, ⟨301, 300, [stopR]⟩, ⟨300, 301, [stopR]⟩, ⟨301, 0, [badR]⟩, ⟨1, 301, [badR]⟩, ⟨1, 0, []⟩]
  let a2 : List Ask := [⟨301, 301, F ++ [stopR]⟩, ⟨300, 301, F ++ [stopR]⟩, ⟨1, 0, SP ++ [stopR]⟩, ⟨n, s, rs⟩]
  have o1 : ∀ a ∈ a1, a.ok := fun a h => by
    have s1 : ∀ r ∈ [stopR], OkR r := fun r h => by rw [List.mem_singleton.mp h]; exact stop_ok
    have b1 : ∀ r ∈ [badR], OkR r := fun r h => by rw [List.mem_singleton.mp h]; exact bad_ok
    simp only [a1, List.mem_cons, List.not_mem_nil, or_false] at h
    rcases h with rfl | rfl | rfl | rfl | rfl | rfl
    · exact ⟨by decide, s1⟩
    · exact ⟨by decide, s1⟩
    · exact ⟨by decide, s1⟩
    · exact ⟨by decide, b1⟩
    · exact ⟨by decide, b1⟩
    · exact ⟨by decide, fun r h => by cases h⟩
  have app1 : ∀ L : List Rl, (∀ r ∈ L, OkR r) → ∀ r ∈ L ++ [stopR], OkR r := fun L h r hr => by
    rcases List.mem_append.mp hr with hr | hr
    · exact h r hr
    · rw [List.mem_singleton.mp hr]; exact stop_ok
  have o2 : ∀ a ∈ a2, a.ok := fun a h => by
    simp only [a2, List.mem_cons, List.not_mem_nil, or_false] at h
    rcases h with rfl | rfl | rfl | rfl
    · exact ⟨by show (F ++ [stopR]).length ≤ 1000; rw [List.length_append, List.length_singleton]; omega, app1 F hFo⟩
    · exact ⟨by show (F ++ [stopR]).length ≤ 1000; rw [List.length_append, List.length_singleton]; omega, app1 F hFo⟩
    · exact ⟨by show (SP ++ [stopR]).length ≤ 1000; rw [List.length_append, List.length_singleton]; omega, app1 SP hSo⟩
    · exact ⟨by show rs.length ≤ 1000; omega, hrs⟩
  have d1 : a1.map Ask.d = [.tup [.int 300, .int 300, .lst [stopR.d]], .tup [.int 301, .int 300, .lst [stopR.d]], .tup [.int 300, .int 301, .lst [stopR.d]], .tup [.int 301, .int 0, .lst [badR.d]], .tup [.int 1, .int 301, .lst [badR.d]], .tup [.int 1, .int 0, .lst []]] := rfl
  have d2 : a2.map Ask.d = [.tup [.int 301, .int 301, .lst (F.map Rl.d ++ [stopR.d])], .tup [.int 300, .int 301, .lst (F.map Rl.d ++ [stopR.d])], .tup [.int 1, .int 0, .lst (SP.map Rl.d ++ [stopR.d])], .tup [.int n, .int s, .lst (rs.map Rl.d)]] := by
    have : ∀ L : List Rl, (L ++ [stopR]).map Rl.d = L.map Rl.d ++ [stopR.d] := fun L => by rw [List.map_append]; rfl
    simp only [a2, Ask.d, List.map_cons, List.map_nil, this]
  have l1 : a1.length = 6 := rfl
  have l2 : a2.length = 4 := rfl
  have e6 : ll6 [.d (.int n), .d (.int s), .d (.lst (rs.map Rl.d)), .d (.lst (R.map D.int)), .d stopR.d, .d badR.d, .d (.lst (F.map Rl.d)), .d (.int p), .d (.lst (SP.map Rl.d)), .un, .un, .un, .un] = .nx [.d (.int n), .d (.int s), .d (.lst (rs.map Rl.d)), .d (.lst (R.map D.int)), .d stopR.d, .d badR.d, .d (.lst (F.map Rl.d)), .d (.int p), .d (.lst (SP.map Rl.d)), .own (a1.map Ask.d), .un, .un, .un] := by
    rw [d1]
    clear d1 d2 o1 o2 l1 l2
    clear_value a1 a2
    unfold ll6
    generalize stopR.d = sd at *
    generalize badR.d = bd at *
    generalize F.map Rl.d = FD at *
    generalize SP.map Rl.d = SD at *
    generalize rs.map Rl.d = RS at *
    generalize R.map D.int = RD at *
    simp [seq_bNil, bSeq, bNil, sAsg, sAsgO, setO, setD, sIf, sRet, sDrop, sFor, sApp, fC, fVar, fBin, fLate, slotD, fTst, boolD, fAnd, fOr, fNot, fUn, negD, fIf, fBlt, fLenN, fTup, fO, oLst, aNil, aCons, fSl, pNone, pSome, intD, fPop, ownAt, iSeq, iRange1, iRange2, iEnum1, cmpI, ltD, leD, gtD, geD, lenL, gUn, tsCons, tsNil, List.getElem?_cons_zero, List.getElem?_cons_succ, List.set_cons_zero, List.set_cons_succ, List.length_cons, List.length_nil, h0l, h1l, h3l, h6l]
  have cat := addL' (a := F.map Rl.d) (b := [stopR.d]) (by rw [List.length_map, List.length_singleton]; omega)
  have cat2 := addL' (a := SP.map Rl.d) (b := [stopR.d]) (by rw [List.length_map, List.length_singleton]; omega)
  have e7 : ll7 [.d (.int n), .d (.int s), .d (.lst (rs.map Rl.d)), .d (.lst (R.map D.int)), .d stopR.d, .d badR.d, .d (.lst (F.map Rl.d)), .d (.int p), .d (.lst (SP.map Rl.d)), .own (a1.map Ask.d), .un, .un, .un] = .nx [.d (.int n), .d (.int s), .d (.lst (rs.map Rl.d)), .d (.lst (R.map D.int)), .d stopR.d, .d badR.d, .d (.lst (F.map Rl.d)), .d (.int p), .d (.lst (SP.map Rl.d)), .own (a1.map Ask.d ++ a2.map Ask.d), .un, .un, .un] := by
    have hc : (a1.map Ask.d).length + 4 ≤ lim := by rw [List.length_map, l1]; omega
    rw [d2]
    clear d1 d2 o1 o2 l1 l2 e6
    clear_value a1 a2
    unfold ll7 oCat
    generalize a1.map Ask.d = A1 at *
    generalize F.map Rl.d ++ [stopR.d] = FS at *
    generalize SP.map Rl.d ++ [stopR.d] = SS' at *
    generalize stopR.d = sd at *
    generalize badR.d = bd at *
    generalize F.map Rl.d = FD at *
    generalize SP.map Rl.d = SD at *
    generalize rs.map Rl.d = RS at *
    generalize R.map D.int = RD at *
    simp [seq_bNil, bSeq, bNil, sAsg, sAsgO, setO, setD, sIf, sRet, sDrop, sFor, sApp, fC, fVar, fBin, fLate, slotD, fTst, boolD, fAnd, fOr, fNot, fUn, negD, fIf, fBlt, fLenN, fTup, fO, oLst, aNil, aCons, fSl, pNone, pSome, intD, fPop, ownAt, iSeq, iRange1, iRange2, iEnum1, cmpI, ltD, leD, gtD, geD, lenL, gUn, tsCons, tsNil, List.getElem?_cons_zero, List.getElem?_cons_succ, List.set_cons_zero, List.set_cons_succ, List.length_cons, List.length_nil, h1l, h3l, h4l, cat, cat2, hc]
  rw [bSeq_app, e6, Fl.seq_nx, bSeq_app, e7, Fl.seq_nx, ← List.map_append]
  clear e6 e7 d1 d2
  have o12 : ∀ a ∈ a1 ++ a2, a.ok := fun a h => by
    rcases List.mem_append.mp h with h | h
    · exact o1 a h
    · exact o2 a h
  have l12 : (a1 ++ a2).length = 10 := by rw [List.length_append, l1, l2]
  clear o1 o2 l1 l2
  generalize a1 ++ a2 = a3 at *
  clear_value a1 a2
  have oapp : ∀ (L : List Ask) (x : Ask), (∀ a ∈ L, a.ok) → x.ok → ∀ a ∈ L ++ [x], a.ok := fun L x h hx a ha => by
    rcases List.mem_append.mp ha with ha | ha
    · exact h a ha
    · rw [List.mem_singleton.mp ha]; exact hx
  have e8 : ll8 [.d (.int n), .d (.int s), .d (.lst (rs.map Rl.d)), .d (.lst (R.map D.int)), .d stopR.d, .d badR.d, .d (.lst (F.map Rl.d)), .d (.int p), .d (.lst (SP.map Rl.d)), .own (a3.map Ask.d), .un, .un, .un] = .nx [.d (.int n), .d (.int s), .d (.lst (rs.map Rl.d)), .d (.lst (R.map D.int)), .d stopR.d, .d badR.d, .d (.lst (F.map Rl.d)), .d (.int p), .d (.lst (SP.map Rl.d)), .own ((a3 ++ [Ask.mk na sa rs]).map Ask.d), .un, .un, .un] := by
    rw [List.map_append]
    show _ = Fl.nx [.d (.int n), .d (.int s), .d (.lst (rs.map Rl.d)), .d (.lst (R.map D.int)), .d stopR.d, .d badR.d, .d (.lst (F.map Rl.d)), .d (.int p), .d (.lst (SP.map Rl.d)), .own (a3.map Ask.d ++ [.tup [.int na, .int sa, .lst (rs.map Rl.d)]]), .un, .un, .un]
    have hc : (a3.map Ask.d).length < lim := by rw [List.length_map, l12]; omega
    unfold ll8
    generalize a3.map Ask.d = A3 at *
    generalize stopR.d = sd at *
    generalize badR.d = bd at *
    generalize F.map Rl.d = FD at *
    generalize SP.map Rl.d = SD at *
    generalize rs.map Rl.d = RS at *
    generalize R.map D.int = RD at *
    generalize r45 % 4 = z45 at *
    generalize r46 % 4 = z46 at *
    simp [seq_bNil, bSeq, bNil, sAsg, sAsgO, setO, setD, sIf, sRet, sDrop, sFor, sApp, fC, fVar, fBin, fLate, slotD, fTst, boolD, fAnd, fOr, fNot, fUn, negD, fIf, fBlt, fLenN, fTup, fO, oLst, aNil, aCons, fSl, pNone, pSome, intD, fPop, ownAt, iSeq, iRange1, iRange2, iEnum1, cmpI, ltD, leD, gtD, geD, lenL, gUn, tsCons, tsNil, List.getElem?_cons_zero, List.getElem?_cons_succ, List.set_cons_zero, List.set_cons_succ, List.length_cons, List.length_nil, int_i, g45, g46, mo45, mo46, aa, ab, h3l, hc]
  rw [bSeq_app, e8, Fl.seq_nx]
  have o8 := oapp a3 ⟨na, sa, rs⟩ o12 ⟨by show rs.length ≤ 1000; omega, hrs⟩
  have l8 : (a3 ++ [Ask.mk na sa rs]).length = 11 := by rw [List.length_append, l12]; rfl
  clear e8
  generalize a3 ++ [Ask.mk na sa rs] = a4 at *
  have e9 : ∃ a5 : List Ask, (∀ a ∈ a5, a.ok) ∧ a5.length ≤ 12 ∧ ll9 [.d (.int n), .d (.int s), .d (.lst (rs.map Rl.d)), .d (.lst (R.map D.int)), .d stopR.d, .d badR.d, .d (.lst (F.map Rl.d)), .d (.int p), .d (.lst (SP.map Rl.d)), .own (a4.map Ask.d), .un, .un, .un] = .nx [.d (.int n), .d (.int s), .d (.lst (rs.map Rl.d)), .d (.lst (R.map D.int)), .d stopR.d, .d badR.d, .d (.lst (F.map Rl.d)), .d (.int p), .d (.lst (SP.map Rl.d)), .own (a5.map Ask.d), .un, .un, .un] := by
    have hc : (a4.map Ask.d).length < lim := by rw [List.length_map, l8]; omega
    have eq := eq_int (r47 % 4) 1
    by_cases h : r47 % 4 = 1
    · rw [decide_eq_true h] at eq
      refine ⟨a4 ++ [⟨n, s, F⟩], oapp a4 _ o8 ⟨by show F.length ≤ 1000; omega, hFo⟩, by rw [List.length_append, l8]; exact Nat.le_refl _, ?_⟩
      rw [List.map_append]
      show _ = Fl.nx [.d (.int n), .d (.int s), .d (.lst (rs.map Rl.d)), .d (.lst (R.map D.int)), .d stopR.d, .d badR.d, .d (.lst (F.map Rl.d)), .d (.int p), .d (.lst (SP.map Rl.d)), .own (a4.map Ask.d ++ [.tup [.int n, .int s, .lst (F.map Rl.d)]]), .un, .un, .un]
      unfold ll9
      clear h
      generalize a4.map Ask.d = A3 at *
      generalize stopR.d = sd at *
      generalize badR.d = bd at *
      generalize F.map Rl.d = FD at *
      generalize SP.map Rl.d = SD at *
      generalize rs.map Rl.d = RS at *
      generalize R.map D.int = RD at *
      generalize r47 % 4 = z47 at *
      simp [seq_bNil, bSeq, bNil, sAsg, sAsgO, setO, setD, sIf, sRet, sDrop, sFor, sApp, fC, fVar, fBin, fLate, slotD, fTst, boolD, fAnd, fOr, fNot, fUn, negD, fIf, fBlt, fLenN, fTup, fO, oLst, aNil, aCons, fSl, pNone, pSome, intD, fPop, ownAt, iSeq, iRange1, iRange2, iEnum1, cmpI, ltD, leD, gtD, geD, lenL, gUn, tsCons, tsNil, List.getElem?_cons_zero, List.getElem?_cons_succ, List.set_cons_zero, List.set_cons_succ, List.length_cons, List.length_nil, int_i, g47, mo47, eq, h3l, hc]
    · rw [decide_eq_false h] at eq
      refine ⟨a4, o8, by omega, ?_⟩
      unfold ll9
      clear h
      generalize a4.map Ask.d = A3 at *
      generalize stopR.d = sd at *
      generalize badR.d = bd at *
      generalize F.map Rl.d = FD at *
      generalize SP.map Rl.d = SD at *
      generalize rs.map Rl.d = RS at *
      generalize R.map D.int = RD at *
      generalize r47 % 4 = z47 at *
      simp [seq_bNil, bSeq, bNil, sAsg, sAsgO, setO, setD, sIf, sRet, sDrop, sFor, sApp, fC, fVar, fBin, fLate, slotD, fTst, boolD, fAnd, fOr, fNot, fUn, negD, fIf, fBlt, fLenN, fTup, fO, oLst, aNil, aCons, fSl, pNone, pSome, intD, fPop, ownAt, iSeq, iRange1, iRange2, iEnum1, cmpI, ltD, leD, gtD, geD, lenL, gUn, tsCons, tsNil, List.getElem?_cons_zero, List.getElem?_cons_succ, List.set_cons_zero, List.set_cons_succ, List.length_cons, List.length_nil, int_i, g47, mo47, eq]
  obtain ⟨a5, o5, l5, e9⟩ := e9
  have e10 : ∃ a6 : List Ask, (∀ a ∈ a6, a.ok) ∧ ll10 [.d (.int n), .d (.int s), .d (.lst (rs.map Rl.d)), .d (.lst (R.map D.int)), .d stopR.d, .d badR.d, .d (.lst (F.map Rl.d)), .d (.int p), .d (.lst (SP.map Rl.d)), .own (a5.map Ask.d), .un, .un, .un] = .nx [.d (.int n), .d (.int s), .d (.lst (rs.map Rl.d)), .d (.lst (R.map D.int)), .d stopR.d, .d badR.d, .d (.lst (F.map Rl.d)), .d (.int p), .d (.lst (SP.map Rl.d)), .own (a6.map Ask.d), .un, .un, .un] := by
    have hc : (a5.map Ask.d).length < lim := by rw [List.length_map]; omega
    have eq := eq_int (r47 % 4) 3
    by_cases h : r47 % 4 = 3
    · rw [decide_eq_true h] at eq
      refine ⟨a5 ++ [⟨300, sb, SP⟩], oapp a5 _ o5 ⟨by show SP.length ≤ 1000; omega, hSo⟩, ?_⟩
      rw [List.map_append]
      show _ = Fl.nx [.d (.int n), .d (.int s), .d (.lst (rs.map Rl.d)), .d (.lst (R.map D.int)), .d stopR.d, .d badR.d, .d (.lst (F.map Rl.d)), .d (.int p), .d (.lst (SP.map Rl.d)), .own (a5.map Ask.d ++ [.tup [.int 300, .int sb, .lst (SP.map Rl.d)]]), .un, .un, .un]
      unfold ll10
      clear h e9
      generalize a5.map Ask.d = A3 at *
      generalize stopR.d = sd at *
      generalize badR.d = bd at *
      generalize F.map Rl.d = FD at *
      generalize SP.map Rl.d = SD at *
      generalize rs.map Rl.d = RS at *
      generalize R.map D.int = RD at *
      generalize r47 % 4 = z47 at *
      generalize r45 % 2 = z45 at *
      simp [seq_bNil, bSeq, bNil, sAsg, sAsgO, setO, setD, sIf, sRet, sDrop, sFor, sApp, fC, fVar, fBin, fLate, slotD, fTst, boolD, fAnd, fOr, fNot, fUn, negD, fIf, fBlt, fLenN, fTup, fO, oLst, aNil, aCons, fSl, pNone, pSome, intD, fPop, ownAt, iSeq, iRange1, iRange2, iEnum1, cmpI, ltD, leD, gtD, geD, lenL, gUn, tsCons, tsNil, List.getElem?_cons_zero, List.getElem?_cons_succ, List.set_cons_zero, List.set_cons_succ, List.length_cons, List.length_nil, int_i, g47, g45, mo47, mo452, ac, eq, h3l, hc]
    · rw [decide_eq_false h] at eq
      refine ⟨a5, o5, ?_⟩
      unfold ll10
      clear h e9
      generalize a5.map Ask.d = A3 at *
      generalize stopR.d = sd at *
      generalize badR.d = bd at *
      generalize F.map Rl.d = FD at *
      generalize SP.map Rl.d = SD at *
      generalize rs.map Rl.d = RS at *
      generalize R.map D.int = RD at *
      generalize r47 % 4 = z47 at *
      simp [seq_bNil, bSeq, bNil, sAsg, sAsgO, setO, setD, sIf, sRet, sDrop, sFor, sApp, fC, fVar, fBin, fLate, slotD, fTst, boolD, fAnd, fOr, fNot, fUn, negD, fIf, fBlt, fLenN, fTup, fO, oLst, aNil, aCons, fSl, pNone, pSome, intD, fPop, ownAt, iSeq, iRange1, iRange2, iEnum1, cmpI, ltD, leD, gtD, geD, lenL, gUn, tsCons, tsNil, List.getElem?_cons_zero, List.getElem?_cons_succ, List.set_cons_zero, List.set_cons_succ, List.length_cons, List.length_nil, int_i, g47, mo47, eq]
  obtain ⟨a6, o6, e10⟩ := e10
  rw [bSeq_app, e9, Fl.seq_nx, bSeq_app, e10, Fl.seq_nx, bSeq_app]
  have e11 : ll11 [.d (.int n), .d (.int s), .d (.lst (rs.map Rl.d)), .d (.lst (R.map D.int)), .d stopR.d, .d badR.d, .d (.lst (F.map Rl.d)), .d (.int p), .d (.lst (SP.map Rl.d)), .own (a6.map Ask.d), .un, .un, .un] = forD llTg llLoop (a6.map Ask.d) [.d (.int n), .d (.int s), .d (.lst (rs.map Rl.d)), .d (.lst (R.map D.int)), .d stopR.d, .d badR.d, .d (.lst (F.map Rl.d)), .d (.int p), .d (.lst (SP.map Rl.d)), .d (.lst (a6.map Ask.d)), .un, .un, .un] := rfl
  generalize Sl.d (.lst (a6.map Ask.d)) = y9 at *
  generalize Sl.d (.lst (rs.map Rl.d)) = y2 at *
  generalize Sl.d (.lst (R.map D.int)) = y3 at *
  generalize Sl.d (.lst (F.map Rl.d)) = y6 at *
  generalize Sl.d (.lst (SP.map Rl.d)) = y8 at *
  generalize Sl.d stopR.d = y4 at *
  generalize Sl.d badR.d = y5 at *
  obtain ⟨ρ', e, _⟩ := forD_thru (g := llTg) (f := llLoop) (fun i ρ => ∃ x10 x11 x12, ρ = [.d (.int n), .d (.int s), y2, y3, y4, y5, y6, .d (.int p), y8, y9, x10, x11, x12]) (ds := a6.map Ask.d) (ρ := [.d (.int n), .d (.int s), y2, y3, y4, y5, y6, .d (.int p), y8, y9, .un, .un, .un]) (fun i d ρ hd hi => by
    obtain ⟨x10, x11, x12, rfl⟩ := hi
    rw [List.getElem?_map] at hd
    cases hp : a6[i]? with
    | none => rw [hp] at hd; cases hd
    | some a =>
      rw [hp] at hd
      cases hd
      have ok := o6 a (List.mem_of_getElem? hp)
      have e0 : llTg a.d [.d (.int n), .d (.int s), y2, y3, y4, y5, y6, .d (.int p), y8, y9, x10, x11, x12] = .nx [.d (.int n), .d (.int s), y2, y3, y4, y5, y6, .d (.int p), y8, y9, .d (.int a.n), .d (.int a.s), .d (.lst (a.rs.map Rl.d))] := rfl
      have c : chk (aCons (fVar 10) (aCons (fVar 11) (aCons (fVar 12) aNil))) [.d (.int n), .d (.int s), y2, y3, y4, y5, y6, .d (.int p), y8, y9, .d (.int a.n), .d (.int a.s), .d (.lst (a.rs.map Rl.d))] = .ok false [.d (.int n), .d (.int s), y2, y3, y4, y5, y6, .d (.int p), y8, y9, .d (.int a.n), .d (.int a.s), .d (.lst (a.rs.map Rl.d))] := chk_is rfl rfl ok.1 ok.2
      refine ⟨[.d (.int n), .d (.int s), y2, y3, y4, y5, y6, .d (.int p), y8, y9, .d (.int a.n), .d (.int a.s), .d (.lst (a.rs.map Rl.d))], .inl ?_, _, _, _, rfl⟩
      rw [e0, Fl.seq_nx]
      unfold llLoop
      rw [bSeq_app, sIf_f c]
      rfl) ⟨_, _, _, rfl⟩
  rw [e11, e]
  rfl
end G
set_option Elab.async false
set_option linter.all false
set_option maxRecDepth 100000
set_option maxHeartbeats 4000000
/-! V19: the law. -/
namespace G
open PySem PySem.Spec L2 PD
def lw1 : En → Fl := (sAsg (fCall den__law_row (aCons (fVar 0) (aCons (fC (.int 240)) aNil)) []) (setD 1))
def lw2 : En → Fl := (sAsg (fBin addD (fC (.int 1)) (fBin modI (fBlt intL (aCons (fLate 1 subD (fC (.int 0))) aNil)) (fC (.int 4)))) (setD 2))
def lw3 : En → Fl := (sAsg (fBin modI (fBlt intL (aCons (fLate 1 subD (fC (.int 5))) aNil)) (fC (.int 4))) (setD 3))
def lw4 : En → Fl := (sIf (fTst boolD (fBin eqD (fBin modI (fBlt intL (aCons (fLate 1 subD (fC (.int 7))) aNil)) (fC (.int 8))) (fC (.int 1)))) (bSeq (sAsg (fC (.int 300)) (setD 2)) (bSeq (sAsg (fC (.int 300)) (setD 3)) bNil)) bNil)
def lw5 : En → Fl := (sAsg (fCall den__law_rules (aCons (fVar 1) (aCons (fBlt minL (aCons (fVar 2) (aCons (fC (.int 4)) aNil))) (aCons (fBlt minL (aCons (fVar 3) (aCons (fC (.int 3)) aNil))) (aCons (fC (.int 1)) (aCons (fC (.int 1)) aNil))))) []) (setD 4))
def lwEdge : En → Fl := (bSeq (sIf (chk (aCons (fVar 2) (aCons (fVar 3) (aCons (fO (oLst (aCons (fVar 5) aNil))) aNil)))) (bSeq (sRet (fC (.bl false))) bNil) bNil) bNil)
def lw6 : En → Fl := (sFor (iSeq (fCall den__law_edges (aCons (fVar 2) (aCons (fVar 3) aNil)) [])) (setD 5) lwEdge)
def lw7 : En → Fl := (sAsg (fBin addD (fBlt lenL (aCons (fCall den__law_odd_parts (aCons (fVar 2) (aCons (fVar 3) aNil)) []) aNil)) (fC (.int 20))) (setD 6))
def lwA : En → Fl := (sAsg (fLate 1 subD (fBin addD (fC (.int 135)) (fBin mulD (fC (.int 2)) (fVar 7)))) (setD 8))
def lwB : En → Fl := (sAsg (fLate 1 subD (fBin addD (fC (.int 136)) (fBin mulD (fC (.int 2)) (fVar 7)))) (setD 9))
def lwC : En → Fl := (sAsg (fCall den__law_rule (aCons (fO (oLst (aCons (fBin addD (fVar 7) (fLate 1 subD (fC (.int 48)))) (aCons (fVar 8) (aCons (fVar 9) (aCons (fBin fdivI (fVar 8) (fC (.int 4))) (aCons (fBin fdivI (fVar 9) (fC (.int 4))) aNil))))))) (aCons (fBlt minL (aCons (fVar 2) (aCons (fC (.int 4)) aNil))) (aCons (fBlt minL (aCons (fVar 3) (aCons (fC (.int 3)) aNil))) (aCons (fC (.int 1)) (aCons (fC (.int 1)) aNil))))) []) (setD 10))
def lwD : En → Fl := (sAsgO (oList (aCons (fVar 4) aNil)) 11)
def lwE : En → Fl := (sAsg (fBin modI (fBlt intL (aCons (fVar 9) aNil)) (fBin addD (fLenN 4) (fC (.int 1)))) (setD 12))
def lwF : En → Fl := (sIns 11 (aCons (fVar 12) (aCons (fCall den__law_bent (aCons (fVar 10) (aCons (fVar 7) (aCons (fBin fdivI (fVar 8) (fC (.int 10))) (aCons (fVar 2) (aCons (fVar 3) aNil))))) []) aNil)))
def lwG : En → Fl := (sIf (fTst boolD (fBin eqD (fBin modI (fBlt intL (aCons (fVar 8) aNil)) (fC (.int 2))) (fC (.int 1)))) (bSeq (sAsg (fBin modI (fBlt intL (aCons (fBin fdivI (fVar 8) (fC (.int 2))) aNil)) (fLenN 11)) (setD 12)) (bSeq (sSetIx 11 (fCall den__law_bent (aCons (fLate 11 subD (fVar 12)) (aCons (fBin modI (fBlt intL (aCons (fBin fdivI (fVar 9) (fC (.int 7))) aNil)) (fVar 6)) (aCons (fBin fdivI (fVar 8) (fC (.int 20))) (aCons (fVar 2) (aCons (fVar 3) aNil))))) []) (fVar 12)) bNil)) bNil)
def lwH : En → Fl := (sIf (chk (aCons (fVar 2) (aCons (fVar 3) (aCons (fVar 11) aNil)))) (bSeq (sRet (fC (.bl false))) bNil) bNil)
def lwLoop : En → Fl := (bSeq lwA (bSeq lwB (bSeq lwC (bSeq lwD (bSeq lwE (bSeq lwF (bSeq lwG (bSeq lwH bNil))))))))
def lw8 : En → Fl := (sFor (iRange1 (aCons (fVar 6) aNil)) (setD 7) lwLoop)
def lw9 : En → Fl := (sRet (fCall den__law_limits (aCons (fVar 2) (aCons (fVar 3) (aCons (fVar 4) (aCons (fVar 1) aNil)))) []))
theorem lw_is : bod_law = (bSeq lw1 (bSeq lw2 (bSeq lw3 (bSeq lw4 (bSeq lw5 (bSeq lw6 (bSeq lw7 (bSeq lw8 (bSeq lw9 bNil))))))))) := rfl
theorem minL_2 (a b : Int) : minL [.int a, .int b] = some (.int (if b < a then b else a)) := rfl
theorem cs_d (a b c d e : Int) : ([a, b, c, d, e] : List Int).map D.int = [.int a, .int b, .int c, .int d, .int e] := rfl
theorem ixN_at {k : Nat} {z : Int} (h0 : 0 ≤ z) (h1 : z < k) : ixN k z = some z.toNat := by
  unfold ixN
  rw [if_pos h0, if_pos h1]
theorem way_step {R : List Int} {n s : Int} {n' s' : Nat} {rs : List Rl} {y0 y5 x7 x8 x9 x10 x11 x12 : Sl} {i : Nat} (hR : RowOk 240 R) (hn : (if (4 : Int) < n then (4 : Int) else n) = (n' : Int)) (hs : (if (3 : Int) < s then (3 : Int) else s) = (s' : Int)) (hn0 : 0 < n')
    (hl : rs.length ≤ 100) (hr : ∀ r ∈ rs, OkM 4 r) (hi : i < 44) : ∃ z8 z9 z10 z11 z12 : Sl, (setD 7 (.int (i : Nat)) [y0, .d (.lst (R.map D.int)), .d (.int n), .d (.int s), .d (.lst (rs.map Rl.d)), y5, .d (.int 44), x7, x8, x9, x10, x11, x12]).seq lwLoop =
      .nx [y0, .d (.lst (R.map D.int)), .d (.int n), .d (.int s), .d (.lst (rs.map Rl.d)), y5, .d (.int 44), .d (.int (i : Nat)), z8, z9, z10, z11, z12] := by
  have hlim : (50000 : Nat) < lim := by decide
  have h5l : 5 ≤ lim := by decide
  obtain ⟨one, _, g1⟩ := hR.at (i := 135 + 2 * (i : Nat)) (by omega) (by omega)
  obtain ⟨two, _, g2⟩ := hR.at (i := 136 + 2 * (i : Nat)) (by omega) (by omega)
  obtain ⟨r48, _, g48⟩ := hR.at (i := 48) (by decide) (by decide)
  have m2 : mulD (.int 2) (.int (i : Nat)) = some (.int (2 * (i : Nat))) := mulD_ii (by omega)
  have a1 := add_ii 135 (2 * (i : Nat))
  have a2 := add_ii 136 (2 * (i : Nat))
  have a48 := add_ii (i : Nat) r48
  have f1 : fdivI (.int one) (.int 4) = some (.int (one / 4)) := rfl
  have f2 : fdivI (.int two) (.int 4) = some (.int (two / 4)) := rfl
  have f10 : fdivI (.int one) (.int 10) = some (.int (one / 10)) := rfl
  have f20 : fdivI (.int one) (.int 20) = some (.int (one / 20)) := rfl
  have fh : fdivI (.int one) (.int 2) = some (.int (one / 2)) := rfl
  have f7 : fdivI (.int two) (.int 7) = some (.int (two / 7)) := rfl
  have mn := minL_2 n 4
  have ms := minL_2 s 3
  rw [hn] at mn
  rw [hs] at ms
  obtain ⟨r, dr, hrr⟩ := rule_is (cs := [(i : Nat) + r48, one, two, one / 4, two / 4]) (n := (n' : Int)) (s := (s' : Int)) (by simp) (by omega) (by omega)
  rw [cs_d] at dr
  have e0 : setD 7 (.int (i : Nat)) [y0, .d (.lst (R.map D.int)), .d (.int n), .d (.int s), .d (.lst (rs.map Rl.d)), y5, .d (.int 44), x7, x8, x9, x10, x11, x12] = .nx [y0, .d (.lst (R.map D.int)), .d (.int n), .d (.int s), .d (.lst (rs.map Rl.d)), y5, .d (.int 44), .d (.int (i : Nat)), x8, x9, x10, x11, x12] := rfl
  rw [e0, Fl.seq_nx]
  unfold lwLoop
  have eA : (bSeq lwA (bSeq lwB (bSeq lwC lwD))) [y0, .d (.lst (R.map D.int)), .d (.int n), .d (.int s), .d (.lst (rs.map Rl.d)), y5, .d (.int 44), .d (.int (i : Nat)), x8, x9, x10, x11, x12] = .nx [y0, .d (.lst (R.map D.int)), .d (.int n), .d (.int s), .d (.lst (rs.map Rl.d)), y5, .d (.int 44), .d (.int (i : Nat)), .d (.int one), .d (.int two), .d r.d, .own (rs.map Rl.d), x12] := by
    unfold lwA lwB lwC lwD
    have hll : (rs.map Rl.d).length ≤ lim := by rw [List.length_map]; omega
    have li : listL [.lst (rs.map Rl.d)] = some (rs.map Rl.d) := rfl
    clear e0 hn hs
    generalize den__law_rule = dru at *
    generalize rs.map Rl.d = RS at *
    generalize R.map D.int = RD at *
    generalize r.d = rd at *
    generalize 135 + 2 * (i : Int) = w1 at *
    generalize 136 + 2 * (i : Int) = w2 at *
    generalize 2 * (i : Int) = w3 at *
    generalize (i : Int) + r48 = w4 at *
    generalize one / 4 = o4 at *
    generalize two / 4 = t4 at *
    generalize (n' : Int) = ni at *
    generalize (s' : Int) = si at *
    generalize (i : Int) = ii at *
    simp [seq_bNil, bSeq, bNil, sAsg, sAsgO, setO, setD, sIf, sRet, sDrop, sFor, sApp, fC, fVar, fBin, fLate, slotD, fTst, boolD, fAnd, fOr, fNot, fUn, negD, fIf, fBlt, fLenN, fTup, fO, oLst, aNil, aCons, fSl, pNone, pSome, intD, fPop, ownAt, iSeq, iRange1, iRange2, iEnum1, cmpI, ltD, leD, gtD, geD, lenL, gUn, tsCons, tsNil, List.getElem?_cons_zero, List.getElem?_cons_succ, List.set_cons_zero, List.set_cons_succ, List.length_cons, List.length_nil, fCall, oList, m2, a1, g1, a2, g2, g48, a48, f1, f2, mn, ms, dr, h5l, li]
  rw [bSeq_assoc, bSeq_assoc, bSeq_assoc, bSeq_app]
  have hre : bSeq (bSeq (bSeq lwA lwB) lwC) lwD = bSeq lwA (bSeq lwB (bSeq lwC lwD)) := by rw [bSeq_assoc, bSeq_assoc]
  rw [hre, eA, Fl.seq_nx]
  clear eA e0 dr mn ms hre
  have hp : (0 : Int) < (rs.length : Int) + 1 := by omega
  obtain ⟨p0, p1⟩ := mod_ok two hp
  have mop := mod_ii (a := two) hp
  have lenR : lenOf (.lst (rs.map Rl.d)) = some (.int (rs.length : Nat)) := len_map _ _
  have ad1 := add_ii (rs.length : Nat) 1
  obtain ⟨b, db, hb⟩ := bent_is (way := (i : Nat)) (pick := one / 10) (n := n) (s := s) hrr (by decide) (by omega)
  have cIns : (decide ((rs.map Rl.d).length < lim) && decide (0 ≤ two % ((rs.length : Int) + 1)) && decide ((two % ((rs.length : Int) + 1)).natAbs ≤ (rs.map Rl.d).length)) = true := by
    rw [List.length_map]
    rw [decide_eq_true (by omega : rs.length < lim), decide_eq_true p0, decide_eq_true (by omega : (two % ((rs.length : Int) + 1)).natAbs ≤ rs.length)]
    rfl
  have hins : (rs.map Rl.d).take (two % ((rs.length : Int) + 1)).toNat ++ [b.d] ++ (rs.map Rl.d).drop (two % ((rs.length : Int) + 1)).toNat = (rs.take (two % ((rs.length : Int) + 1)).toNat ++ [b] ++ rs.drop (two % ((rs.length : Int) + 1)).toNat).map Rl.d := by
    rw [List.map_append, List.map_append, List.map_take, List.map_drop]
    rfl
  have eE : (bSeq lwE lwF) [y0, .d (.lst (R.map D.int)), .d (.int n), .d (.int s), .d (.lst (rs.map Rl.d)), y5, .d (.int 44), .d (.int (i : Nat)), .d (.int one), .d (.int two), .d r.d, .own (rs.map Rl.d), x12] = .nx [y0, .d (.lst (R.map D.int)), .d (.int n), .d (.int s), .d (.lst (rs.map Rl.d)), y5, .d (.int 44), .d (.int (i : Nat)), .d (.int one), .d (.int two), .d r.d, .own ((rs.take (two % ((rs.length : Int) + 1)).toNat ++ [b] ++ rs.drop (two % ((rs.length : Int) + 1)).toNat).map Rl.d), .d (.int (two % ((rs.length : Int) + 1)))] := by
    rw [← hins]
    unfold lwE lwF
    clear hn hs hins
    generalize den__law_bent = dbe at *
    generalize rs.map Rl.d = RS at *
    generalize R.map D.int = RD at *
    generalize r.d = rd at *
    generalize b.d = bd at *
    generalize two % ((rs.length : Int) + 1) = pl at *
    generalize (rs.length : Int) + 1 = l1 at *
    generalize (rs.length : Int) = l0 at *
    generalize one / 10 = o10 at *
    generalize (i : Int) = ii at *
    simp only [Bool.and_eq_true, decide_eq_true_eq] at cIns
    obtain ⟨⟨c1, c2⟩, c3⟩ := cIns
    simp [seq_bNil, bSeq, bNil, sAsg, sAsgO, setO, setD, sIf, sRet, sDrop, sFor, sApp, fC, fVar, fBin, fLate, slotD, fTst, boolD, fAnd, fOr, fNot, fUn, negD, fIf, fBlt, fLenN, fTup, fO, oLst, aNil, aCons, fSl, pNone, pSome, intD, fPop, ownAt, iSeq, iRange1, iRange2, iEnum1, cmpI, ltD, leD, gtD, geD, lenL, gUn, tsCons, tsNil, List.getElem?_cons_zero, List.getElem?_cons_succ, List.set_cons_zero, List.set_cons_succ, List.length_cons, List.length_nil, fCall, int_i, sIns, lenR, ad1, mop, f10, db, c1, c2, c3]
  rw [bSeq_assoc, bSeq_app, eE, Fl.seq_nx]
  clear eE hins cIns
  have ho : ∀ x ∈ rs.take (two % ((rs.length : Int) + 1)).toNat ++ [b] ++ rs.drop (two % ((rs.length : Int) + 1)).toNat, OkM 9 x := fun x hx => by
    rcases List.mem_append.mp hx with hx | hx
    · rcases List.mem_append.mp hx with hx | hx
      · exact (hr x (List.mem_of_mem_take hx)).mono (by decide)
      · rw [List.mem_singleton.mp hx]; exact hb
    · exact (hr x (List.mem_of_mem_drop hx)).mono (by decide)
  have hol : (rs.take (two % ((rs.length : Int) + 1)).toNat ++ [b] ++ rs.drop (two % ((rs.length : Int) + 1)).toNat).length = rs.length + 1 := by
    rw [List.length_append, List.length_append, List.length_take, List.length_singleton, List.length_drop]
    omega
  generalize rs.take (two % ((rs.length : Int) + 1)).toNat ++ [b] ++ rs.drop (two % ((rs.length : Int) + 1)).toNat = bs at *
  generalize two % ((rs.length : Int) + 1) = pl at *
  have eG : ∃ (bs2 : List Rl) (z12 : Sl), bs2.length ≤ 1000 ∧ (∀ x ∈ bs2, OkR x) ∧ lwG [y0, .d (.lst (R.map D.int)), .d (.int n), .d (.int s), .d (.lst (rs.map Rl.d)), y5, .d (.int 44), .d (.int (i : Nat)), .d (.int one), .d (.int two), .d r.d, .own (bs.map Rl.d), .d (.int pl)] = .nx [y0, .d (.lst (R.map D.int)), .d (.int n), .d (.int s), .d (.lst (rs.map Rl.d)), y5, .d (.int 44), .d (.int (i : Nat)), .d (.int one), .d (.int two), .d r.d, .own (bs2.map Rl.d), z12] := by
    have mo2 := mod_ii (a := one) (b := 2) (by decide)
    have eq := eq_int (one % 2) 1
    by_cases h : one % 2 = 1
    · rw [decide_eq_true h] at eq
      have hq : (0 : Int) < (bs.length : Int) := by omega
      obtain ⟨v0, v1⟩ := mod_ok (one / 2) hq
      have moq := mod_ii (a := one / 2) hq
      obtain ⟨w0, w1⟩ := mod_ok (two / 7) (b := 44) (by decide)
      have mo44 := mod_ii (a := two / 7) (b := 44) (by decide)
      obtain ⟨x, hx, gx⟩ := subL_map Rl.d (xs := bs) v0 v1
      obtain ⟨c, dc, hc⟩ := bent_is (way := two / 7 % 44) (pick := one / 20) (n := n) (s := s) (ho x hx) (by decide) w0
      have lenB : lenOf (.lst (bs.map Rl.d)) = some (.int (bs.length : Nat)) := len_map _ _
      have ix := ixN_at v0 v1
      have ix' : ixN (bs.map Rl.d).length (one / 2 % (bs.length : Int)) = some (one / 2 % (bs.length : Int)).toNat := by rw [List.length_map]; exact ix
      have hset : (bs.map Rl.d).set (one / 2 % (bs.length : Int)).toNat c.d = (bs.set (one / 2 % (bs.length : Int)).toNat c).map Rl.d := by rw [List.map_set]
      refine ⟨bs.set (one / 2 % (bs.length : Int)).toNat c, .d (.int (one / 2 % (bs.length : Int))), by rw [List.length_set]; omega, fun y hy => ?_, ?_⟩
      · rcases List.mem_or_eq_of_mem_set hy with hy | rfl
        · exact (ho y hy).ok (by decide)
        · exact hc.ok (by decide)
      · rw [← hset]
        unfold lwG
        clear hn hs hset h ix
        generalize den__law_bent = dbe at *
        generalize bs.map Rl.d = BS at *
        generalize rs.map Rl.d = RS at *
        generalize R.map D.int = RD at *
        generalize r.d = rd at *
        generalize c.d = cd at *
        generalize x.d = xd at *
        generalize one / 2 % (bs.length : Int) = p2 at *
        generalize one / 2 = oh at *
        generalize two / 7 % 44 = w7 at *
        generalize two / 7 = t7 at *
        generalize one / 20 = o20 at *
        generalize one % 2 = o2 at *
        generalize (bs.length : Int) = bl at *
        generalize (i : Int) = ii at *
        simp [seq_bNil, bSeq, bNil, sAsg, sAsgO, setO, setD, sIf, sRet, sDrop, sFor, sApp, fC, fVar, fBin, fLate, slotD, fTst, boolD, fAnd, fOr, fNot, fUn, negD, fIf, fBlt, fLenN, fTup, fO, oLst, aNil, aCons, fSl, pNone, pSome, intD, fPop, ownAt, iSeq, iRange1, iRange2, iEnum1, cmpI, ltD, leD, gtD, geD, lenL, gUn, tsCons, tsNil, List.getElem?_cons_zero, List.getElem?_cons_succ, List.set_cons_zero, List.set_cons_succ, List.length_cons, List.length_nil, fCall, int_i, sSetIx, mo2, eq, fh, lenB, moq, gx, f7, mo44, f20, dc, ix']
    · rw [decide_eq_false h] at eq
      refine ⟨bs, .d (.int pl), by omega, fun y hy => (ho y hy).ok (by decide), ?_⟩
      unfold lwG
      clear hn hs h
      generalize bs.map Rl.d = BS at *
      generalize rs.map Rl.d = RS at *
      generalize R.map D.int = RD at *
      generalize r.d = rd at *
      generalize one % 2 = o2 at *
      generalize (i : Int) = ii at *
      simp [seq_bNil, bSeq, bNil, sAsg, sAsgO, setO, setD, sIf, sRet, sDrop, sFor, sApp, fC, fVar, fBin, fLate, slotD, fTst, boolD, fAnd, fOr, fNot, fUn, negD, fIf, fBlt, fLenN, fTup, fO, oLst, aNil, aCons, fSl, pNone, pSome, intD, fPop, ownAt, iSeq, iRange1, iRange2, iEnum1, cmpI, ltD, leD, gtD, geD, lenL, gUn, tsCons, tsNil, List.getElem?_cons_zero, List.getElem?_cons_succ, List.set_cons_zero, List.set_cons_succ, List.length_cons, List.length_nil, int_i, mo2, eq]
  obtain ⟨bs2, z12, b1, b2, eG⟩ := eG
  rw [bSeq_app, eG, Fl.seq_nx]
  have c : chk (aCons (fVar 2) (aCons (fVar 3) (aCons (fVar 11) aNil))) [y0, .d (.lst (R.map D.int)), .d (.int n), .d (.int s), .d (.lst (rs.map Rl.d)), y5, .d (.int 44), .d (.int (i : Nat)), .d (.int one), .d (.int two), .d r.d, .own (bs2.map Rl.d), z12] = .ok false [y0, .d (.lst (R.map D.int)), .d (.int n), .d (.int s), .d (.lst (rs.map Rl.d)), y5, .d (.int 44), .d (.int (i : Nat)), .d (.int one), .d (.int two), .d r.d, .d (.lst (bs2.map Rl.d)), z12] := chk_is rfl rfl b1 b2
  refine ⟨.d (.int one), .d (.int two), .d r.d, .d (.lst (bs2.map Rl.d)), z12, ?_⟩
  rw [bSeq_app]
  unfold lwH
  rw [sIf_f c]
  rfl
theorem law_is {ns : List Int} (hns : ns.length ≤ 63) : den_law [.lst (ns.map D.int)] = .ok (.bl true) := by
  have hlim : (50000 : Nat) < lim := by decide
  have h1l : 1 ≤ lim := by decide
  have h5l : 5 ≤ lim := by decide
  have st : den_law [.lst (ns.map D.int)] = (bod_law [.d (.lst (ns.map D.int)), .un, .un, .un, .un, .un, .un, .un, .un, .un, .un, .un, .un]).fin := rfl
  rw [st, lw_is]
  obtain ⟨R, hRl, hRb, hrow⟩ := row_ok (ns := ns) (many := 240) (by decide)
  have hR : RowOk 240 R := ⟨by omega, hRb⟩
  have dr : den__law_row [.lst (ns.map D.int), .int 240] = .ok (.lst (R.map D.int)) := hrow
  clear hrow st
  obtain ⟨r0, _, g0⟩ := hR.at (i := 0) (by decide) (by decide)
  obtain ⟨r5, _, g5⟩ := hR.at (i := 5) (by decide) (by decide)
  obtain ⟨r7, _, g7⟩ := hR.at (i := 7) (by decide) (by decide)
  obtain ⟨r48, _, g48⟩ := hR.at (i := 48) (by decide) (by decide)
  obtain ⟨q0, q0'⟩ := mod_ok r0 (b := 4) (by decide)
  obtain ⟨q5, q5'⟩ := mod_ok r5 (b := 4) (by decide)
  have mo0 := mod_ii (a := r0) (b := 4) (by decide)
  have mo5 := mod_ii (a := r5) (b := 4) (by decide)
  have mo7 := mod_ii (a := r7) (b := 8) (by decide)
  have a1 := add_ii 1 (r0 % 4)
  have e14 : ∃ (n s : Int) (n' s' : Nat), (if (4 : Int) < n then (4 : Int) else n) = (n' : Int) ∧ (if (3 : Int) < s then (3 : Int) else s) = (s' : Int) ∧ 0 < n' ∧ n' ≤ 4 ∧ s' ≤ 3 ∧ (bSeq lw1 (bSeq lw2 (bSeq lw3 lw4))) [.d (.lst (ns.map D.int)), .un, .un, .un, .un, .un, .un, .un, .un, .un, .un, .un, .un] = .nx [.d (.lst (ns.map D.int)), .d (.lst (R.map D.int)), .d (.int n), .d (.int s), .un, .un, .un, .un, .un, .un, .un, .un, .un] := by
    have eq := eq_int (r7 % 8) 1
    by_cases h : r7 % 8 = 1
    · rw [decide_eq_true h] at eq
      refine ⟨300, 300, 4, 3, rfl, rfl, by decide, by decide, by decide, ?_⟩
      unfold lw1 lw2 lw3 lw4
      clear h
      generalize ns.map D.int = N0 at *
      generalize R.map D.int = RD at *
      generalize 1 + r0 % 4 = z0' at *
      generalize r0 % 4 = z0 at *
      generalize r5 % 4 = z5 at *
      generalize r7 % 8 = z7 at *
      simp [seq_bNil, bSeq, bNil, sAsg, sAsgO, setO, setD, sIf, sRet, sDrop, sFor, sApp, fC, fVar, fBin, fLate, slotD, fTst, boolD, fAnd, fOr, fNot, fUn, negD, fIf, fBlt, fLenN, fTup, fO, oLst, aNil, aCons, fSl, pNone, pSome, intD, fPop, ownAt, iSeq, iRange1, iRange2, iEnum1, cmpI, ltD, leD, gtD, geD, lenL, gUn, tsCons, tsNil, List.getElem?_cons_zero, List.getElem?_cons_succ, List.set_cons_zero, List.set_cons_succ, List.length_cons, List.length_nil, fCall, int_i, dr, g0, g5, g7, mo0, mo5, mo7, a1, eq]
    · rw [decide_eq_false h] at eq
      refine ⟨1 + r0 % 4, r5 % 4, (1 + r0 % 4).toNat, (r5 % 4).toNat, ?_, ?_, by omega, by omega, by omega, ?_⟩
      · rw [if_neg (by omega)]
        omega
      · rw [if_neg (by omega)]
        omega
      · unfold lw1 lw2 lw3 lw4
        clear h q0 q0' q5 q5'
        generalize ns.map D.int = N0 at *
        generalize R.map D.int = RD at *
        generalize 1 + r0 % 4 = z0' at *
        generalize r0 % 4 = z0 at *
        generalize r5 % 4 = z5 at *
        generalize r7 % 8 = z7 at *
        simp [seq_bNil, bSeq, bNil, sAsg, sAsgO, setO, setD, sIf, sRet, sDrop, sFor, sApp, fC, fVar, fBin, fLate, slotD, fTst, boolD, fAnd, fOr, fNot, fUn, negD, fIf, fBlt, fLenN, fTup, fO, oLst, aNil, aCons, fSl, pNone, pSome, intD, fPop, ownAt, iSeq, iRange1, iRange2, iEnum1, cmpI, ltD, leD, gtD, geD, lenL, gUn, tsCons, tsNil, List.getElem?_cons_zero, List.getElem?_cons_succ, List.set_cons_zero, List.set_cons_succ, List.length_cons, List.length_nil, fCall, int_i, dr, g0, g5, g7, mo0, mo5, mo7, a1, eq]
  obtain ⟨n, s, n', s', hn, hs, hn0, hn4, hs3, e14⟩ := e14
  have hre : ∀ f : En → Fl, bSeq lw1 (bSeq lw2 (bSeq lw3 (bSeq lw4 f))) = bSeq (bSeq lw1 (bSeq lw2 (bSeq lw3 lw4))) f := fun f => by rw [← bSeq_assoc, ← bSeq_assoc, ← bSeq_assoc]
  rw [hre, bSeq_app, e14, Fl.seq_nx]
  clear e14 hre
  obtain ⟨rs, drs, k1, k2, k3⟩ := rules_is hR hn0 hn4 hs3
  have mn := minL_2 n 4
  have ms := minL_2 s 3
  rw [hn] at mn
  rw [hs] at ms
  have e5 : lw5 [.d (.lst (ns.map D.int)), .d (.lst (R.map D.int)), .d (.int n), .d (.int s), .un, .un, .un, .un, .un, .un, .un, .un, .un] = .nx [.d (.lst (ns.map D.int)), .d (.lst (R.map D.int)), .d (.int n), .d (.int s), .d (.lst (rs.map Rl.d)), .un, .un, .un, .un, .un, .un, .un, .un] := by
    unfold lw5
    clear hn hs dr
    generalize den__law_rules = drl at *
    generalize ns.map D.int = N0 at *
    generalize R.map D.int = RD at *
    generalize rs.map Rl.d = RS at *
    generalize (n' : Int) = ni at *
    generalize (s' : Int) = si at *
    simp [seq_bNil, bSeq, bNil, sAsg, sAsgO, setO, setD, sIf, sRet, sDrop, sFor, sApp, fC, fVar, fBin, fLate, slotD, fTst, boolD, fAnd, fOr, fNot, fUn, negD, fIf, fBlt, fLenN, fTup, fO, oLst, aNil, aCons, fSl, pNone, pSome, intD, fPop, ownAt, iSeq, iRange1, iRange2, iEnum1, cmpI, ltD, leD, gtD, geD, lenL, gUn, tsCons, tsNil, List.getElem?_cons_zero, List.getElem?_cons_succ, List.set_cons_zero, List.set_cons_succ, List.length_cons, List.length_nil, fCall, mn, ms, drs]
  rw [bSeq_app, e5, Fl.seq_nx, bSeq_app]
  obtain ⟨es, des, hes⟩ := edges_is n s
  have e6 : lw6 [.d (.lst (ns.map D.int)), .d (.lst (R.map D.int)), .d (.int n), .d (.int s), .d (.lst (rs.map Rl.d)), .un, .un, .un, .un, .un, .un, .un, .un] = forD (setD 5) lwEdge (es.map Rl.d) [.d (.lst (ns.map D.int)), .d (.lst (R.map D.int)), .d (.int n), .d (.int s), .d (.lst (rs.map Rl.d)), .un, .un, .un, .un, .un, .un, .un, .un] := by
    unfold lw6
    clear dr e5
    generalize lwEdge = L
    generalize den__law_edges = de at *
    generalize ns.map D.int = N0 at *
    generalize R.map D.int = RD at *
    generalize rs.map Rl.d = RS at *
    generalize es.map Rl.d = ES at *
    simp [seq_bNil, bSeq, bNil, sAsg, sAsgO, setO, setD, sIf, sRet, sDrop, sFor, sApp, fC, fVar, fBin, fLate, slotD, fTst, boolD, fAnd, fOr, fNot, fUn, negD, fIf, fBlt, fLenN, fTup, fO, oLst, aNil, aCons, fSl, pNone, pSome, intD, fPop, ownAt, iSeq, iRange1, iRange2, iEnum1, cmpI, ltD, leD, gtD, geD, lenL, gUn, tsCons, tsNil, List.getElem?_cons_zero, List.getElem?_cons_succ, List.set_cons_zero, List.set_cons_succ, List.length_cons, List.length_nil, fCall, des]
  rw [e6]
  clear e5 e6 dr
  have hod := odd_is n s
  have hol : lenOf (.lst ((odds n s).map Pt.d)) = some (.int (24 : Nat)) := by rw [len_map, odds_len]
  have lim' := limits_is (n := n) (s := s) hR k2 k3
  generalize Sl.d (.lst (ns.map D.int)) = y0 at *
  obtain ⟨ρ6, e6, y5, rfl⟩ := forD_thru (g := setD 5) (f := lwEdge) (fun i ρ => ∃ y5, ρ = [y0, .d (.lst (R.map D.int)), .d (.int n), .d (.int s), .d (.lst (rs.map Rl.d)), y5, .un, .un, .un, .un, .un, .un, .un]) (ds := es.map Rl.d) (ρ := [y0, .d (.lst (R.map D.int)), .d (.int n), .d (.int s), .d (.lst (rs.map Rl.d)), .un, .un, .un, .un, .un, .un, .un, .un]) (fun i d ρ hd hi => by
    obtain ⟨y5, rfl⟩ := hi
    rw [List.getElem?_map] at hd
    cases hp : es[i]? with
    | none => rw [hp] at hd; cases hd
    | some r =>
      rw [hp] at hd
      cases hd
      have ok := hes r (List.mem_of_getElem? hp)
      have e0 : setD 5 r.d [y0, .d (.lst (R.map D.int)), .d (.int n), .d (.int s), .d (.lst (rs.map Rl.d)), y5, .un, .un, .un, .un, .un, .un, .un] = .nx [y0, .d (.lst (R.map D.int)), .d (.int n), .d (.int s), .d (.lst (rs.map Rl.d)), .d r.d, .un, .un, .un, .un, .un, .un, .un] := rfl
      have fa : aCons (fVar 2) (aCons (fVar 3) (aCons (fO (oLst (aCons (fVar 5) aNil))) aNil)) [y0, .d (.lst (R.map D.int)), .d (.int n), .d (.int s), .d (.lst (rs.map Rl.d)), .d r.d, .un, .un, .un, .un, .un, .un, .un] = .ok [.int n, .int s, .lst [r.d]] [y0, .d (.lst (R.map D.int)), .d (.int n), .d (.int s), .d (.lst (rs.map Rl.d)), .d r.d, .un, .un, .un, .un, .un, .un, .un] := by
        generalize R.map D.int = RD at *
        generalize rs.map Rl.d = RS at *
        generalize r.d = rd at *
        simp [fO, oLst, aCons, aNil, fVar, h1l]
      have c := chk_is (n := n) (s := s) (rs := [r]) fa fa (by simp) (fun x hx => by rw [List.mem_singleton.mp hx]; exact ok.ok (by decide))
      refine ⟨[y0, .d (.lst (R.map D.int)), .d (.int n), .d (.int s), .d (.lst (rs.map Rl.d)), .d r.d, .un, .un, .un, .un, .un, .un, .un], .inl ?_, _, rfl⟩
      rw [e0, Fl.seq_nx]
      unfold lwEdge
      rw [bSeq_app, sIf_f c]
      rfl) ⟨_, rfl⟩
  rw [e6, Fl.seq_nx]
  have e7 : lw7 [y0, .d (.lst (R.map D.int)), .d (.int n), .d (.int s), .d (.lst (rs.map Rl.d)), y5, .un, .un, .un, .un, .un, .un, .un] = .nx [y0, .d (.lst (R.map D.int)), .d (.int n), .d (.int s), .d (.lst (rs.map Rl.d)), y5, .d (.int 44), .un, .un, .un, .un, .un, .un] := by
    have a44 : addD (.int ((24 : Nat) : Int)) (.int 20) = some (.int 44) := rfl
    have hol' : lenL [.lst ((odds n s).map Pt.d)] = some (.int ((24 : Nat) : Int)) := hol
    unfold lw7
    generalize den__law_odd_parts = dop at *
    generalize (odds n s).map Pt.d = OD at *
    generalize R.map D.int = RD at *
    generalize rs.map Rl.d = RS at *
    generalize ((24 : Nat) : Int) = n24 at *
    simp [seq_bNil, bSeq, bNil, sAsg, setD, fBin, fBlt, aCons, aNil, fC, fVar, fCall, hod, hol', a44]
  have e8 : lw8 [y0, .d (.lst (R.map D.int)), .d (.int n), .d (.int s), .d (.lst (rs.map Rl.d)), y5, .d (.int 44), .un, .un, .un, .un, .un, .un] = forD (setD 7) lwLoop (dRange 0 44) [y0, .d (.lst (R.map D.int)), .d (.int n), .d (.int s), .d (.lst (rs.map Rl.d)), y5, .d (.int 44), .un, .un, .un, .un, .un, .un] := by
    unfold lw8
    generalize lwLoop = L
    rfl
  obtain ⟨ρ8, e9, x7, x8, x9, x10, x11, x12, rfl⟩ := forD_thru (g := setD 7) (f := lwLoop) (fun i ρ => ∃ x7 x8 x9 x10 x11 x12, ρ = [y0, .d (.lst (R.map D.int)), .d (.int n), .d (.int s), .d (.lst (rs.map Rl.d)), y5, .d (.int 44), x7, x8, x9, x10, x11, x12]) (ds := dRange 0 44) (ρ := [y0, .d (.lst (R.map D.int)), .d (.int n), .d (.int s), .d (.lst (rs.map Rl.d)), y5, .d (.int 44), .un, .un, .un, .un, .un, .un]) (fun i d ρ hd hi => by
    obtain ⟨x7, x8, x9, x10, x11, x12, rfl⟩ := hi
    obtain ⟨h1, rfl⟩ := dRange_inv0 hd
    obtain ⟨z8, z9, z10, z11, z12, e⟩ := way_step (y0 := y0) (y5 := y5) (x7 := x7) (x8 := x8) (x9 := x9) (x10 := x10) (x11 := x11) (x12 := x12) hR hn hs hn0 k2 k3 h1
    exact ⟨_, .inl e, _, _, _, _, _, _, rfl⟩) ⟨_, _, _, _, _, _, rfl⟩
  rw [bSeq_app, e7, Fl.seq_nx, bSeq_app, e8, e9, Fl.seq_nx]
  unfold lw9
  clear e6 e7 e8 e9
  generalize den__law_limits = dl at *
  generalize R.map D.int = RD at *
  generalize rs.map Rl.d = RS at *
  simp [seq_bNil, bSeq, bNil, sAsg, sAsgO, setO, setD, sIf, sRet, sDrop, sFor, sApp, fC, fVar, fBin, fLate, slotD, fTst, boolD, fAnd, fOr, fNot, fUn, negD, fIf, fBlt, fLenN, fTup, fO, oLst, aNil, aCons, fSl, pNone, pSome, intD, fPop, ownAt, iSeq, iRange1, iRange2, iEnum1, cmpI, ltD, leD, gtD, geD, lenL, gUn, tsCons, tsNil, List.getElem?_cons_zero, List.getElem?_cons_succ, List.set_cons_zero, List.set_cons_succ, List.length_cons, List.length_nil, fCall, lim', Fl.fin]
theorem plain (ns : List Int) (h : ns.length ≤ 63) : den_law [.lst (ns.map .int)] = .ok (.bl true) := law_is h
end G
open PySem PySem.W PyProof.Rows
set_option maxRecDepth 100000 in
set_option maxHeartbeats 0 in
theorem PySem.Challenge.cw_adjoinedtongues_k19_stack_rules_refused_holds : PySem.Challenge.rw_adjoinedtongues_k19_stack_rules_refused.Holds := by
  w_on; o_law; k_head; (case hw => w_witness2)
  k_fill
  refine PD.walk_pd (l := PySem.Challenge.rw_adjoinedtongues_k19_stack_rules_refused) (k := 9) G.den_law G.plain rfl rfl ⟨rfl, by decide, by decide⟩ (fun w h Y => PySem.W.kIn_of Y) ?F
  case F =>
    intro w mg fa h KX GG hmg
    refine' G.all_mk KX GG hmg ?hz_ValueError ?hz_all ?hz_bool ?hz_enumerate ?hz_int ?hz_isinstance ?hz_len ?hz_list ?hz_max ?hz_min ?hz_range ?hz_str ?hz_tuple ?hz_zip ?hg_LETTERS ?hg_MOST_LEAF ?hg_MOST_NAMES ?hg_MOST_RULES ?hg_PARTS ?hh_PARTS ?ht_PARTS_0 ?ht_PARTS_1 ?ht_PARTS_2 ?ht_PARTS_3 ?ht_PARTS_4 ?ht_PARTS_5 ?hw_PARTS ?hm_Grammar ?hm_StackGrammar ?pg_StackGrammar ?hd_StackGrammar ?po_StackGrammar ?sa_StackGrammar ?mk_StackGrammar ?kp_StackGrammar ?na_StackGrammar_signs ?na_StackGrammar_names ?na_StackGrammar_rules ?hm_bad_letter ?hl_bad_letter ?hc_bad_letter ?hk_bad_letter ?hm_is_leaf_text ?hl_is_leaf_text ?hc_is_leaf_text ?hk_is_leaf_text ?hm_is_name ?hl_is_name ?hc_is_name ?hk_is_name ?hm_is_part ?hl_is_part ?hc_is_part ?hk_is_part ?hm_is_stack_rule ?hl_is_stack_rule ?hc_is_stack_rule ?hk_is_stack_rule ?hm_StackGrammar_init ?fn_StackGrammar_init ?hl_StackGrammar_init ?hc_StackGrammar_init ?hk_StackGrammar_init ?hcell_StackGrammar_init ?hcode_StackGrammar_init ?hvs_StackGrammar_init ?hfile_StackGrammar_init ?hci_StackGrammar_init ?hmr_StackGrammar_init ?hup_StackGrammar_init ?htg_StackGrammar_init ?hfg_StackGrammar_init ?hm_Grammar_init_StackGrammar ?fn_Grammar_init_StackGrammar ?hl_Grammar_init_StackGrammar ?hc_Grammar_init_StackGrammar ?hk_Grammar_init_StackGrammar ?hm__law_row ?hl__law_row ?hc__law_row ?hk__law_row ?hm__law_text ?hl__law_text ?hc__law_text ?hk__law_text ?hm__law_rule ?hl__law_rule ?hc__law_rule ?hk__law_rule ?hm__law_rules ?hl__law_rules ?hc__law_rules ?hk__law_rules ?hm__law_same ?hl__law_same ?hc__law_same ?hk__law_same ?hm__law_good_rule ?hl__law_good_rule ?hc__law_good_rule ?hk__law_good_rule ?hm__law_due_answer ?hl__law_due_answer ?hc__law_due_answer ?hk__law_due_answer ?hm__law_told ?hl__law_told ?hc__law_told ?hk__law_told ?hm__law_odd_parts ?hl__law_odd_parts ?hc__law_odd_parts ?hk__law_odd_parts ?hm__law_bent ?hl__law_bent ?hc__law_bent ?hk__law_bent ?hm__law_edges ?hl__law_edges ?hc__law_edges ?hk__law_edges ?hm__law_limits ?hl__law_limits ?hc__law_limits ?hk__law_limits ?hm_law ?hl_law ?hc_law ?hk_law ?hm_Fault ?hm_TooMany ?hm_BadRule ?hm_BadLine ?h_any ?h_sup ?h_top ?xl_BadRule ?sa_BadRule ?nf_BadRule ?ic_BadRule ?ti_BadRule ?kc_BadRule ?xc_BadRule ?ve_BadRule ?ty_BadRule ?up_BadRule ?mr_BadRule ?hf_BadRule ?hq_BadRule ?hcell_BadRule ?hcode_BadRule ?hvs_BadRule ?hfile_BadRule ?hev_BadRule ?xl_TooMany ?sa_TooMany ?nf_TooMany ?ic_TooMany ?ti_TooMany ?kc_TooMany ?xc_TooMany ?ve_TooMany ?ty_TooMany ?up_TooMany ?mr_TooMany ?hf_TooMany ?hq_TooMany ?hcell_TooMany ?hcode_TooMany ?hvs_TooMany ?hfile_TooMany ?hev_TooMany ?te_Fault ?td_Fault ?tt_Fault ?ts_Fault_BadRule ?ts_Fault_TooMany ?ki_BadLine_BadRule ?ki_BadLine_TooMany ?ki_BadRule_BadRule ?ki_BadRule_TooMany ?ki_TooMany_BadRule ?ki_TooMany_TooMany ?ki_ValueError_BadRule ?ki_ValueError_TooMany ?ya_StackGrammar ?yo_StackGrammar ?yk_Grammar_StackGrammar ?cr_StackGrammar ?cg_StackGrammar ?cv_StackGrammar_KIND ?cc_StackGrammar_KIND ?cs_StackGrammar_KIND ?xg_BadRule ?xk_BadRule ?xd_BadRule ?xa_BadRule ?xo_BadRule ?xg_TooMany ?xk_TooMany ?xd_TooMany ?xa_TooMany ?xo_TooMany ?h_get ?h_tak
    (case hz_ValueError => k_is)
    (case hz_all => k_is)
    (case hz_bool => k_is)
    (case hz_enumerate => k_is)
    (case hz_int => k_is)
    (case hz_isinstance => k_is)
    (case hz_len => k_is)
    (case hz_list => k_is)
    (case hz_max => k_is)
    (case hz_min => k_is)
    (case hz_range => k_is)
    (case hz_str => k_is)
    (case hz_tuple => k_is)
    (case hz_zip => k_is)
    (case hg_LETTERS => k_is)
    (case hg_MOST_LEAF => k_is)
    (case hg_MOST_NAMES => k_is)
    (case hg_MOST_RULES => k_is)
    (case hg_PARTS => k_is)
    (case hh_PARTS => k_is)
    (case ht_PARTS_0 => k_is)
    (case ht_PARTS_1 => k_is)
    (case ht_PARTS_2 => k_is)
    (case ht_PARTS_3 => k_is)
    (case ht_PARTS_4 => k_is)
    (case ht_PARTS_5 => k_is)
    (case hw_PARTS => first | rfl | decide +kernel)
    (case hm_Grammar => k_is)
    (case hm_StackGrammar => k_is)
    (case pg_StackGrammar => k_is)
    (case hd_StackGrammar => k_is)
    (case po_StackGrammar => k_is)
    (case sa_StackGrammar => k_is)
    (case mk_StackGrammar => k_is)
    (case kp_StackGrammar => k_is)
    (case na_StackGrammar_signs => k_is)
    (case na_StackGrammar_names => k_is)
    (case na_StackGrammar_rules => k_is)
    (case hm_bad_letter => k_is)
    (case hl_bad_letter => k_is)
    (case hc_bad_letter => k_is)
    (case hk_bad_letter => k_is)
    (case hm_is_leaf_text => k_is)
    (case hl_is_leaf_text => k_is)
    (case hc_is_leaf_text => k_is)
    (case hk_is_leaf_text => k_is)
    (case hm_is_name => k_is)
    (case hl_is_name => k_is)
    (case hc_is_name => k_is)
    (case hk_is_name => k_is)
    (case hm_is_part => k_is)
    (case hl_is_part => k_is)
    (case hc_is_part => k_is)
    (case hk_is_part => k_is)
    (case hm_is_stack_rule => k_is)
    (case hl_is_stack_rule => k_is)
    (case hc_is_stack_rule => k_is)
    (case hk_is_stack_rule => k_is)
    (case hm_StackGrammar_init => k_is)
    (case fn_StackGrammar_init => k_is)
    (case hl_StackGrammar_init => k_is)
    (case hc_StackGrammar_init => k_is)
    (case hk_StackGrammar_init => k_is)
    (case hcell_StackGrammar_init => k_is)
    (case hcode_StackGrammar_init => k_is)
    (case hvs_StackGrammar_init => rfl)
    (case hfile_StackGrammar_init => first | rfl | decide +kernel)
    (case hci_StackGrammar_init => k_is)
    (case hmr_StackGrammar_init => k_is)
    (case hup_StackGrammar_init => ks_is)
    (case htg_StackGrammar_init => k_is)
    (case hfg_StackGrammar_init => k_is)
    (case hm_Grammar_init_StackGrammar => k_is)
    (case fn_Grammar_init_StackGrammar => k_is)
    (case hl_Grammar_init_StackGrammar => k_is)
    (case hc_Grammar_init_StackGrammar => k_is)
    (case hk_Grammar_init_StackGrammar => k_is)
    (case hm__law_row => k_is)
    (case hl__law_row => k_is)
    (case hc__law_row => k_is)
    (case hk__law_row => k_is)
    (case hm__law_text => k_is)
    (case hl__law_text => k_is)
    (case hc__law_text => k_is)
    (case hk__law_text => k_is)
    (case hm__law_rule => k_is)
    (case hl__law_rule => k_is)
    (case hc__law_rule => k_is)
    (case hk__law_rule => k_is)
    (case hm__law_rules => k_is)
    (case hl__law_rules => k_is)
    (case hc__law_rules => k_is)
    (case hk__law_rules => k_is)
    (case hm__law_same => k_is)
    (case hl__law_same => k_is)
    (case hc__law_same => k_is)
    (case hk__law_same => k_is)
    (case hm__law_good_rule => k_is)
    (case hl__law_good_rule => k_is)
    (case hc__law_good_rule => k_is)
    (case hk__law_good_rule => k_is)
    (case hm__law_due_answer => k_is)
    (case hl__law_due_answer => k_is)
    (case hc__law_due_answer => k_is)
    (case hk__law_due_answer => k_is)
    (case hm__law_told => k_is)
    (case hl__law_told => k_is)
    (case hc__law_told => k_is)
    (case hk__law_told => k_is)
    (case hm__law_odd_parts => k_is)
    (case hl__law_odd_parts => k_is)
    (case hc__law_odd_parts => k_is)
    (case hk__law_odd_parts => k_is)
    (case hm__law_bent => k_is)
    (case hl__law_bent => k_is)
    (case hc__law_bent => k_is)
    (case hk__law_bent => k_is)
    (case hm__law_edges => k_is)
    (case hl__law_edges => k_is)
    (case hc__law_edges => k_is)
    (case hk__law_edges => k_is)
    (case hm__law_limits => k_is)
    (case hl__law_limits => k_is)
    (case hc__law_limits => k_is)
    (case hk__law_limits => k_is)
    (case hm_law => k_is)
    (case hl_law => k_is)
    (case hc_law => k_is)
    (case hk_law => k_is)
    (case hm_Fault => k_is)
    (case hm_TooMany => k_is)
    (case hm_BadRule => k_is)
    (case hm_BadLine => k_is)
    (case h_any => k_is)
    (case h_sup => k_is)
    (case h_top => first | rfl | decide +kernel)
    (case xl_BadRule => k_is)
    (case sa_BadRule => k_is)
    (case nf_BadRule => k_is)
    (case ic_BadRule => k_is)
    (case ti_BadRule => k_is)
    (case kc_BadRule => k_is)
    (case xc_BadRule => k_is)
    (case ve_BadRule => k_is)
    (case ty_BadRule => k_is)
    (case up_BadRule => ks_is)
    (case mr_BadRule => k_is)
    (case hf_BadRule => k_is)
    (case hq_BadRule => k_is)
    (case hcell_BadRule => k_is)
    (case hcode_BadRule => k_is)
    (case hvs_BadRule => rfl)
    (case hfile_BadRule => first | rfl | decide +kernel)
    (case hev_BadRule => exact fun env => ⟨_, rfl⟩)
    (case xl_TooMany => k_is)
    (case sa_TooMany => k_is)
    (case nf_TooMany => k_is)
    (case ic_TooMany => k_is)
    (case ti_TooMany => k_is)
    (case kc_TooMany => k_is)
    (case xc_TooMany => k_is)
    (case ve_TooMany => k_is)
    (case ty_TooMany => k_is)
    (case up_TooMany => ks_is)
    (case mr_TooMany => k_is)
    (case hf_TooMany => k_is)
    (case hq_TooMany => k_is)
    (case hcell_TooMany => k_is)
    (case hcode_TooMany => k_is)
    (case hvs_TooMany => rfl)
    (case hfile_TooMany => first | rfl | decide +kernel)
    (case hev_TooMany => exact fun env => ⟨_, rfl⟩)
    (case te_Fault => k_is)
    (case td_Fault => k_is)
    (case tt_Fault => k_is)
    (case ts_Fault_BadRule => k_is)
    (case ts_Fault_TooMany => k_is)
    (case ki_BadLine_BadRule => kit_is)
    (case ki_BadLine_TooMany => kit_is)
    (case ki_BadRule_BadRule => kit_is)
    (case ki_BadRule_TooMany => kit_is)
    (case ki_TooMany_BadRule => kit_is)
    (case ki_TooMany_TooMany => kit_is)
    (case ki_ValueError_BadRule => kit_is)
    (case ki_ValueError_TooMany => kit_is)
    (case ya_StackGrammar => k_is)
    (case yo_StackGrammar => k_is)
    (case yk_Grammar_StackGrammar => kit_is)
    (case cr_StackGrammar => k_is)
    (case cg_StackGrammar => k_is)
    (case cv_StackGrammar_KIND => k_is)
    (case cc_StackGrammar_KIND => k_is)
    (case cs_StackGrammar_KIND => k_is)
    (case xg_BadRule => k_is)
    (case xk_BadRule => k_is)
    (case xd_BadRule => k_is)
    (case xa_BadRule => k_is)
    (case xo_BadRule => k_is)
    (case xg_TooMany => k_is)
    (case xk_TooMany => k_is)
    (case xd_TooMany => k_is)
    (case xa_TooMany => k_is)
    (case xo_TooMany => k_is)
    (case h_get => k_is)
    (case h_tak => k_is)
#print axioms PySem.Challenge.cw_adjoinedtongues_k19_stack_rules_refused_holds
