import PyProof.Rows.All
import Wide.All
import OpenK.AllK
import Wide.FinOn
import HandS.ForMost
import HandS.IsInst
import HandS.Flow
import HandS.TupAny
import HandS.Codes
import HandS.Style
import HandS.TupMul
import PyProof.MaxThree
import PyProof.ReprRoads
import PyProof.ReprLen
import PyProof.StrLawsRepr
import PyProof.FitsInt
import PySem.Challenge.RW_betweenanytwosteps_k61_rings_count_first
set_option Elab.async false
set_option linter.all false
set_option maxRecDepth 100000
set_option maxHeartbeats 4000000
/-! The Z layer: pure data in place of heaps. -/
namespace Zl
open PySem PySem.Spec PyProof.Rows L2

/-- a class of the text: where it stands, its fields in the order in which __init__ stores them -/
structure Cd where
  C : Addr
  ns : List Str

/-- data that nobody changes any more -/
inductive D where
  | non | bl (b : Bool) | int (i : Int) | str (s : Str)
  | tup (ds : List D) | lst (ds : List D)
  /-- a list that can be read alone: the script, a list of the module -/
  | rol (ds : List D)
  | ins (c : Cd) (ds : List D)
  /-- a built-in type, a class of the text, as a value -/
  | ty (n : String) | cls (C : Addr)

mutual
inductive IsD (K : PySem.W.Frag) (F : Hp) : V → D → Prop
  | non : IsD K F .non .non
  | bl (b : Bool) : IsD K F (.bl b) (.bl b)
  | int (i : Int) : IsD K F (.int i) (.int i)
  | str (s : Str) : IsD K F (.str s) (.str s)
  | ty (n : String) : IsD K F (.ty n) (.ty n)
  | cls (C : Addr) : IsD K F (.ref C) (.cls C)
  | tup {a : Addr} {vs : List V} {ds : List D} : SqT K F a vs → IsDs K F vs ds → IsD K F (.ref a) (.tup ds)
  | lst {a : Addr} {vs : List V} {ds : List D} : F a = some (.lst vs) → IsDs K F vs ds → IsD K F (.ref a) (.lst ds)
  | rol {a : Addr} {vs : List V} {ds : List D} : SqL K F a vs → IsDs K F vs ds → IsD K F (.ref a) (.rol ds)
  | ins {a dx : Addr} {c : Cd} {vs : List V} {ds : List D} : F a = some (.ins c.C dx (c.ns.zip vs)) → vs.length ≤ c.ns.length → IsDs K F vs ds → IsD K F (.ref a) (.ins c ds)
inductive IsDs (K : PySem.W.Frag) (F : Hp) : List V → List D → Prop
  | nil : IsDs K F [] []
  | cons {v : V} {vs : List V} {d : D} {ds : List D} : IsD K F v d → IsDs K F vs ds → IsDs K F (v :: vs) (d :: ds)
end

theorem Same.sqT {K : PySem.W.Frag} {H H' : Hp} {a : Addr} {xs : List V} (e : Same H H') (h : SqT K H a xs) : SqT K H' a xs := by
  rcases h with (h | ⟨o, h⟩) | h
  · exact .inl (.inl (e _ _ h))
  · exact .inl (.inr ⟨o, e _ _ h⟩)
  · exact .inr h

section
variable {K : PySem.W.Frag} {F F' : Hp}
mutual
theorem IsD.mono (s : Same F F') : ∀ {v : V} {d : D}, IsD K F v d → IsD K F' v d
  | _, _, .non => .non
  | _, _, .bl b => .bl b
  | _, _, .int i => .int i
  | _, _, .str x => .str x
  | _, _, .ty n => .ty n
  | _, _, .cls C => .cls C
  | _, _, .tup h r => .tup (Same.sqT s h) (IsDs.mono s r)
  | _, _, .lst h r => .lst (s _ _ h) (IsDs.mono s r)
  | _, _, .rol h r => .rol (s.seq h) (IsDs.mono s r)
  | _, _, .ins h l r => .ins (s _ _ h) l (IsDs.mono s r)
theorem IsDs.mono (s : Same F F') : ∀ {vs : List V} {ds : List D}, IsDs K F vs ds → IsDs K F' vs ds
  | _, _, .nil => .nil
  | _, _, .cons h r => .cons (IsD.mono s h) (IsDs.mono s r)
end
theorem IsDs.length : ∀ {vs : List V} {ds : List D}, IsDs K F vs ds → vs.length = ds.length
  | _, _, .nil => rfl
  | _, _, .cons _ r => by rw [List.length_cons, List.length_cons, IsDs.length r]
theorem IsDs.get : ∀ {vs : List V} {ds : List D} {i : Nat} {d : D}, IsDs K F vs ds → ds[i]? = some d → ∃ v, vs[i]? = some v ∧ IsD K F v d
  | _, _, _, _, .nil, e => by simp at e
  | _, _, 0, _, .cons h _, e => by simp at e; subst e; exact ⟨_, rfl, h⟩
  | _, _, i + 1, d, .cons _ r, e => by
    obtain ⟨v, h1, h2⟩ := IsDs.get (i := i) (d := d) r (by simpa using e)
    exact ⟨v, by simpa using h1, h2⟩
theorem IsDs.getV : ∀ {vs : List V} {ds : List D} {i : Nat} {v : V}, IsDs K F vs ds → vs[i]? = some v → ∃ d, ds[i]? = some d ∧ IsD K F v d
  | _, _, _, _, .nil, e => by simp at e
  | _, _, 0, _, .cons h _, e => by simp at e; subst e; exact ⟨_, rfl, h⟩
  | _, _, i + 1, d, .cons _ r, e => by
    obtain ⟨v, h1, h2⟩ := IsDs.getV (i := i) r (by simpa using e)
    exact ⟨v, by simpa using h1, h2⟩
theorem IsDs.append : ∀ {vs ws : List V} {ds es : List D}, IsDs K F vs ds → IsDs K F ws es → IsDs K F (vs ++ ws) (ds ++ es)
  | _, _, _, _, .nil, r => r
  | _, _, _, _, .cons h t, r => .cons h (IsDs.append t r)
theorem IsDs.take : ∀ {vs : List V} {ds : List D} (n : Nat), IsDs K F vs ds → IsDs K F (vs.take n) (ds.take n)
  | _, _, 0, _ => .nil
  | _, _, _ + 1, .nil => .nil
  | _, _, n + 1, .cons h r => .cons h (IsDs.take n r)
theorem IsDs.drop : ∀ {vs : List V} {ds : List D} (n : Nat), IsDs K F vs ds → IsDs K F (vs.drop n) (ds.drop n)
  | _, _, 0, r => r
  | _, _, _ + 1, .nil => .nil
  | _, _, n + 1, .cons _ r => IsDs.drop n r
theorem IsDs.set : ∀ {vs : List V} {ds : List D} (n : Nat) {v : V} {d : D}, IsDs K F vs ds → IsD K F v d → IsDs K F (vs.set n v) (ds.set n d)
  | _, _, _, _, _, .nil, _ => .nil
  | _, _, 0, _, _, .cons _ r, q => .cons q r
  | _, _, n + 1, _, _, .cons h r, q => .cons h (IsDs.set n r q)
theorem IsDs.dropLast : ∀ {vs : List V} {ds : List D}, IsDs K F vs ds → IsDs K F vs.dropLast ds.dropLast
  | _, _, .nil => .nil
  | _, _, .cons h .nil => .nil
  | _, _, .cons h (.cons h2 r) => by
    show IsDs K F (_ :: List.dropLast (_ :: _)) (_ :: List.dropLast (_ :: _))
    exact .cons h (IsDs.dropLast (.cons h2 r))
theorem IsDs.replicate {v : V} {d : D} (h : IsD K F v d) : ∀ n : Nat, IsDs K F (List.replicate n v) (List.replicate n d)
  | 0 => .nil
  | n + 1 => .cons h (IsDs.replicate h n)
theorem IsDs.reverse : ∀ {vs : List V} {ds : List D}, IsDs K F vs ds → IsDs K F vs.reverse ds.reverse
  | _, _, .nil => .nil
  | _, _, .cons h r => by
    rw [List.reverse_cons, List.reverse_cons]
    exact (IsDs.reverse r).append (.cons h .nil)
theorem IsDs.eraseIdx : ∀ {vs : List V} {ds : List D} (n : Nat), IsDs K F vs ds → IsDs K F (vs.eraseIdx n) (ds.eraseIdx n)
  | _, _, _, .nil => .nil
  | _, _, 0, .cons _ r => r
  | _, _, n + 1, .cons h r => .cons h (IsDs.eraseIdx n r)
theorem IsDs.ints : ∀ {vs : List V} {ns : List Int}, IsDs K F vs (ns.map D.int) → vs = ns.map V.int
  | _, [], .nil => rfl
  | _, n :: ns, .cons (.int _) r => by rw [List.map_cons, IsDs.ints r]
theorem IsDs.of_ints : ∀ (ns : List Int), IsDs K F (ns.map V.int) (ns.map D.int)
  | [] => .nil
  | n :: ns => .cons (.int n) (IsDs.of_ints ns)
end

/-- what a name holds: data, or an object of one's own (nobody else sees it) -/
inductive T where
  | fz (d : D)
  | lst (ds : List D)
  | ins (c : Cd) (ts : List T)

mutual
def T.fr : T → D
  | .fz d => d
  | .lst ds => .lst ds
  | .ins c ts => .ins c (T.frs ts)
def T.frs : List T → List D
  | [] => []
  | t :: ts => t.fr :: T.frs ts
end

abbrev Rg := Addr → Prop
abbrev Rg0 : Rg := fun _ => False

mutual
inductive IsT (K : PySem.W.Frag) (F H : Hp) : Rg → V → T → Prop
  | fz {R : Rg} {v : V} {d : D} : IsD K F v d → IsT K F H R v (.fz d)
  | lst {R : Rg} {a : Addr} {vs : List V} {ds : List D} : R a → H a = some (.lst vs) → IsDs K F vs ds → IsT K F H R (.ref a) (.lst ds)
  | ins {R R' : Rg} {a dx : Addr} {c : Cd} {vs : List V} {ts : List T} : R a → H a = some (.ins c.C dx (c.ns.zip vs)) → vs.length ≤ c.ns.length → ¬ R' a → (∀ b, R' b → R b) → IsTs K F H R' vs ts → IsT K F H R (.ref a) (.ins c ts)
inductive IsTs (K : PySem.W.Frag) (F H : Hp) : Rg → List V → List T → Prop
  | nil {R : Rg} : IsTs K F H R [] []
  | cons {R R1 R2 : Rg} {v : V} {vs : List V} {t : T} {ts : List T} : (∀ b, R1 b → R b) → (∀ b, R2 b → R b) → (∀ b, R1 b → R2 b → False) → IsT K F H R1 v t → IsTs K F H R2 vs ts → IsTs K F H R (v :: vs) (t :: ts)
end

section
variable {K : PySem.W.Frag} {F F' H H' : Hp}
mutual
theorem IsT.mono (s : Same F F') : ∀ {R R' : Rg} {v : V} {t : T}, (∀ a o, R a → H a = some o → H' a = some o) → (∀ a, R a → R' a) → IsT K F H R v t → IsT K F' H' R' v t
  | _, _, _, _, _, _, .fz h => .fz (h.mono s)
  | _, _, _, _, k, i, .lst r h q => .lst (i _ r) (k _ _ r h) (q.mono s)
  | _, _, _, _, k, i, .ins r h l n j q => .ins (i _ r) (k _ _ r h) l n (fun b z => i b (j b z)) (IsTs.mono s (fun a o z => k a o (j a z)) (fun _ z => z) q)
theorem IsTs.mono (s : Same F F') : ∀ {R R' : Rg} {vs : List V} {ts : List T}, (∀ a o, R a → H a = some o → H' a = some o) → (∀ a, R a → R' a) → IsTs K F H R vs ts → IsTs K F' H' R' vs ts
  | _, _, _, _, _, _, .nil => .nil
  | _, _, _, _, k, i, .cons j1 j2 d h r => .cons (fun b z => i b (j1 b z)) (fun b z => i b (j2 b z)) d (IsT.mono s (fun a o z => k a o (j1 a z)) (fun _ z => z) h) (IsTs.mono s (fun a o z => k a o (j2 a z)) (fun _ z => z) r)
end
mutual
/-- an object of one's own that is not changed any more -/
theorem IsT.freeze : ∀ {R : Rg} {v : V} {t : T}, Same F F' → (∀ a, R a → F' a = H a) → IsT K F H R v t → IsD K F' v t.fr
  | _, _, _, s, _, .fz h => h.mono s
  | _, _, _, s, k, .lst r h q => .lst ((k _ r).trans h) (q.mono s)
  | _, _, _, s, k, .ins r h l n j q => .ins ((k _ r).trans h) l (IsTs.freeze s (fun a z => k a (j a z)) q)
theorem IsTs.freeze : ∀ {R : Rg} {vs : List V} {ts : List T}, Same F F' → (∀ a, R a → F' a = H a) → IsTs K F H R vs ts → IsDs K F' vs (T.frs ts)
  | _, _, _, _, _, .nil => .nil
  | _, _, _, s, k, .cons j1 j2 d h r => .cons (IsT.freeze s (fun a z => k a (j1 a z)) h) (IsTs.freeze s (fun a z => k a (j2 a z)) r)
end
end

/-- what may have happened: F: what is read only, H: all, R: the own region -/
structure Step (F H : Hp) (R : Rg) (F' H' : Hp) (R' : Rg) : Prop where
  le : Same F F'
  keep : ∀ a o, H a = some o → ¬ R a → H' a = some o
  fresh : ∀ a, R' a → R a ∨ H a = none
  newF : ∀ a, F' a ≠ none → F a ≠ none ∨ R a ∨ H a = none
section
variable {F H F1 H1 F2 H2 : Hp} {R R1 R2 R' : Rg}
theorem Step.refl : Step F H R F H R := ⟨fun _ _ h => h, fun _ _ h _ => h, fun _ h => .inl h, fun _ h => .inl h⟩
theorem Step.gone (s : Step F H R F1 H1 R1) {a : Addr} (h : H1 a = none) : R a ∨ H a = none := by
  cases q : H a with
  | none => exact .inr rfl
  | some o =>
    by_cases r : R a
    · exact .inl r
    · rw [s.keep a o q r] at h; cases h
theorem Step.trans (s : Step F H R F1 H1 R1) (t : Step F1 H1 R1 F2 H2 R2) : Step F H R F2 H2 R2 where
  le := fun a o h => t.le a o (s.le a o h)
  keep := fun a o h n => t.keep a o (s.keep a o h n) fun r => by
    rcases s.fresh a r with q | q
    · exact n q
    · rw [h] at q; cases q
  fresh := fun a h => by
    rcases t.fresh a h with r | r
    · exact s.fresh a r
    · exact s.gone r
  newF := fun a h => by
    rcases t.newF a h with r | r | r
    · exact s.newF a r
    · exact .inr (s.fresh a r)
    · exact .inr (s.gone r)
theorem Step.less (s : Step F H R F1 H1 R1) (h : ∀ a, R2 a → R1 a) : Step F H R F1 H1 R2 := ⟨s.le, s.keep, fun a r => s.fresh a (h a r), s.newF⟩
theorem Step.more (s : Step F H R F1 H1 R1) (h : ∀ a, R a → R2 a) : Step F H R2 F1 H1 R1 :=
  ⟨s.le, fun a o q n => s.keep a o q fun r => n (h a r), fun a r => (s.fresh a r).imp (h a) id, fun a q => (s.newF a q).imp id (.imp (h a) id)⟩
end

abbrev Ev := List (Option T)
def U (B : Nat → Rg) : Rg := fun a => ∃ i, B i a
/-- two regions together -/
def Ru (R S : Rg) : Rg := fun a => R a ∨ S a

/-- the frame's names hold the data env; pv: the arguments that stay in their slots -/
structure Rel (K : PySem.W.Frag) (pv : List (Option V)) (F H : Hp) (σ : L2.St) (env : Ev) (B : Nat → Rg) : Prop where
  sub : Same F H
  len : σ.length = env.length
  at_ : ∀ (i : Nat) (t : T), env[i]? = some (some t) → ∃ v, σ[i]? = some (some v) ∧ IsT K F H (B i) v t
  dis : ∀ i j a, B i a → B j a → i = j
  off : ∀ i a, B i a → F a = none
  live : ∀ i a, B i a → H a ≠ none
  fix : ∀ (i : Nat) (v : V), pv[i]? = some (some v) → σ[i]? = some (some v)

/-- a value of its own beside the frame's -/
structure OwnV (K : PySem.W.Frag) (F H : Hp) (B : Nat → Rg) (R : Rg) (v : V) (t : T) : Prop where
  is : IsT K F H R v t
  dis : ∀ i a, R a → B i a → False
  off : ∀ a, R a → F a = none
  live : ∀ a, R a → H a ≠ none

/-- new objects alone -/
structure Alloc (F H F' H' : Hp) (R : Rg) : Prop where
  le : Same F F'
  kp : Same H H'
  sub : Same F' H'
  newF : ∀ a, F' a ≠ none → F a ≠ none ∨ H a = none
  new : ∀ a, R a → H a = none
  off : ∀ a, R a → F' a = none
  live : ∀ a, R a → H' a ≠ none

section
variable {K : PySem.W.Frag} {pv : List (Option V)} {F H F' H' : Hp} {σ : L2.St} {env : Ev} {B B' : Nat → Rg} {R R' : Rg} {v : V} {t : T} {d : D}
theorem Alloc.refl (s : Same F H) : Alloc F H F H Rg0 := ⟨fun _ _ h => h, fun _ _ h => h, s, fun _ h => .inl h, fun _ h => h.elim, fun _ h => h.elim, fun _ h => h.elim⟩
theorem Rel.none_of (r : Rel K pv F H σ env B) {a : Addr} (h : H a = none) : F a = none := by
  cases q : F a with
  | none => rfl
  | some o => rw [r.sub a o q] at h; cases h
theorem Rel.alloc (r : Rel K pv F H σ env B) (a : Alloc F H F' H' R) : Rel K pv F' H' σ env B ∧ Step F H (U B) F' H' (Ru (U B) R) ∧ (∀ i b, R b → B i b → False) := by
  refine ⟨⟨a.sub, r.len, fun i t e => ?_, r.dis, fun i b hb => ?_, fun i b hb => ?_, r.fix⟩, ⟨a.le, fun b o h _ => a.kp b o h, fun b h => h.imp id (a.new b), fun b h => (a.newF b h).imp id .inr⟩, fun i b h1 h2 => r.live i b h2 (a.new b h1)⟩
  · obtain ⟨v, e1, e2⟩ := r.at_ i t e
    exact ⟨v, e1, e2.mono a.le (fun b o _ h => a.kp b o h) fun _ z => z⟩
  · cases q : F' b with
    | none => rfl
    | some o =>
      rcases a.newF b (by rw [q]; simp) with z | z
      · exact absurd (r.off i b hb) z
      · exact absurd z (r.live i b hb)
  · cases q : H b with
    | none => exact absurd q (r.live i b hb)
    | some o => rw [a.kp b o q]; simp
/-- a new value beside the frame -/
theorem Rel.own (r : Rel K pv F H σ env B) (a : Alloc F H F' H' R) (h : IsT K F' H' R v t) : OwnV K F' H' B R v t :=
  ⟨h, (r.alloc a).2.2, a.off, a.live⟩
/-- frozen data beside the frame -/
theorem OwnV.fz (h : IsD K F v d) : OwnV K F H B Rg0 v (.fz d) := ⟨.fz h, fun _ _ z => z.elim, fun _ z => z.elim, fun _ z => z.elim⟩
/-- freeze a value beside the frame -/
theorem Rel.freezeV (r : Rel K pv F H σ env B) (o : OwnV K F H B R v t) : ∃ F', Rel K pv F' H σ env B ∧ Step F H (Ru (U B) R) F' H (U B) ∧ IsD K F' v t.fr := by
  classical
  have hl : Same F (fun a => if R a then H a else F a) := fun a x h => by
    have n : ¬ R a := fun z => by rw [o.off a z] at h; cases h
    show (if R a then H a else F a) = some x
    rw [if_neg n]; exact h
  refine ⟨fun a => if R a then H a else F a, ⟨fun a x h => ?_, r.len, fun i t e => ?_, r.dis, fun i a hb => ?_, r.live, r.fix⟩, ⟨hl, fun a x h _ => h, fun a h => .inl (.inl h), fun a h => ?_⟩, ?_⟩
  · replace h : (if R a then H a else F a) = some x := h
    by_cases z : R a
    · rw [if_pos z] at h; exact h
    · rw [if_neg z] at h; exact r.sub a x h
  · obtain ⟨v, e1, e2⟩ := r.at_ i t e
    exact ⟨v, e1, e2.mono hl (fun b o _ h => h) fun _ z => z⟩
  · show (if R a then H a else F a) = none
    rw [if_neg fun z => o.dis i a z hb]
    exact r.off i a hb
  · by_cases z : R a
    · exact .inr (.inl (.inr z))
    · refine .inl ?_
      have h2 : (if R a then H a else F a) ≠ none := h
      rwa [if_neg z] at h2
  · exact o.is.freeze hl fun a z => by
      show (if R a then H a else F a) = H a
      rw [if_pos z]
end
end Zl

namespace Zl
open PySem PySem.Spec PyProof.Rows L2

/-! ### names -/
def gt : Ev → Nat → Option T
  | [], _ => none
  | o :: _, 0 => o
  | _ :: r, n + 1 => gt r n
def st : Ev → Nat → T → Ev
  | [], _, _ => []
  | _ :: r, 0, t => some t :: r
  | o :: r, n + 1, t => o :: st r n t
def cl : Ev → Nat → Ev
  | [], _ => []
  | _ :: r, 0 => none :: r
  | o :: r, n + 1 => o :: cl r n
theorem gt_some : ∀ {env : Ev} {i : Nat} {t : T}, gt env i = some t → env[i]? = some (some t)
  | _ :: _, 0, _, h => by simpa [gt] using h
  | _ :: r, n + 1, _, h => by simpa using gt_some (env := r) (i := n) h
theorem st_eq : ∀ (env : Ev) (i : Nat) (t : T), st env i t = env.set i (some t)
  | [], _, _ => rfl
  | _ :: _, 0, _ => rfl
  | o :: r, n + 1, t => by show o :: st r n t = _; rw [st_eq r n t]; rfl
theorem cl_eq : ∀ (env : Ev) (i : Nat), cl env i = env.set i none
  | [], _ => rfl
  | _ :: _, 0 => rfl
  | o :: r, n + 1 => by show o :: cl r n = _; rw [cl_eq r n]; rfl

/-! ### arguments: data, or the name where it lies -/
abbrev It2 := D ⊕ Nat
inductive ItemOk (K : PySem.W.Frag) (F : Hp) (σ : L2.St) : V → It2 → Prop
  | d {v : V} {d : D} : IsD K F v d → ItemOk K F σ v (.inl d)
  | s {v : V} {j : Nat} : σ[j]? = some (some v) → ItemOk K F σ v (.inr j)
inductive ItemsOk (K : PySem.W.Frag) (F : Hp) (σ : L2.St) : List V → List It2 → Prop
  | nil : ItemsOk K F σ [] []
  | cons {v : V} {vs : List V} {a : It2} {as : List It2} : ItemOk K F σ v a → ItemsOk K F σ vs as → ItemsOk K F σ (v :: vs) (a :: as)
theorem ItemOk.mono {K : PySem.W.Frag} {F F' : Hp} {σ : L2.St} {v : V} {a : It2} (s : Same F F') : ItemOk K F σ v a → ItemOk K F' σ v a
  | .d h => .d (h.mono s)
  | .s h => .s h
theorem ItemsOk.mono {K : PySem.W.Frag} {F F' : Hp} {σ : L2.St} (s : Same F F') : ∀ {vs : List V} {as : List It2}, ItemsOk K F σ vs as → ItemsOk K F' σ vs as
  | _, _, .nil => .nil
  | _, _, .cons h r => .cons (h.mono s) (r.mono s)
/-- the data that an item is now -/
def rs (env : Ev) : It2 → Option D
  | .inl d => some d
  | .inr j => match gt env j with
    | some t => some t.fr
    | none => none
def rss (env : Ev) : List It2 → Option (List D)
  | [] => some []
  | a :: as => match rs env a with
    | some d => match rss env as with
      | some ds => some (d :: ds)
      | none => none
    | none => none
/-- data as it stands now -/
inductive Pk (K : PySem.W.Frag) (F H : Hp) : V → D → Prop
  | d {v : V} {d : D} : IsD K F v d → Pk K F H v d
  | lst {a : Addr} {vs : List V} {ds : List D} : H a = some (.lst vs) → IsDs K F vs ds → Pk K F H (.ref a) (.lst ds)
  | ins {a dx : Addr} {c : Cd} {vs : List V} {ds : List D} : H a = some (.ins c.C dx (c.ns.zip vs)) → vs.length ≤ c.ns.length → Pk K F H (.ref a) (.ins c ds)
inductive Pks (K : PySem.W.Frag) (F H : Hp) : List V → List D → Prop
  | nil : Pks K F H [] []
  | cons {v : V} {vs : List V} {d : D} {ds : List D} : Pk K F H v d → Pks K F H vs ds → Pks K F H (v :: vs) (d :: ds)
section
variable {K : PySem.W.Frag} {pv : List (Option V)} {F H : Hp} {σ : L2.St} {env : Ev} {B : Nat → Rg} {R : Rg} {v : V} {t : T} {d : D}
theorem Pk.of (h : IsT K F H R v t) : Pk K F H v t.fr := by
  cases h with
  | fz h => exact .d h
  | lst _ h q => exact .lst h q
  | ins _ h l _ _ q => exact .ins h l
theorem Rel.pk (r : Rel K pv F H σ env B) {a : It2} (h : ItemOk K F σ v a) (e : rs env a = some d) : Pk K F H v d := by
  cases h with
  | d h => cases e; exact .d h
  | @s j h =>
    have e' : (match gt env j with | some t => some t.fr | none => none) = some d := e
    cases q : gt env j with
    | none => rw [q] at e'; cases e'
    | some t =>
      rw [q] at e'; cases e'
      obtain ⟨u, e1, e2⟩ := r.at_ j t (gt_some q)
      rw [h] at e1; cases e1
      exact .of e2
theorem Rel.pks (r : Rel K pv F H σ env B) : ∀ {vs : List V} {as : List It2} {ds : List D}, ItemsOk K F σ vs as → rss env as = some ds → Pks K F H vs ds
  | _, _, _, .nil, e => by cases e; exact .nil
  | _, _, _, @ItemsOk.cons _ _ _ _ _ a as h hr, e => by
    have e' : (match rs env a with | some d => (match rss env as with | some ds => some (d :: ds) | none => none) | none => none) = some _ := e
    cases q : rs env a with
    | none => rw [q] at e'; cases e'
    | some d =>
      rw [q] at e'
      cases q2 : rss env as with
      | none => simp only [q2] at e'; cases e'
      | some ds => simp only [q2] at e'; cases e'; exact .cons (r.pk h q) (r.pks hr q2)
theorem Pk.int {i : Int} : Pk K F H v (.int i) → v = .int i
  | .d (.int _) => rfl
theorem Pk.bl {i : Bool} : Pk K F H v (.bl i) → v = .bl i
  | .d (.bl _) => rfl
theorem Pk.str {i : Str} : Pk K F H v (.str i) → v = .str i
  | .d (.str _) => rfl
theorem Pk.non : Pk K F H v .non → v = .non
  | .d .non => rfl
theorem Pk.lst1 (s : Same F H) {ds : List D} : Pk K F H v (.lst ds) → ∃ a vs, v = .ref a ∧ H a = some (.lst vs) ∧ IsDs K F vs ds
  | .d (.lst h r) => ⟨_, _, rfl, s _ _ h, r⟩
  | .lst h r => ⟨_, _, rfl, h, r⟩
theorem Pk.rol1 (s : Same F H) {ds : List D} : Pk K F H v (.rol ds) → ∃ a vs, v = .ref a ∧ SqL K H a vs ∧ IsDs K F vs ds
  | .d (.rol h r) => ⟨_, _, rfl, s.seq h, r⟩
theorem Pk.tup1 (s : Same F H) {ds : List D} : Pk K F H v (.tup ds) → ∃ a vs, v = .ref a ∧ SqT K H a vs ∧ IsDs K F vs ds
  | .d (.tup h r) => ⟨_, _, rfl, Same.sqT s h, r⟩
end

/-! ### readings over data -/
abbrev WE := Ev → (T → Ev → Prop) → Prop
abbrev WO := Ev → (It2 → Ev → Prop) → Prop
abbrev WA := Ev → (List It2 → Ev → Prop) → Prop
abbrev WT := Ev → (Bool → Ev → Prop) → Prop
/-- the arguments that stay in their slots are those of the mask -/
def Mask (pm : List Bool) (pv : List (Option V)) : Prop := ∀ (i : Nat), pm[i]? = some true ↔ ∃ v, pv[i]? = some (some v)

def TZ (X : Cx) (pm : List Bool) (w : WE) : TE := fun σ H Q => ∃ pv F B env P, Mask pm pv ∧ Rel X.K pv F H σ env B ∧ w env P ∧
  ∀ t env', P t env' → ∀ F' H' B' R v, Step F H (U B) F' H' (Ru (U B') R) → Rel X.K pv F' H' σ env' B' → OwnV X.K F' H' B' R v t → Q v H'
def TOz (X : Cx) (pm : List Bool) (w : WO) : TE := fun σ H Q => ∃ pv F B env P, Mask pm pv ∧ Rel X.K pv F H σ env B ∧ w env P ∧
  ∀ a env', P a env' → ∀ F' H' B' v, Step F H (U B) F' H' (U B') → Rel X.K pv F' H' σ env' B' → ItemOk X.K F' σ v a → Q v H'
def TAz (X : Cx) (pm : List Bool) (w : WA) : TA := fun σ H Q => ∃ pv F B env P, Mask pm pv ∧ Rel X.K pv F H σ env B ∧ w env P ∧
  ∀ as env', P as env' → ∀ F' H' B' vs, Step F H (U B) F' H' (U B') → Rel X.K pv F' H' σ env' B' → ItemsOk X.K F' σ vs as → Q vs H'
def TTz (X : Cx) (pm : List Bool) (w : WT) : TT := fun σ H Q => ∃ pv F B env P, Mask pm pv ∧ Rel X.K pv F H σ env B ∧ w env P ∧
  ∀ b env', P b env' → ∀ F' H' B', Step F H (U B) F' H' (U B') → Rel X.K pv F' H' σ env' B' → Q b H'
abbrev ZE (X : Cx) (pm : List Bool) (e : Expr) (w : WE) : Prop := PE X e (TZ X pm w)
abbrev ZO (X : Cx) (pm : List Bool) (e : Expr) (w : WO) : Prop := PE X e (TOz X pm w)
abbrev ZA (X : Cx) (pm : List Bool) (es : List Expr) (w : WA) : Prop := PA X es (TAz X pm w)
abbrev ZT (X : Cx) (pm : List Bool) (e : Expr) (w : WT) : Prop := PT X e (TTz X pm w)
section
variable {X : Cx} {e : Expr} {es : List Expr}
theorem pe_imp {t t' : TE} (h : PE X e t) (i : ∀ σ H Q, t' σ H Q → t σ H Q) : PE X e t' := ⟨fun p s σ H Q I q => h.run p s σ H Q I (i _ _ _ q)⟩
theorem pt_imp {t t' : TT} (h : PT X e t) (i : ∀ σ H Q, t' σ H Q → t σ H Q) : PT X e t' := ⟨fun p s σ H Q I q => h.run p s σ H Q I (i _ _ _ q)⟩
theorem pw_imp {t t' : TT} (h : PW X e t) (i : ∀ σ H Q, t' σ H Q → t σ H Q) : PW X e t' := ⟨fun wh p s σ H Q I q => h.run wh p s σ H Q I (i _ _ _ q)⟩
theorem pa_imp {t t' : TA} (h : PA X es t) (i : ∀ σ H Q, t' σ H Q → t σ H Q) : PA X es t' := ⟨fun po p s σ H Q I q => h.run po p s σ H Q I (i _ _ _ q)⟩
end

section
variable {K : PySem.W.Frag} {pv : List (Option V)} {F H F1 H1 : Hp} {σ : L2.St} {env env1 : Ev} {B B1 : Nat → Rg} {R R1 : Rg}
theorem U_l : ∀ a, U B a → Ru (U B) R a := fun _ h => .inl h
theorem Step.l (s : Step F H R F1 H1 (Ru (U B1) R1)) : Step F H R F1 H1 (U B1) := s.less U_l
theorem Step.r0 (s : Step F H R F1 H1 (U B1)) : Step F H R F1 H1 (Ru (U B1) Rg0) := s.less fun _ h => h.elim id False.elim
end

/-! ### operands -/
/-- a value, frozen -/
def oV (w : WE) : WO := fun env P => w env fun t e => P (.inl t.fr) e
/-- a name where it lies -/
def oS (i : Nat) : WO := fun env P => match gt env i with
  | some _ => P (.inr i) env
  | none => False
def aNil : WA := fun env P => P [] env
def aCons (o : WO) (r : WA) : WA := fun env P => o env fun a e1 => r e1 fun as e2 => P (a :: as) e2
section
variable {X : Cx} {pm : List Bool} {e : Expr} {es : List Expr} {w : WE} {o : WO} {wr : WA} {i : Nat} {x : Str} {pos : Pos}
theorem zo_v (h : ZE X pm e w) : ZO X pm e (oV w) := pe_imp h fun σ H Q ⟨pv, F, B, env, P, m, rel, hw, hq⟩ =>
  ⟨pv, F, B, env, fun t e => P (.inl t.fr) e, m, rel, hw, fun t e1 h1 F1 H1 B1 R1 v s1 r1 o1 => by
    obtain ⟨F2, r2, s2, d2⟩ := r1.freezeV o1
    exact hq _ _ h1 F2 H1 B1 v (s1.trans s2) r2 (.d d2)⟩
theorem zo_s (i : Nat) {x : Str} {pos : Pos} (hN : X.N[i]? = some x := by rfl) (hv : Vis X.env.scope x := by first | exact Or.inl rfl | exact Or.inr (Or.inl rfl) | exact Or.inr (Or.inr rfl)) (hd : (x == ("__debug__" : Str)) = false := by decide)
    (hcd : (x == ("__classdict__" : Str)) = false := by decide) : ZO X pm (.Name x pos) (oS i) := pe_imp (pe_var hN hv hd hcd) fun σ H Q ⟨pv, F, B, env, P, m, rel, hw, hq⟩ => by
  have hw' : (match gt env i with | some _ => P (.inr i) env | none => False) := hw
  cases g : gt env i with
  | none => rw [g] at hw'; exact hw'.elim
  | some t =>
    rw [g] at hw'
    obtain ⟨v, e1, e2⟩ := rel.at_ i t (gt_some g)
    exact ⟨v, e1, hq _ _ hw' F H B v .refl rel (.s e1)⟩
theorem za_nil : ZA X pm [] aNil := pa_imp pa_nil fun σ H Q ⟨pv, F, B, env, P, m, rel, hw, hq⟩ => hq _ _ hw F H B [] .refl rel .nil
theorem za_cons (h : ZO X pm e o) (hr : ZA X pm es wr) (hs : starEach (e :: es) X.env = (false, eval e X.env) :: starEach es X.env := by rfl) : ZA X pm (e :: es) (aCons o wr) :=
  pa_imp (pa_cons h hr hs) fun σ H Q ⟨pv, F, B, env, P, m, rel, hw, hq⟩ =>
    ⟨pv, F, B, env, _, m, rel, hw, fun a e1 h1 F1 H1 B1 v s1 r1 i1 => ⟨pv, F1, B1, e1, _, m, r1, h1, fun as e2 h2 F2 H2 B2 vs s2 r2 i2 =>
      hq _ _ h2 F2 H2 B2 _ (s1.trans s2) r2 (.cons (i1.mono s2.le) i2)⟩⟩
end

/-! ### operators by values -/
/-- a pure operator: g tells, over data, what comes out -/
structure Op2 (K : PySem.W.Frag) (r : R2) (g : D → D → (T → Prop) → Prop) : Prop where
  run : ∀ (F H : Hp) (v u : V) (x y : D) (P : T → Prop) (Q : VK), Same F H → Pk K F H v x → Pk K F H u y → g x y P →
    (∀ (z : T) (w' : V) (F' H' : Hp) (R : Rg), P z → Alloc F H F' H' R → IsT K F' H' R w' z → Q w' H') → r v u H Q
structure OpN (K : PySem.W.Frag) (r : List V → Hp → VK → Prop) (g : List D → (T → Prop) → Prop) : Prop where
  run : ∀ (F H : Hp) (vs : List V) (ds : List D) (P : T → Prop) (Q : VK), Same F H → Pks K F H vs ds → g ds P →
    (∀ (z : T) (w' : V) (F' H' : Hp) (R : Rg), P z → Alloc F H F' H' R → IsT K F' H' R w' z → Q w' H') → r vs H Q
structure Op1 (K : PySem.W.Frag) (r : V → Hp → VK → Prop) (g : D → (T → Prop) → Prop) : Prop where
  run : ∀ (F H : Hp) (v : V) (x : D) (P : T → Prop) (Q : VK), Same F H → Pk K F H v x → g x P →
    (∀ (z : T) (w' : V) (F' H' : Hp) (R : Rg), P z → Alloc F H F' H' R → IsT K F' H' R w' z → Q w' H') → r v H Q
def wOp2 (g : D → D → (T → Prop) → Prop) (oa ob : WO) : WE := fun env P => oa env fun a e1 => ob e1 fun b e2 => match rs e2 a, rs e2 b with
  | some x, some y => g x y fun z => P z e2
  | _, _ => False
def wOp1 (g : D → (T → Prop) → Prop) (oa : WO) : WE := fun env P => oa env fun a e1 => match rs e1 a with
  | some x => g x fun z => P z e1
  | _ => False
def wOpN (g : List D → (T → Prop) → Prop) (wa : WA) : WE := fun env P => wa env fun as e1 => match rss e1 as with
  | some ds => g ds fun z => P z e1
  | none => False
section
variable {X : Cx} {pm : List Bool} {a b e : Expr} {oa ob : WO} {wa : WA} {pos : Pos}
theorem tz_op2 {r : R2} {g} (O : Op2 X.K r g) {σ H Q} : TZ X pm (wOp2 g oa ob) σ H Q → tOp r (TOz X pm oa) (TOz X pm ob) σ H Q := fun ⟨pv, F, B, env, P, m, rel, hw, hq⟩ => by
  refine ⟨pv, F, B, env, _, m, rel, hw, fun a e1 h1 F1 H1 B1 v s1 r1 i1 => ⟨pv, F1, B1, e1, _, m, r1, h1, fun b e2 h2 F2 H2 B2 u s2 r2 i2 => ?_⟩⟩
  have h2' : (match rs e2 a, rs e2 b with | some x, some y => g x y fun z => P z e2 | _, _ => False) := h2
  cases qa : rs e2 a with
  | none => rw [qa] at h2'; exact h2'.elim
  | some x =>
    cases qb : rs e2 b with
    | none => rw [qa, qb] at h2'; exact h2'.elim
    | some y =>
      rw [qa, qb] at h2'
      refine O.run F2 H2 v u x y _ _ r2.sub (r2.pk (i1.mono s2.le) qa) (r2.pk i2 qb) h2' fun z w' F3 H3 R3 hz al it => ?_
      obtain ⟨r3, s3, d3⟩ := r2.alloc al
      exact hq z e2 hz F3 H3 B2 R3 w' ((s1.trans s2).trans s3) r3 (r2.own al it)
theorem tz_op1 {r : V → Hp → VK → Prop} {g} (O : Op1 X.K r g) {σ H Q} : TZ X pm (wOp1 g oa) σ H Q → tUn r (TOz X pm oa) σ H Q := fun ⟨pv, F, B, env, P, m, rel, hw, hq⟩ => by
  refine ⟨pv, F, B, env, _, m, rel, hw, fun a e1 h1 F1 H1 B1 v s1 r1 i1 => ?_⟩
  have h1' : (match rs e1 a with | some x => g x fun z => P z e1 | _ => False) := h1
  cases qa : rs e1 a with
  | none => rw [qa] at h1'; exact h1'.elim
  | some x =>
    rw [qa] at h1'
    refine O.run F1 H1 v x _ _ r1.sub (r1.pk i1 qa) h1' fun z w' F3 H3 R3 hz al it => ?_
    obtain ⟨r3, s3, d3⟩ := r1.alloc al
    exact hq z e1 hz F3 H3 B1 R3 w' (s1.trans s3) r3 (r1.own al it)
theorem tz_opN {r : List V → Hp → VK → Prop} {g} (O : OpN X.K r g) {σ H Q} : TZ X pm (wOpN g wa) σ H Q → tCB r (TAz X pm wa) σ H Q := fun ⟨pv, F, B, env, P, m, rel, hw, hq⟩ => by
  refine ⟨pv, F, B, env, _, m, rel, hw, fun as e1 h1 F1 H1 B1 vs s1 r1 i1 => ?_⟩
  have h1' : (match rss e1 as with | some ds => g ds fun z => P z e1 | none => False) := h1
  cases qa : rss e1 as with
  | none => rw [qa] at h1'; exact h1'.elim
  | some ds =>
    rw [qa] at h1'
    refine O.run F1 H1 vs ds _ _ r1.sub (r1.pks i1 qa) h1' fun z w' F3 H3 R3 hz al it => ?_
    obtain ⟨r3, s3, d3⟩ := r1.alloc al
    exact hq z e1 hz F3 H3 B1 R3 w' (s1.trans s3) r3 (r1.own al it)
theorem ze_op2 {op : Operator} {r : R2} {g} (hr : OpR X (binaryOp op) r) (O : Op2 X.K r g) (ha : ZO X pm a oa) (hb : ZO X pm b ob) : ZE X pm (.BinOp a op b pos) (wOp2 g oa ob) := pe_imp (pe_op hr ha hb) fun _ _ _ => tz_op2 O
theorem ze_un {op : UnaryOp} {r : V → Hp → VK → Prop} {g} (hr : UnR X (unaryOp op) r) (O : Op1 X.K r g) (ha : ZO X pm a oa) : ZE X pm (.UnaryOp op a pos) (wOp1 g oa) := pe_imp (pe_un hr ha) fun _ _ _ => tz_op1 O
theorem ze_cmp {op : CmpOp} {r : R2} {g} (hr : OpR X (compareOp op) r) (O : Op2 X.K r g) (ha : ZO X pm a oa) (hb : ZO X pm b ob) (hm : behindInMarks op b = false) : ZE X pm (.Compare a [op] [b] pos) (wOp2 g oa ob) := pe_imp (pe_cmpR hr ha hb hm) fun _ _ _ => tz_op2 O
theorem ze_ix {r : R2} {g} (hr : IxR X r) (O : Op2 X.K r g) (ha : ZO X pm a oa) (hb : ZO X pm b ob) (hp : PlainIx b) : ZE X pm (.Subscript a b pos) (wOp2 g oa ob) := pe_imp (pe_ix hr ha hb hp) fun _ _ _ => tz_op2 O
end

/-! ### constants, names as values -/
def wC (d : D) : WE := fun env P => P (.fz d) env
/-- a name's value; an object of one's own is frozen -/
def wVar (i : Nat) : WE := fun env P => match gt env i with
  | some (.fz d) => P (.fz d) env
  | some t => P (.fz t.fr) (st env i (.fz t.fr))
  | none => False
/-- a name's value, the name given up -/
def wMov (i : Nat) : WE := fun env P => match gt env i with
  | some t => P t (cl env i)
  | none => False
section
variable {K : PySem.W.Frag} {pv : List (Option V)} {F H : Hp} {σ : L2.St} {env : Ev} {B : Nat → Rg} {t : T} {i : Nat}
theorem IsT.ofD {R : Rg} {v : V} {d : D} (h : IsD K F v d) : IsT K F H R v (.fz d) := .fz h
/-- the name i is given up: its value stands beside the frame -/
theorem Rel.take (r : Rel K pv F H σ env B) (e : gt env i = some t) : ∃ v, σ[i]? = some (some v) ∧ Rel K pv F H σ (cl env i) (fun j => if j = i then Rg0 else B j) ∧ OwnV K F H (fun j => if j = i then Rg0 else B j) (B i) v t ∧
    (∀ a, Ru (U fun j => if j = i then Rg0 else B j) (B i) a → U B a) := by
  obtain ⟨v, e1, e2⟩ := r.at_ i t (gt_some e)
  have sub : ∀ j a, (if j = i then Rg0 else B j) a → B j a ∧ j ≠ i := fun j a h => by
    by_cases z : j = i
    · rw [if_pos z] at h; exact h.elim
    · rw [if_neg z] at h; exact ⟨h, z⟩
  refine ⟨v, e1, ⟨r.sub, by rw [cl_eq, List.length_set]; exact r.len, fun j u h => ?_, fun j k a h1 h2 => r.dis j k a (sub _ _ h1).1 (sub _ _ h2).1, fun j a h => r.off j a (sub _ _ h).1, fun j a h => r.live j a (sub _ _ h).1, r.fix⟩,
    ⟨e2, fun j a h1 h2 => (sub _ _ h2).2 (r.dis j i a (sub _ _ h2).1 h1), fun a h => r.off i a h, fun a h => r.live i a h⟩, fun a h => ?_⟩
  · rw [cl_eq] at h
    by_cases z : j = i
    · subst z
      rw [List.getElem?_set] at h
      split at h
      · split at h <;> cases h
      · rename_i h'; exact absurd rfl h'
    · rw [List.getElem?_set_ne (Ne.symm z)] at h
      obtain ⟨u', e3, e4⟩ := r.at_ j u h
      refine ⟨u', e3, ?_⟩
      show IsT K F H (if j = i then Rg0 else B j) u' u
      rw [if_neg z]
      exact e4
  · rcases h with ⟨j, h⟩ | h
    · exact ⟨j, (sub _ _ h).1⟩
    · exact ⟨i, h⟩
/-- a value beside the frame is held by the name i -/
theorem Rel.put {v : V} {R : Rg} (r : Rel K pv F H σ env B) (o : OwnV K F H B R v t) (hp : ∀ u, pv[i]? = some (some u) → σ[i]? = some (some v) ∧ u = v) (hi : i < σ.length) :
    Rel K pv F H (σ.set i (some v)) (st env i t) (fun j => if j = i then R else B j) ∧ (∀ a, U (fun j => if j = i then R else B j) a → Ru (U B) R a) := by
  have hl := r.len
  have cs : ∀ j a, (if j = i then R else B j) a → (j = i ∧ R a) ∨ (j ≠ i ∧ B j a) := fun j a h => by
    by_cases z : j = i
    · rw [if_pos z] at h; exact .inl ⟨z, h⟩
    · rw [if_neg z] at h; exact .inr ⟨z, h⟩
  refine ⟨⟨r.sub, by rw [st_eq, List.length_set, List.length_set]; exact hl, fun j u h => ?_, fun j k a h1 h2 => ?_, fun j a h => ?_, fun j a h => ?_, fun j u h => ?_⟩, fun a ⟨j, h⟩ => ?_⟩
  · rw [st_eq] at h
    by_cases z : j = i
    · subst z
      rw [List.getElem?_set_self (by omega)] at h
      cases h
      refine ⟨v, List.getElem?_set_self hi, ?_⟩
      show IsT K F H (if j = j then R else B j) v _
      rw [if_pos rfl]
      exact o.is
    · rw [List.getElem?_set_ne (Ne.symm z)] at h
      obtain ⟨u', e3, e4⟩ := r.at_ j u h
      refine ⟨u', by rw [List.getElem?_set_ne (Ne.symm z)]; exact e3, ?_⟩
      show IsT K F H (if j = i then R else B j) u' u
      rw [if_neg z]
      exact e4
  · rcases cs _ _ h1 with ⟨z, h1⟩ | ⟨z, h1⟩ <;> rcases cs _ _ h2 with ⟨y, h2⟩ | ⟨y, h2⟩
    · rw [z, y]
    · exact (o.dis k a h1 h2).elim
    · exact (o.dis j a h2 h1).elim
    · exact r.dis j k a h1 h2
  · rcases cs _ _ h with ⟨z, h⟩ | ⟨z, h⟩
    · exact o.off a h
    · exact r.off j a h
  · rcases cs _ _ h with ⟨z, h⟩ | ⟨z, h⟩
    · exact o.live a h
    · exact r.live j a h
  · by_cases z : j = i
    · subst z
      rw [List.getElem?_set_self hi, (hp u h).2]
    · rw [List.getElem?_set_ne (Ne.symm z)]
      exact r.fix j u h
  · rcases cs _ _ h with ⟨z, h⟩ | ⟨z, h⟩
    · exact .inr h
    · exact .inl ⟨j, h⟩
theorem set_same {σ : L2.St} {i : Nat} {v : V} (e : σ[i]? = some (some v)) : σ.set i (some v) = σ := by
  apply List.ext_getElem?
  intro j
  by_cases z : j = i
  · subst z
    rw [e, List.getElem?_set_self]
    exact (List.getElem?_eq_some_iff.mp e).1
  · rw [List.getElem?_set_ne (Ne.symm z)]
end
theorem st_cl : ∀ (env : Ev) (i : Nat) (t : T), st (cl env i) i t = st env i t
  | [], _, _ => rfl
  | _ :: _, 0, _ => rfl
  | o :: r, n + 1, t => congrArg (List.cons o) (st_cl r n t)
section
variable {K : PySem.W.Frag} {pv : List (Option V)} {F H : Hp} {σ : L2.St} {env : Ev} {B : Nat → Rg} {t : T} {i : Nat}
/-- the name i's object is frozen where it lies -/
theorem Rel.freezeS (r : Rel K pv F H σ env B) (e : gt env i = some t) : ∃ v F' B', σ[i]? = some (some v) ∧ Rel K pv F' H σ (st env i (.fz t.fr)) B' ∧ Step F H (U B) F' H (U B') ∧ IsD K F' v t.fr := by
  obtain ⟨v, e1, r1, o1, s1⟩ := r.take e
  obtain ⟨F', r2, s2, d2⟩ := r1.freezeV o1
  have hi := (List.getElem?_eq_some_iff.mp e1).1
  obtain ⟨r3, s3⟩ := r2.put (i := i) (OwnV.fz d2) (fun u h => ⟨e1, by have := r.fix i u h; rw [e1] at this; cases this; rfl⟩) hi
  rw [set_same e1, st_cl] at r3
  exact ⟨v, F', _, e1, r3, (s2.more s1).less fun a h => (s3 a h).elim id False.elim, d2⟩
end
section
variable {X : Cx} {pm : List Bool} {pos : Pos}
theorem ze_c {e : Expr} {v : V} {d : D} (h : PE X e (tC v)) (hd : ∀ K F, IsD K F v d) : ZE X pm e (wC d) := pe_imp h fun σ H Q ⟨pv, F, B, env, P, m, rel, hw, hq⟩ => hq _ _ hw F H B Rg0 v Step.refl.r0 rel (OwnV.fz (hd _ _))
theorem ze_int {i : Int} {j} : ZE X pm (.Constant (.int i) j pos) (wC (.int i)) := ze_c pe_int fun _ _ => .int i
theorem ze_bl {b : Bool} {j} : ZE X pm (.Constant (.bool b) j pos) (wC (.bl b)) := ze_c pe_bl fun _ _ => .bl b
theorem ze_non {j} : ZE X pm (.Constant .none j pos) (wC .non) := ze_c pe_non fun _ _ => .non
theorem ze_str {x : Str} {j} : ZE X pm (.Constant (.str x) j pos) (wC (.str x)) := ze_c pe_str fun _ _ => .str x
theorem ze_var (i : Nat) {x : Str} (hN : X.N[i]? = some x := by rfl) (hv : Vis X.env.scope x := by first | exact Or.inl rfl | exact Or.inr (Or.inl rfl) | exact Or.inr (Or.inr rfl)) (hd : (x == ("__debug__" : Str)) = false := by decide)
    (hcd : (x == ("__classdict__" : Str)) = false := by decide) : ZE X pm (.Name x pos) (wVar i) := pe_imp (pe_var hN hv hd hcd) fun σ H Q ⟨pv, F, B, env, P, m, rel, hw, hq⟩ => by
  have hw' : (match gt env i with | some (.fz d) => P (.fz d) env | some t => P (.fz t.fr) (st env i (.fz t.fr)) | none => False) := hw
  cases g : gt env i with
  | none => rw [g] at hw'; exact hw'.elim
  | some t =>
    rw [g] at hw'
    have go : ∀ t' : T, gt env i = some t' → P (.fz t'.fr) (st env i (.fz t'.fr)) → tVar i σ H Q := fun t' g' h' => by
      obtain ⟨v, F', B', e1, r1, s1, d1⟩ := rel.freezeS g'
      exact ⟨v, e1, hq _ _ h' F' H B' Rg0 v s1.r0 r1 (OwnV.fz d1)⟩
    cases t with
    | fz d =>
      obtain ⟨v, e1, e2⟩ := rel.at_ i _ (gt_some g)
      cases e2 with
      | fz h => exact ⟨v, e1, hq _ _ hw' F H B Rg0 v Step.refl.r0 rel (OwnV.fz h)⟩
    | lst ds => exact go _ g hw'
    | ins c ts => exact go _ g hw'
theorem ze_mov (i : Nat) {x : Str} (hN : X.N[i]? = some x := by rfl) (hv : Vis X.env.scope x := by first | exact Or.inl rfl | exact Or.inr (Or.inl rfl) | exact Or.inr (Or.inr rfl)) (hd : (x == ("__debug__" : Str)) = false := by decide)
    (hcd : (x == ("__classdict__" : Str)) = false := by decide) : ZE X pm (.Name x pos) (wMov i) := pe_imp (pe_var hN hv hd hcd) fun σ H Q ⟨pv, F, B, env, P, m, rel, hw, hq⟩ => by
  have hw' : (match gt env i with | some t => P t (cl env i) | none => False) := hw
  cases g : gt env i with
  | none => rw [g] at hw'; exact hw'.elim
  | some t =>
    rw [g] at hw'
    obtain ⟨v, e1, r1, o1, s1⟩ := rel.take g
    exact ⟨v, e1, hq _ _ hw' F H _ _ v (Step.refl.less s1) r1 o1⟩
end
end Zl

namespace Zl
open PySem PySem.Spec PyProof.Rows L2

section
variable {K : PySem.W.Frag} {F H : Hp} {p : Addr} {o : HO}
theorem Alloc.own (s : Same F H) (h : H p = none) : Alloc F H F (upd H p o) (fun a => a = p) := by
  have np : ∀ a x, H a = some x → a ≠ p := fun a x e z => by subst z; rw [h] at e; cases e
  have k : Same H (upd H p o) := fun a x e => by rw [upd_ne (np a x e)]; exact e
  refine ⟨fun _ _ h => h, k, fun a x e => k a x (s a x e), fun _ h => .inl h, fun a e => by subst e; exact h, fun a e => ?_, fun a e => ?_⟩
  · subst e
    cases q : F a with
    | none => rfl
    | some x => rw [s a x q] at h; cases h
  · subst e; rw [upd_same]; simp
theorem Alloc.frz (s : Same F H) (h : H p = none) : Alloc F H (upd F p o) (upd H p o) Rg0 := by
  have np : ∀ a x, H a = some x → a ≠ p := fun a x e z => by subst z; rw [h] at e; cases e
  refine ⟨fun a x e => by rw [upd_ne (np a x (s a x e))]; exact e, fun a x e => by rw [upd_ne (np a x e)]; exact e, fun a x e => ?_, fun a e => ?_, fun _ h => h.elim, fun _ h => h.elim, fun _ h => h.elim⟩
  · by_cases z : a = p
    · subst z; rw [upd_same] at e ⊢; exact e
    · rw [upd_ne z] at e ⊢; exact s a x e
  · by_cases z : a = p
    · subst z; exact .inr h
    · rw [upd_ne z] at e; exact .inl e
end

/-! ### data for == -/
mutual
def D.py : D → PyData
  | .non => .none
  | .bl b => .bool b
  | .int i => .int i
  | .str s => .str s
  | .tup ds => .tuple (D.pys ds)
  | .lst ds => .list (D.pys ds)
  | .rol ds => .list (D.pys ds)
  | .ins _ _ => .none
  | .ty _ => .none
  | .cls _ => .none
def D.pys : List D → List PyData
  | [] => []
  | d :: ds => d.py :: D.pys ds
end
/-- data of at most that depth, its texts in order -/
def D.ok : Nat → D → Bool
  | _, .non => true
  | _, .bl _ => true
  | _, .int _ => true
  | _, .str s => PyData.strOk s
  | n + 1, .tup ds => ds.all (D.ok n)
  | n + 1, .lst ds => ds.all (D.ok n)
  | n + 1, .rol ds => ds.all (D.ok n)
  | _, _ => false
theorem pys_all {n : Nat} (ih : ∀ d : D, D.ok n d = true → d.py.canLay0 = true ∧ d.py.depth ≤ n) : ∀ ds : List D, ds.all (D.ok n) = true → PyData.canLayAll0 (D.pys ds) = true ∧ PyData.depthAll (D.pys ds) ≤ n
  | [], _ => ⟨rfl, Nat.zero_le _⟩
  | d :: ds, h => by
    rw [List.all_cons, Bool.and_eq_true] at h
    obtain ⟨a, b⟩ := ih d h.1
    obtain ⟨c, e⟩ := pys_all ih ds h.2
    refine ⟨?_, ?_⟩
    · show (d.py.canLay0 && PyData.canLayAll0 (D.pys ds)) = true
      rw [a, c]; rfl
    · show max d.py.depth (PyData.depthAll (D.pys ds)) ≤ n
      omega
theorem D.ok_py : ∀ (n : Nat) (d : D), D.ok n d = true → d.py.canLay0 = true ∧ d.py.depth ≤ n
  | n, .non, _ => ⟨rfl, Nat.zero_le _⟩
  | n, .bl _, _ => ⟨rfl, Nat.zero_le _⟩
  | n, .int _, _ => ⟨rfl, Nat.zero_le _⟩
  | n, .str s, h => ⟨by cases n <;> exact h, Nat.zero_le _⟩
  | 0, .tup ds, h => by cases h
  | 0, .lst ds, h => by cases h
  | 0, .rol ds, h => by cases h
  | n + 1, .tup ds, h => by
    obtain ⟨a, b⟩ := pys_all (D.ok_py n) ds h
    exact ⟨a, Nat.succ_le_succ b⟩
  | n + 1, .lst ds, h => by
    obtain ⟨a, b⟩ := pys_all (D.ok_py n) ds h
    exact ⟨a, Nat.succ_le_succ b⟩
  | n + 1, .rol ds, h => by
    obtain ⟨a, b⟩ := pys_all (D.ok_py n) ds h
    exact ⟨a, Nat.succ_le_succ b⟩
  | 0, .ins _ _, h => by cases h
  | 0, .ty _, h => by cases h
  | 0, .cls _, h => by cases h
  | _ + 1, .ins _ _, h => by cases h
  | _ + 1, .ty _, h => by cases h
  | _ + 1, .cls _, h => by cases h
theorem D.ok_shaped {d : D} (h : D.ok 60 d = true) : SeqAt.shaped d.py = true := by
  obtain ⟨a, b⟩ := D.ok_py 60 d h
  unfold SeqAt.shaped
  rw [a, decide_eq_true (by omega : d.py.depth ≤ 64)]
  rfl
section
variable {K : PySem.W.Frag} {F H : Hp}
theorem ok_dps (s : Same F H) {n : Nat} (ih : ∀ (d : D) (v : V), D.ok n d = true → IsD K F v d → Dp K H v d.py) : ∀ (ds : List D) (vs : List V), ds.all (D.ok n) = true → IsDs K F vs ds → DpAll K H vs (D.pys ds)
  | [], _, _, .nil => .nil
  | d :: ds, _, h, .cons q r => by
    rw [List.all_cons, Bool.and_eq_true] at h
    exact .cons (ih d _ h.1 q) (ok_dps s ih ds _ h.2 r)
theorem ok_dp (s : Same F H) : ∀ (n : Nat) (d : D) (v : V), D.ok n d = true → IsD K F v d → Dp K H v d.py
  | _, .non, _, _, .non => .non
  | _, .bl b, _, _, .bl _ => .bl b
  | _, .int i, _, _, .int _ => .int i
  | _, .str x, _, _, .str _ => .str x
  | 0, .tup ds, _, h, _ => by cases h
  | 0, .lst ds, _, h, _ => by cases h
  | 0, .rol ds, _, h, _ => by cases h
  | n + 1, .tup ds, _, h, .tup hq hr => .tup (Same.sqT s hq) (ok_dps s (ok_dp s n) ds _ h hr)
  | n + 1, .lst ds, _, h, .lst hq hr => .lst (.inl (.inl (s _ _ hq))) (ok_dps s (ok_dp s n) ds _ h hr)
  | n + 1, .rol ds, _, h, .rol hq hr => .lst (s.seq hq) (ok_dps s (ok_dp s n) ds _ h hr)
  | 0, .ins _ _, _, h, _ => by cases h
  | 0, .ty _, _, h, _ => by cases h
  | 0, .cls _, _, h, _ => by cases h
  | _ + 1, .ins _ _, _, h, _ => by cases h
  | _ + 1, .ty _, _, h, _ => by cases h
  | _ + 1, .cls _, _, h, _ => by cases h
theorem Pk.dp (s : Same F H) {d : D} {v : V} (h : D.ok 60 d = true) : Pk K F H v d → Dp K H v d.py
  | .d q => ok_dp s 60 d v h q
  | .lst (ds := ds) q r => .lst (.inl (.inl q)) (ok_dps s (ok_dp s 59) ds _ h r)
  | .ins _ _ => by cases h
end
def D.eqb (x y : D) : Bool := PyData.eqv x.py y.py
/-- == of two scalars -/
def eqS : D → D → Option Bool
  | .int i, .int j => some (decide (i = j))
  | .str i, .str j => some (decide (i = j))
  | .bl i, .bl j => some (decide (i = j))
  | .non, .non => some true
  | .non, .int _ => some false
  | .int _, .non => some false
  | .non, .str _ => some false
  | .str _, .non => some false
  | .non, .bl _ => some false
  | .bl _, .non => some false
  | .int _, .str _ => some false
  | .str _, .int _ => some false
  | _, _ => none
def eqK (x y : D) (k : Bool → Prop) : Prop := match eqS x y with
  | some b => k b
  | none => D.ok 60 x = true ∧ D.ok 60 y = true ∧ k (D.eqb x y)
def gEq (x y : D) (k : T → Prop) : Prop := eqK x y fun b => k (.fz (.bl b))
def gNe (x y : D) (k : T → Prop) : Prop := eqK x y fun b => k (.fz (.bl (!b)))
section
variable {X : Cx} {K : PySem.W.Frag} {F H : Hp}
theorem eqS_V {x y : D} {v u : V} {b : Bool} (e : eqS x y = some b) (hv : Pk K F H v x) (hu : Pk K F H u y) : scal v u = true ∧ decide (v = u) = b := by
  cases x <;> cases y <;> cases e
  all_goals
    first | rw [hv.int] | rw [hv.str] | rw [hv.bl] | rw [hv.non]
    first | rw [hu.int] | rw [hu.str] | rw [hu.bl] | rw [hu.non]
    refine ⟨rfl, ?_⟩
    first
      | rfl
      | (apply decide_eq_decide.mpr; constructor <;> intro z <;> first | (injection z) | (rw [z]))
theorem op2_eq : Op2 K (fun x y H Q => rEq x y H Q ∨ rEqD K x y H Q) gEq := ⟨fun F H v u x y P Q s hv hu h hq => by
  have h' : (match eqS x y with | some b => P (.fz (.bl b)) | none => D.ok 60 x = true ∧ D.ok 60 y = true ∧ P (.fz (.bl (D.eqb x y)))) := h
  cases e : eqS x y with
  | some b =>
    rw [e] at h'
    obtain ⟨a, c⟩ := eqS_V e hv hu
    exact .inl ⟨a, by rw [c]; exact hq _ _ F H Rg0 h' (.refl s) (.fz (.bl b))⟩
  | none =>
    rw [e] at h'
    obtain ⟨a, b, c⟩ := h'
    exact .inr ⟨x.py, y.py, hv.dp s a, hu.dp s b, D.ok_shaped a, D.ok_shaped b, hq _ _ F H Rg0 c (.refl s) (.fz (.bl _))⟩⟩
theorem op2_ne : Op2 K (fun x y H Q => rNe x y H Q ∨ rNeD K x y H Q) gNe := ⟨fun F H v u x y P Q s hv hu h hq => by
  have h' : (match eqS x y with | some b => P (.fz (.bl (!b))) | none => D.ok 60 x = true ∧ D.ok 60 y = true ∧ P (.fz (.bl (!D.eqb x y)))) := h
  cases e : eqS x y with
  | some b =>
    rw [e] at h'
    obtain ⟨a, c⟩ := eqS_V e hv hu
    exact .inl ⟨a, by rw [c]; exact hq _ _ F H Rg0 h' (.refl s) (.fz (.bl _))⟩
  | none =>
    rw [e] at h'
    obtain ⟨a, b, c⟩ := h'
    exact .inr ⟨x.py, y.py, hv.dp s a, hu.dp s b, D.ok_shaped a, D.ok_shaped b, hq _ _ F H Rg0 c (.refl s) (.fz (.bl _))⟩⟩
theorem or_eq (hu : X.A.units + 64 < cLine) : OpR X (compareOp .Eq) (fun x y H Q => rEq x y H Q ∨ rEqD X.K x y H Q) := op_eq.or (op_eqD hu)
theorem or_ne (hu : X.A.units + 64 < cLine) : OpR X (compareOp .NotEq) (fun x y H Q => rNe x y H Q ∨ rNeD X.K x y H Q) := op_ne.or (op_neD hu)
end

/-! ### arithmetic, + -/
def gAdd : D → D → (T → Prop) → Prop
  | .int i, .int j, k => k (.fz (.int (i + j)))
  | .str x, .str y, k => x.length + y.length ≤ sizeLine ∧ k (.fz (.str (x ++ y)))
  | .lst xs, .lst ys, k => xs.length + ys.length ≤ sizeLine ∧ k (.lst (xs ++ ys))
  | .tup xs, .tup ys, k => xs.length + ys.length ≤ sizeLine ∧ k (.fz (.tup (xs ++ ys)))
  | _, _, _ => False
def rAddAll (K : PySem.W.Frag) : R2 := fun x y H Q => rI0 (fun i j => V.int (i + j)) x y H Q ∨ (∃ i j, x = .str i ∧ y = .str j ∧ i.length + j.length ≤ sizeLine ∧ Q (.str (i ++ j)) H) ∨ rCat x y H Q ∨ rCatA K x y H Q
def gSub : D → D → (T → Prop) → Prop
  | .int i, .int j, k => k (.fz (.int (i - j)))
  | _, _, _ => False
def gMul : D → D → (T → Prop) → Prop
  | .int i, .int j, k => CMul i j ∧ k (.fz (.int (i * j)))
  | .lst xs, .int n, k => (-(2 ^ 63) ≤ n ∧ n < 2 ^ 63 ∧ xs.length * n.toNat ≤ sizeLine) ∧ k (.lst (List.replicate n.toNat xs).flatten)
  | _, _, _ => False
def gMod : D → D → (T → Prop) → Prop
  | .int i, .int j, k => 0 < j ∧ k (.fz (.int (i % j)))
  | _, _, _ => False
def gDiv : D → D → (T → Prop) → Prop
  | .int i, .int j, k => (0 < j ∧ j < 1073741824) ∧ k (.fz (.int (i / j)))
  | _, _, _ => False
def gPow : D → D → (T → Prop) → Prop
  | .int i, .int j, k => CPow i j ∧ k (.fz (.int (i ^ j.toNat)))
  | _, _, _ => False
def gNeg : D → (T → Prop) → Prop
  | .int i, k => k (.fz (.int (-i)))
  | _, _ => False
def gCmp (p : Int → Int → Bool) : D → D → (T → Prop) → Prop
  | .int i, .int j, k => k (.fz (.bl (p i j)))
  | _, _, _ => False
section
variable {X : Cx} {K : PySem.W.Frag}
theorem IsDs.flat {F : Hp} {vs : List V} {ds : List D} (h : IsDs K F vs ds) : ∀ n : Nat, IsDs K F (List.replicate n vs).flatten (List.replicate n ds).flatten
  | 0 => .nil
  | n + 1 => by
    rw [List.replicate_succ, List.replicate_succ, List.flatten_cons, List.flatten_cons]
    exact h.append (IsDs.flat h n)
theorem op2_add : Op2 K (rAddAll K) gAdd := ⟨fun F H v u x y P Q s hv hu h hq => by
  cases x <;> cases y <;> first
    | exact h.elim
    | skip
  · rename_i i j
    exact .inl ⟨i, j, hv.int, hu.int, hq _ _ F H Rg0 h (.refl s) (.fz (.int _))⟩
  · rename_i i j
    exact .inr (.inl ⟨i, j, hv.str, hu.str, h.1, hq _ _ F H Rg0 h.2 (.refl s) (.fz (.str _))⟩)
  · rename_i xs ys
    obtain ⟨a, vs, rfl, h1, d1⟩ := hv.tup1 s
    obtain ⟨b, us, rfl, h2, d2⟩ := hu.tup1 s
    have l1 := d1.length
    have l2 := d2.length
    refine .inr (.inr (.inr ⟨a, b, vs, us, rfl, rfl, h1, h2, by have := h.1; omega, fun e => ?_, fun _ e => ?_, fun _ _ p hp => ?_⟩))
    · subst e
      cases d1
      exact hq _ _ F H Rg0 h.2 (.refl s) (.fz (match hu with | .d q => q))
    · subst e
      cases d2
      have h2 := h.2
      rw [List.append_nil] at h2
      exact hq _ _ F H Rg0 h2 (.refl s) (.fz (match hv with | .d q => q))
    · have al := Alloc.frz (o := .tup (vs ++ us)) s hp
      exact hq _ _ _ _ Rg0 h.2 al (.fz (.tup (.of upd_same) ((d1.mono al.le).append (d2.mono al.le))))
  · rename_i xs ys
    obtain ⟨a, vs, rfl, h1, d1⟩ := hv.lst1 s
    obtain ⟨b, us, rfl, h2, d2⟩ := hu.lst1 s
    have l1 := d1.length
    have l2 := d2.length
    refine .inr (.inr (.inl ⟨a, b, vs, us, rfl, rfl, h1, h2, by have := h.1; omega, fun p hp => ?_⟩))
    exact hq _ _ _ _ _ h.2 (Alloc.own s hp) (.lst rfl upd_same (d1.append d2))⟩
theorem or_add : OpR X (binaryOp .Add) (rAddAll X.K) := op_add.or (op_add_str.or (op_cat.or op_catA))
theorem op2_sub : Op2 K (rI0 fun i j => V.int (i - j)) gSub := ⟨fun F H v u x y P Q s hv hu h hq => by
  cases x <;> cases y <;> first
    | exact h.elim
    | exact ⟨_, _, hv.int, hu.int, hq _ _ F H Rg0 h (.refl s) (.fz (.int _))⟩⟩
theorem op2_mul : Op2 K (fun x y H Q => rI CMul (fun i j => V.int (i * j)) x y H Q ∨ rRep x y H Q) gMul := ⟨fun F H v u x y P Q s hv hu h hq => by
  cases x <;> cases y <;> first
    | exact h.elim
    | exact .inl ⟨_, _, hv.int, hu.int, h.1, hq _ _ F H Rg0 h.2 (.refl s) (.fz (.int _))⟩
    | skip
  rename_i xs n
  obtain ⟨a, vs, rfl, h1, d1⟩ := hv.lst1 s
  refine .inr ⟨a, n, vs, rfl, hu.int, h1, h.1.1, h.1.2.1, by rw [d1.length]; exact h.1.2.2, fun p hp => ?_⟩
  exact hq _ _ _ _ _ h.2 (Alloc.own s hp) (.lst rfl upd_same (d1.flat _))⟩
theorem or_mul : OpR X (binaryOp .Mult) (fun x y H Q => rI CMul (fun i j => V.int (i * j)) x y H Q ∨ rRep x y H Q) := op_mul.or op_rep
theorem op2_mod : Op2 K (rI (fun _ j => j ≠ 0) fun i j => V.int (i.fmod j)) gMod := ⟨fun F H v u x y P Q s hv hu h hq => by
  cases x <;> cases y <;> first
    | exact h.elim
    | skip
  rename_i i j
  have h0 : 0 < j := h.1
  refine ⟨i, j, hv.int, hu.int, by omega, ?_⟩
  show Q (.int (i.fmod j)) H
  rw [Int.fmod_eq_emod_of_nonneg _ (by omega)]
  exact hq _ _ F H Rg0 h.2 (.refl s) (.fz (.int _))⟩
theorem op2_div : Op2 K (rI CDivN fun i j => V.int (i.fdiv j)) gDiv := ⟨fun F H v u x y P Q s hv hu h hq => by
  cases x <;> cases y <;> first
    | exact h.elim
    | skip
  rename_i i j
  obtain ⟨⟨h0, h1⟩, h2⟩ := h
  refine ⟨i, j, hv.int, hu.int, ⟨by omega, by omega⟩, ?_⟩
  show Q (.int (i.fdiv j)) H
  rw [Int.fdiv_eq_ediv_of_nonneg _ (by omega)]
  exact hq _ _ F H Rg0 h2 (.refl s) (.fz (.int _))⟩
theorem op2_pow : Op2 K (rI CPow fun i j => V.int (i ^ j.toNat)) gPow := ⟨fun F H v u x y P Q s hv hu h hq => by
  cases x <;> cases y <;> first
    | exact h.elim
    | exact ⟨_, _, hv.int, hu.int, h.1, hq _ _ F H Rg0 h.2 (.refl s) (.fz (.int _))⟩⟩
theorem op1_neg : Op1 K (rU fun i => V.int (-i)) gNeg := ⟨fun F H v x P Q s hv h hq => by
  cases x <;> first
    | exact h.elim
    | exact ⟨_, hv.int, hq _ _ F H Rg0 h (.refl s) (.fz (.int _))⟩⟩
theorem op2_cmp (p : Int → Int → Bool) : Op2 K (rI0 fun i j => V.bl (p i j)) (gCmp p) := ⟨fun F H v u x y P Q s hv hu h hq => by
  cases x <;> cases y <;> first
    | exact h.elim
    | exact ⟨_, _, hv.int, hu.int, hq _ _ F H Rg0 h (.refl s) (.fz (.bl _))⟩⟩
end
abbrev gLt := gCmp fun i j => decide (i < j)
abbrev gLe := gCmp fun i j => decide (i ≤ j)
abbrev gGt := gCmp fun i j => decide (j < i)
abbrev gGe := gCmp fun i j => decide (j ≤ i)

/-! ### is None, is True -/
def D.isNon : D → Bool
  | .non => true
  | _ => false
def gIs : D → D → (T → Prop) → Prop
  | x, .non, k => k (.fz (.bl x.isNon))
  | .bl a, .bl b, k => k (.fz (.bl (decide (a = b))))
  | _, _, _ => False
def gIsNot : D → D → (T → Prop) → Prop
  | x, .non, k => k (.fz (.bl (!x.isNon)))
  | .bl a, .bl b, k => k (.fz (.bl (!decide (a = b))))
  | _, _, _ => False
section
variable {X : Cx} {K : PySem.W.Frag} {F H : Hp}
theorem Pk.isNon {v : V} {x : D} (h : Pk K F H v x) : decide (v = .non) = x.isNon := by
  cases h with
  | lst _ _ => rfl
  | ins _ _ => rfl
  | d h => cases h <;> rfl
theorem op2_is : Op2 K (fun x y H Q => (y = V.non ∧ Q (V.bl (decide (x = V.non))) H) ∨ rIsB x y H Q) gIs := ⟨fun F H v u x y P Q s hv hu h hq => by
  by_cases z : y = .non
  · subst z
    have h' : P (.fz (.bl x.isNon)) := by cases x <;> exact h
    exact .inl ⟨hu.non, by rw [hv.isNon]; exact hq _ _ F H Rg0 h' (.refl s) (.fz (.bl _))⟩
  · cases x <;> cases y <;> first
      | exact h.elim
      | exact absurd rfl z
      | exact .inr ⟨_, _, hv.bl, hu.bl, hq _ _ F H Rg0 h (.refl s) (.fz (.bl _))⟩⟩
theorem op2_isnot : Op2 K (fun x y H Q => (y = V.non ∧ Q (V.bl (!decide (x = V.non))) H) ∨ rNotB x y H Q) gIsNot := ⟨fun F H v u x y P Q s hv hu h hq => by
  by_cases z : y = .non
  · subst z
    have h' : P (.fz (.bl (!x.isNon))) := by cases x <;> exact h
    exact .inl ⟨hu.non, by rw [hv.isNon]; exact hq _ _ F H Rg0 h' (.refl s) (.fz (.bl _))⟩
  · cases x <;> cases y <;> first
      | exact h.elim
      | exact absurd rfl z
      | exact .inr ⟨_, _, hv.bl, hu.bl, hq _ _ F H Rg0 h (.refl s) (.fz (.bl _))⟩⟩
theorem or_is : OpR X (compareOp .Is) (fun x y H Q => (y = V.non ∧ Q (V.bl (decide (x = V.non))) H) ∨ rIsB x y H Q) := op_isN.or op_isBl
theorem or_isnot : OpR X (compareOp .IsNot) (fun x y H Q => (y = V.non ∧ Q (V.bl (!decide (x = V.non))) H) ∨ rNotB x y H Q) := op_notN.or op_notBl
end

/-! ### subscripts, len -/
def gIx : D → D → (T → Prop) → Prop
  | .lst xs, .int i, k => match atI xs i with
    | some d => k (.fz d)
    | none => False
  | .tup xs, .int i, k => match atI xs i with
    | some d => k (.fz d)
    | none => False
  | .rol xs, .int i, k => match atI xs i with
    | some d => k (.fz d)
    | none => False
  | .str z, .int i, k => z.length ≤ sizeLine ∧ match atI z.cps.toList i with
    | some c => k (.fz (.str ⟨#[c]⟩))
    | none => False
  | _, _, _ => False
section
variable {X : Cx} {K : PySem.W.Frag} {F H : Hp}
theorem IsDs.atI {vs : List V} {ds : List D} {i : Int} {d : D} (h : IsDs K F vs ds) (e : L2.atI ds i = some d) : ∃ v, L2.atI vs i = some v ∧ IsD K F v d := by
  unfold L2.atI at e ⊢
  rw [h.length]
  cases q : ixN ds.length i with
  | none => rw [q] at e; cases e
  | some j =>
    rw [q] at e
    exact h.get (i := j) e
theorem op2_ix : Op2 K (rIx K) gIx := ⟨fun F H v u x y P Q s hv hu h hq => by
  cases x <;> cases y <;> first
    | exact h.elim
    | skip
  · rename_i z i
    obtain ⟨hz, h⟩ := h
    cases q : atI z.cps.toList i with
    | none => simp only [q] at h
    | some c =>
      simp only [q] at h
      exact .inr (.inr ⟨z, i, c, hv.str, hu.int, hz, q, hq _ _ F H Rg0 h (.refl s) (.fz (.str _))⟩)
  · rename_i xs i
    have h : (match atI xs i with | some d => P (.fz d) | none => False) := h
    obtain ⟨a, vs, rfl, h1, d1⟩ := hv.tup1 s
    cases q : atI xs i with
    | none => rw [q] at h; exact h.elim
    | some d =>
      rw [q] at h
      obtain ⟨w', e, hd⟩ := d1.atI q
      exact .inr (.inl ⟨a, vs, i, w', rfl, hu.int, h1, e, hq _ _ F H Rg0 h (.refl s) (.fz hd)⟩)
  · rename_i xs i
    have h : (match atI xs i with | some d => P (.fz d) | none => False) := h
    obtain ⟨a, vs, rfl, h1, d1⟩ := hv.lst1 s
    cases q : atI xs i with
    | none => rw [q] at h; exact h.elim
    | some d =>
      rw [q] at h
      obtain ⟨w', e, hd⟩ := d1.atI q
      exact .inl ⟨a, vs, i, w', rfl, hu.int, SqL.of h1, e, hq _ _ F H Rg0 h (.refl s) (.fz hd)⟩
  · rename_i xs i
    have h : (match atI xs i with | some d => P (.fz d) | none => False) := h
    obtain ⟨a, vs, rfl, h1, d1⟩ := hv.rol1 s
    cases q : atI xs i with
    | none => rw [q] at h; exact h.elim
    | some d =>
      rw [q] at h
      obtain ⟨w', e, hd⟩ := d1.atI q
      exact .inl ⟨a, vs, i, w', rfl, hu.int, h1, e, hq _ _ F H Rg0 h (.refl s) (.fz hd)⟩⟩
end
def gLen : List D → (T → Prop) → Prop
  | [.lst xs], k => k (.fz (.int xs.length))
  | [.tup xs], k => k (.fz (.int xs.length))
  | [.rol xs], k => k (.fz (.int xs.length))
  | [.str x], k => x.length ≤ sizeLine ∧ k (.fz (.int x.length))
  | _, _ => False
def rLen (K : PySem.W.Frag) : List V → Hp → VK → Prop := fun xs H Q => ∃ x n, xs = [x] ∧ LenV K x H n ∧ Q (.int n) H
section
variable {X : Cx} {K : PySem.W.Frag} {F H : Hp}
theorem Pks.one {vs : List V} {d : D} (h : Pks K F H vs [d]) : ∃ v, vs = [v] ∧ Pk K F H v d := by
  cases h with
  | cons h r => cases r; exact ⟨_, rfl, h⟩
theorem Pks.two {vs : List V} {d e : D} (h : Pks K F H vs [d, e]) : ∃ v u, vs = [v, u] ∧ Pk K F H v d ∧ Pk K F H u e := by
  cases h with
  | cons h r =>
    obtain ⟨u, rfl, q⟩ := r.one
    exact ⟨_, _, rfl, h, q⟩
theorem Pks.three {vs : List V} {d e f : D} (h : Pks K F H vs [d, e, f]) : ∃ v u x, vs = [v, u, x] ∧ Pk K F H v d ∧ Pk K F H u e ∧ Pk K F H x f := by
  cases h with
  | cons h r =>
    obtain ⟨u, x, rfl, q, r⟩ := r.two
    exact ⟨_, _, _, rfl, h, q, r⟩
theorem opn_len : OpN K (rLen K) gLen := ⟨fun F H vs ds P Q s hv h hq => by
  match ds, hv, h with
  | [], _, h => exact h.elim
  | _ :: _ :: _, _, h => (first | exact h.elim | (rename_i d _ _ _; cases d <;> exact h.elim))
  | [d], hv, h =>
    obtain ⟨v, rfl, kv⟩ := hv.one
    cases d <;> first
      | exact h.elim
      | skip
    · rename_i x
      exact ⟨v, x.length, rfl, by rw [kv.str]; exact ⟨h.1, rfl⟩, hq _ _ F H Rg0 h.2 (.refl s) (.fz (.int _))⟩
    · rename_i xs
      obtain ⟨a, us, rfl, h1, d1⟩ := kv.tup1 s
      exact ⟨_, xs.length, rfl, .inr ⟨us, h1, d1.length.symm⟩, hq _ _ F H Rg0 h (.refl s) (.fz (.int _))⟩
    · rename_i xs
      obtain ⟨a, us, rfl, h1, d1⟩ := kv.lst1 s
      exact ⟨_, xs.length, rfl, .inl ⟨us, SqL.of h1, d1.length.symm⟩, hq _ _ F H Rg0 h (.refl s) (.fz (.int _))⟩
    · rename_i xs
      obtain ⟨a, us, rfl, h1, d1⟩ := kv.rol1 s
      exact ⟨_, xs.length, rfl, .inl ⟨us, h1, d1.length.symm⟩, hq _ _ F H Rg0 h (.refl s) (.fz (.int _))⟩⟩
/-- f(e, ..), f a built-in function; a built-in type -/
theorem ze_callB {x : Str} {p pos : Pos} {id : String} {e : Expr} {es : List Expr} {pm : List Bool} {wa : WA} {r : List V → Hp → VK → Prop} {g} (hc : CallR X (.builtin id) r) (O : OpN X.K r g) (hg : Gl X x) (hm : X.mg x = none) (hv : bootBuiltins x = some (.builtin id)) (ha : ZA X pm (e :: es) wa) (hn : x ≠ "__name__" := by decide) (hdb : (x == ("__debug__" : Str)) = false := by decide)
    (he : starEach (e :: es) X.env = (false, eval e X.env) :: starEach es X.env := by rfl) (hpl : (backTo pos (starEach es X.env)).any (·.1) = false := by rfl) : ZE X pm (.Call (.Name x p) (e :: es) [] pos) (wOpN g wa) :=
  pe_imp (pe_callB hc hg hm hv ha hn hdb he hpl) fun _ _ _ => tz_opN O
theorem ze_callTy {x : Str} {p pos : Pos} {id : String} {e : Expr} {es : List Expr} {pm : List Bool} {wa : WA} {r : List V → Hp → VK → Prop} {g} (hc : CallR X (.type id) r) (O : OpN X.K r g) (hg : Gl X x) (hm : X.mg x = none) (hv : bootBuiltins x = some (.type id)) (ha : ZA X pm (e :: es) wa) (hn : x ≠ "__name__" := by decide) (hdb : (x == ("__debug__" : Str)) = false := by decide)
    (he : starEach (e :: es) X.env = (false, eval e X.env) :: starEach es X.env := by rfl) (hpl : (backTo pos (starEach es X.env)).any (·.1) = false := by rfl) : ZE X pm (.Call (.Name x p) (e :: es) [] pos) (wOpN g wa) :=
  pe_imp (pe_callTy hc hg hm hv ha hn hdb he hpl) fun _ _ _ => tz_opN O
end

/-! ### int, min, max, list, tuple -/
def gInt : List D → (T → Prop) → Prop
  | [.int i], k => k (.fz (.int i))
  | [.bl b], k => k (.fz (.int (if b then 1 else 0)))
  | _, _ => False
def gMin : List D → (T → Prop) → Prop
  | [.int i, .int j], k => k (.fz (.int (min i j)))
  | [.int i, .int j, .int l], k => k (.fz (.int (min (min i j) l)))
  | _, _ => False
def gMax : List D → (T → Prop) → Prop
  | [.int i, .int j], k => k (.fz (.int (max i j)))
  | _, _ => False
def gList : List D → (T → Prop) → Prop
  | [.lst xs], k => k (.lst xs)
  | [.tup xs], k => k (.lst xs)
  | [.rol xs], k => k (.lst xs)
  | _, _ => False
def rMin : List V → Hp → VK → Prop := fun xs H Q => (∃ i j, xs = [.int i, .int j] ∧ Q (.int (if j < i then j else i)) H) ∨ ∃ i j l, xs = [.int i, .int j, .int l] ∧ Q (.int (min (min i j) l)) H
section
variable {X : Cx} {K : PySem.W.Frag} {F H : Hp}
theorem opn_int : OpN K (fun xs H Q => (∃ i, xs = [.int i] ∧ Q (.int i) H) ∨ ∃ k, xs = [.bl k] ∧ Q (.int (if k then 1 else 0)) H) gInt := ⟨fun F H vs ds P Q s hv h hq => by
  match ds, hv, h with
  | [], _, h => exact h.elim
  | _ :: _ :: _, _, h => (first | exact h.elim | (rename_i d _ _ _; cases d <;> exact h.elim))
  | [d], hv, h =>
    obtain ⟨v, rfl, kv⟩ := hv.one
    cases d <;> first
      | exact h.elim
      | exact .inl ⟨_, by rw [kv.int], hq _ _ F H Rg0 h (.refl s) (.fz (.int _))⟩
      | exact .inr ⟨_, by rw [kv.bl], hq _ _ F H Rg0 h (.refl s) (.fz (.int _))⟩⟩
theorem call_min3 (hc : X.calm = true) : CallR X (.builtin "min") (fun xs H Q => ∃ i j l, xs = [.int i, .int j, .int l] ∧ Q (.int (min (min i j) l)) H) := by
  intro pins s σ H xs us Q I r h
  obtain ⟨i, j, l, rfl, q⟩ := h
  obtain ⟨u, us', rfl⟩ : ∃ u us', us = u :: us' := by cases r; exact ⟨_, _, rfl⟩
  cases r with
  | cons r0 r =>
    obtain ⟨w1, w2, rfl, ⟨t1, rfl⟩, ⟨t2, rfl⟩⟩ := vals2 r
    obtain ⟨t0, rfl⟩ := r0
    refine min_three_ints (I.ok.hd hc) fun h' tk k => ⟨_, H, I.kept k, ?_, q⟩
    by_cases h1 : j < i
    · rw [if_pos h1]
      by_cases h2 : l < j
      · rw [if_pos h2]; exact ⟨_, by congr 1; omega⟩
      · rw [if_neg h2]; exact ⟨_, by congr 1; omega⟩
    · rw [if_neg h1]
      by_cases h2 : l < i
      · rw [if_pos h2]; exact ⟨_, by congr 1; omega⟩
      · rw [if_neg h2]; exact ⟨_, by congr 1; omega⟩
theorem cr_min (hc : X.calm = true) : CallR X (.builtin "min") rMin := (call_min2 hc).or (call_min3 hc)
theorem opn_min : OpN K rMin gMin := ⟨fun F H vs ds P Q s hv h hq => by
  match ds, hv, h with
  | [], _, h => exact h.elim
  | [d], _, h => cases d <;> exact h.elim
  | [d, e], hv, h =>
    obtain ⟨v, u, rfl, kv, hu⟩ := hv.two
    cases d <;> cases e <;> first
      | exact h.elim
      | skip
    rename_i i j
    refine .inl ⟨i, j, by rw [kv.int, hu.int], ?_⟩
    have e : (if j < i then j else i) = min i j := by omega
    rw [e]
    exact hq _ _ F H Rg0 h (.refl s) (.fz (.int _))
  | [d, e, f], hv, h =>
    obtain ⟨v, u, x, rfl, kv, hu, hx⟩ := hv.three
    cases d <;> cases e <;> cases f <;> first
      | exact h.elim
      | skip
    exact .inr ⟨_, _, _, by rw [kv.int, hu.int, hx.int], hq _ _ F H Rg0 h (.refl s) (.fz (.int _))⟩
  | d :: e :: f :: g :: r, _, h => cases d <;> cases e <;> cases f <;> exact h.elim⟩
theorem opn_max : OpN K (fun xs H Q => ∃ i j, xs = [.int i, .int j] ∧ Q (.int (if i < j then j else i)) H) gMax := ⟨fun F H vs ds P Q s hv h hq => by
  match ds, hv, h with
  | [], _, h => exact h.elim
  | [d], _, h => cases d <;> exact h.elim
  | [d, e], hv, h =>
    obtain ⟨v, u, rfl, kv, hu⟩ := hv.two
    cases d <;> cases e <;> first
      | exact h.elim
      | skip
    rename_i i j
    refine ⟨i, j, by rw [kv.int, hu.int], ?_⟩
    have e : (if i < j then j else i) = max i j := by omega
    rw [e]
    exact hq _ _ F H Rg0 h (.refl s) (.fz (.int _))
  | d :: e :: f :: r, _, h => cases d <;> cases e <;> exact h.elim⟩
theorem opn_list : OpN K (fun xs H Q => ∃ p ys, xs = [V.ref p] ∧ (SqL K H p ys ∨ SqT K H p ys) ∧ ∀ (l : Addr), H l = none → Q (V.ref l) (upd H l (HO.lst ys))) gList := ⟨fun F H vs ds P Q s hv h hq => by
  match ds, hv, h with
  | [], _, h => exact h.elim
  | _ :: _ :: _, _, h => (first | exact h.elim | (rename_i d _ _ _; cases d <;> exact h.elim))
  | [d], hv, h =>
    obtain ⟨v, rfl, kv⟩ := hv.one
    cases d <;> first
      | exact h.elim
      | skip
    · obtain ⟨a, us, rfl, h1, d1⟩ := kv.tup1 s
      exact ⟨a, us, rfl, .inr h1, fun p hp => hq _ _ _ _ _ h (Alloc.own s hp) (.lst rfl upd_same d1)⟩
    · obtain ⟨a, us, rfl, h1, d1⟩ := kv.lst1 s
      exact ⟨a, us, rfl, .inl (SqL.of h1), fun p hp => hq _ _ _ _ _ h (Alloc.own s hp) (.lst rfl upd_same d1)⟩
    · obtain ⟨a, us, rfl, h1, d1⟩ := kv.rol1 s
      exact ⟨a, us, rfl, .inl h1, fun p hp => hq _ _ _ _ _ h (Alloc.own s hp) (.lst rfl upd_same d1)⟩⟩
end
/-! ### slices -/
def wSl (g : D → Option Int → Option Int → (T → Prop) → Prop) (oa : WO) (ol oh : Option WO) : WE := fun env P => oa env fun a e1 =>
  (match ol with
    | none => fun (k : Option Int → Ev → Prop) => k none e1
    | some o => fun k => o e1 fun b e2 => match rs e2 b with
      | some (.int i) => k (some i) e2
      | _ => False) fun lo e2 =>
  (match oh with
    | none => fun (k : Option Int → Ev → Prop) => k none e2
    | some o => fun k => o e2 fun b e3 => match rs e3 b with
      | some (.int i) => k (some i) e3
      | _ => False) fun hi e3 => match rs e3 a with
  | some x => g x lo hi fun z => P z e3
  | none => False
def cutD (xs : List D) (lo hi : Option Int) : List D := (xs.drop (HT.sIx xs.length 0 lo)).take (HT.sIx xs.length xs.length hi - HT.sIx xs.length 0 lo)
def gSl : D → Option Int → Option Int → (T → Prop) → Prop
  | .lst xs, lo, hi, k => k (.lst (cutD xs lo hi))
  | .rol xs, lo, hi, k => k (.lst (cutD xs lo hi))
  | .tup xs, lo, hi, k => k (.fz (.tup (cutD xs lo hi)))
  | .str z, lo, hi, k => z.length ≤ sizeLine ∧ k (.fz (.str (Txt.slice z lo hi)))
  | _, _, _, _ => False
def rSlAll (K : PySem.W.Frag) : V → Option Int → Option Int → Hp → VK → Prop := fun x lo hi H Q => rSlL K x lo hi H Q ∨ rSlA K x lo hi H Q ∨ C8.rSlX x lo hi H Q
section
variable {X : Cx} {K : PySem.W.Frag} {F H : Hp}
theorem IsDs.cut {vs : List V} {ds : List D} (h : IsDs K F vs ds) (lo hi : Option Int) : IsDs K F (cutV vs lo hi) (cutD ds lo hi) := by
  unfold cutV cutD
  rw [h.length]
  exact (h.drop _).take _
theorem cutD_whole {ds : List D} {lo hi : Option Int} (h : HT.sIx ds.length 0 lo = 0 ∧ HT.sIx ds.length ds.length hi = ds.length) : cutD ds lo hi = ds := by
  unfold cutD
  rw [h.1, h.2]
  simp
theorem slr_all : SlR X (rSlAll X.K) := sl_list.or (sl_tupA.or C8.sl_txt)
theorem sl_run {v : V} {x : D} {lo hi : Option Int} {P : T → Prop} {Q : VK} (s : Same F H) (hv : Pk K F H v x) (h : gSl x lo hi P)
    (hq : ∀ (z : T) (w' : V) (F' H' : Hp) (R : Rg), P z → Alloc F H F' H' R → IsT K F' H' R w' z → Q w' H') : rSlAll K v lo hi H Q := by
  cases x <;> first
    | exact h.elim
    | skip
  · rename_i z
    exact .inr (.inr ⟨z, hv.str, h.1, hq _ _ F H Rg0 h.2 (.refl s) (.fz (.str _))⟩)
  · rename_i xs
    obtain ⟨a, us, rfl, h1, d1⟩ := hv.tup1 s
    have h : P (.fz (.tup (cutD xs lo hi))) := h
    refine .inr (.inl ⟨a, us, rfl, h1, fun e => ?_, fun e p hp => ?_⟩)
    · rw [d1.length] at e
      rw [cutD_whole e] at h
      exact hq _ _ F H Rg0 h (.refl s) (.fz (match hv with | .d q => q))
    · have al := Alloc.frz (o := .tup (cutV us lo hi)) s hp
      exact hq _ _ _ _ Rg0 h al (.fz (.tup (.of upd_same) ((d1.cut lo hi).mono al.le)))
  · rename_i xs
    obtain ⟨a, us, rfl, h1, d1⟩ := hv.lst1 s
    exact .inl ⟨a, us, rfl, SqL.of h1, fun p hp => hq _ _ _ _ _ h (Alloc.own s hp) (.lst rfl upd_same (d1.cut lo hi))⟩
  · rename_i xs
    obtain ⟨a, us, rfl, h1, d1⟩ := hv.rol1 s
    exact .inl ⟨a, us, rfl, h1, fun p hp => hq _ _ _ _ _ h (Alloc.own s hp) (.lst rfl upd_same (d1.cut lo hi))⟩
end
section
variable {X : Cx} {pm : List Bool} {e l u : Expr} {oe ol ou : WO} {pos p2 : Pos}
theorem po_z (h : ZO X pm l ol) : PO X (some l) (tPart (TOz X pm ol)) := po_some h
/-- the parts of a slice -/
def TPz (X : Cx) (pm : List Bool) : Option WO → TO
  | none => tNoPart
  | some o => tPart (TOz X pm o)
theorem ze_sl {lo hi : Option Expr} {wl wh : Option WO} (he : ZO X pm e oe) (hl : PO X lo (TPz X pm wl)) (hh : PO X hi (TPz X pm wh)) : ZE X pm (.Subscript e (.Slice lo hi none p2) pos) (wSl gSl oe wl wh) :=
  pe_imp (pe_slice slr_all he hl hh) fun σ H Q ⟨pv, F, B, env, P, m, rel, hw, hq⟩ => by
    refine ⟨pv, F, B, env, _, m, rel, hw, fun a e1 h1 F1 H1 B1 v s1 r1 i1 => ?_⟩
    have fin : ∀ (lo hi : Option Int) (e3 : Ev) (F3 H3 : Hp) (B3 : Nat → Rg), Step F H (U B) F3 H3 (U B3) → Rel X.K pv F3 H3 σ e3 B3 → Same F1 F3 → (match rs e3 a with | some x => gSl x lo hi fun z => P z e3 | none => False) → rSlAll X.K v lo hi H3 Q := fun lo hi e3 F3 H3 B3 s3 r3 le h3 => by
      cases q : rs e3 a with
      | none => rw [q] at h3; exact h3.elim
      | some x =>
        rw [q] at h3
        refine sl_run r3.sub (r3.pk (i1.mono le) q) h3 fun z w' F4 H4 R4 hz al it => ?_
        obtain ⟨r4, s4, d4⟩ := r3.alloc al
        exact hq z e3 hz F4 H4 B3 R4 w' (s3.trans s4) r4 (r3.own al it)
    have snd : ∀ (lo : Option Int) (e2 : Ev) (F2 H2 : Hp) (B2 : Nat → Rg), Step F H (U B) F2 H2 (U B2) → Rel X.K pv F2 H2 σ e2 B2 → Same F1 F2 →
        ((match wh with | none => fun (k : Option Int → Ev → Prop) => k none e2 | some o => fun k => o e2 fun b e3 => match rs e3 b with | some (.int i) => k (some i) e3 | _ => False) fun hi e3 => match rs e3 a with | some x => gSl x lo hi fun z => P z e3 | none => False) →
        TPz X pm wh σ H2 fun hi H3 => rSlAll X.K v lo hi H3 Q := fun lo e2 F2 H2 B2 s2 r2 le h2 => by
      cases wh with
      | none => exact fin lo none e2 F2 H2 B2 s2 r2 le h2
      | some o =>
        refine ⟨pv, F2, B2, e2, _, m, r2, h2, fun b e3 h3 F3 H3 B3 u s3 r3 i3 => ?_⟩
        have h3 : (match rs e3 b with | some (.int i) => (match rs e3 a with | some x => gSl x lo (some i) fun z => P z e3 | none => False) | _ => False) := h3
        cases q : rs e3 b with
        | none => rw [q] at h3; exact h3.elim
        | some y =>
          rw [q] at h3
          cases y <;> first
            | exact h3.elim
            | skip
          rename_i i
          exact ⟨i, (r3.pk i3 q).int, fin lo (some i) e3 F3 H3 B3 (s2.trans s3) r3 (le.trans s3.le) h3⟩
    cases wl with
    | none => exact snd none e1 F1 H1 B1 s1 r1 (Same.refl _) h1
    | some o =>
      refine ⟨pv, F1, B1, e1, _, m, r1, h1, fun b e2 h2 F2 H2 B2 u s2 r2 i2 => ?_⟩
      cases q : rs e2 b with
      | none => simp only [q] at h2
      | some y =>
        simp only [q] at h2
        cases y <;> first
          | exact h2.elim
          | skip
        rename_i i
        exact ⟨i, (r2.pk i2 q).int, snd (some i) e2 F2 H2 B2 (s1.trans s2) r2 s2.le h2⟩
end
end Zl

namespace Zl
open PySem PySem.Spec PyProof.Rows L2

theorem IsDs.isEmpty {K : PySem.W.Frag} {F : Hp} {vs : List V} {ds : List D} (h : IsDs K F vs ds) : vs.isEmpty = ds.isEmpty := by cases h <;> rfl
/-! ### tests -/
def wB (w : WE) : WT := fun env P => w env fun t e => match t with
  | .fz (.bl b) => P b e
  | _ => False
def wNot (c : WT) : WT := fun env P => c env fun b e => P (!b) e
def wAnd (a b : WT) : WT := fun env P => a env fun k e => (k = true → b e P) ∧ (k = false → P false e)
def wOr (a b : WT) : WT := fun env P => a env fun k e => (k = true → P true e) ∧ (k = false → b e P)
def wAndV (a b : WE) : WE := fun env P => wB a env fun k e => (k = true → b e P) ∧ (k = false → P (.fz (.bl false)) e)
def wOrV (a b : WE) : WE := fun env P => wB a env fun k e => (k = true → P (.fz (.bl true)) e) ∧ (k = false → b e P)
def wNotV (a : WE) : WE := fun env P => wB a env fun k e => P (.fz (.bl (!k))) e
def wIfE (c : WT) (a b : WE) : WE := fun env P => c env fun k e => (k = true → a e P) ∧ (k = false → b e P)
def wChain (g g' : D → D → (T → Prop) → Prop) (oa ob oc : WO) : WE := fun env P => oa env fun a e1 => ob e1 fun b e2 => match rs e2 a, rs e2 b with
  | some x, some y => g x y fun z => match z with
    | .fz (.bl k) => (k = true → oc e2 fun c e3 => match rs e3 b, rs e3 c with
        | some y', some z' => g' y' z' fun u => P u e3
        | _, _ => False) ∧ (k = false → P (.fz (.bl false)) e2)
    | _ => False
  | _, _ => False
/-- truth of any value -/
def gTru (d : D) (k : Bool → Prop) : Prop := match d with
  | .non => k false
  | .bl b => k b
  | .int i => k (i != 0)
  | .str y => y.length ≤ sizeLine ∧ k ((y.length : Int) != 0)
  | .lst xs => k (!xs.isEmpty)
  | .rol xs => k (!xs.isEmpty)
  | .tup xs => k (!xs.isEmpty)
  | _ => False
def wTru (o : WO) : WT := fun env P => o env fun a e => match rs e a with
  | some d => gTru d fun b => P b e
  | none => False
section
variable {X : Cx} {pm : List Bool} {a b c e : Expr} {w wa wb : WE} {ta tb tc : WT} {oa ob oc : WO} {pos : Pos} {rest : List Expr}
/-- a value that is a bool, as the reading asks it -/
theorem tz_wB {σ H} {Q : Bool → Hp → Prop} : TTz X pm (wB w) σ H Q → TZ X pm w σ H fun x H1 => ∃ k, x = .bl k ∧ Q k H1 := fun ⟨pv, F, B, env, P, m, rel, hw, hq⟩ =>
  ⟨pv, F, B, env, _, m, rel, hw, fun t e1 h1 F1 H1 B1 R1 v s1 r1 o1 => by
    cases t with
    | fz d =>
      cases d <;> first
        | exact h1.elim
        | skip
      rename_i k
      cases o1.is with
      | fz q =>
        cases q
        exact ⟨k, rfl, hq k e1 h1 F1 H1 B1 s1.l r1⟩
    | lst _ => exact h1.elim
    | ins _ _ => exact h1.elim⟩
theorem zt_val (h : ZE X pm e w) (hw : ∀ whole : Sem Value, PySem.isTrue e X.env whole = (do
    let v ← whole
    standAt e.pos
    holding [v] (truthy v)) := by intro _; rfl) : ZT X pm e (wB w) := pt_imp (pt_val h hw) fun _ _ _ => tz_wB
theorem zt_cmp {op : CmpOp} {r : R2} {g} (hr : OpR X (compareOp op) r) (O : Op2 X.K r g) (ha : ZO X pm a oa) (hb : ZO X pm b ob) (hm : behindInMarks op b = false) : ZT X pm (.Compare a [op] [b] pos) (wB (wOp2 g oa ob)) :=
  pt_imp (pt_cmpR hr ha hb hm) fun σ H Q h => by
    have h2 := tz_wB h
    exact tz_op2 O h2
theorem tz_chain {r r' : R2} {g g'} (O : Op2 X.K r g) (O' : Op2 X.K r' g') {σ H Q} : TZ X pm (wChain g g' oa ob oc) σ H Q → tChain r r' (TOz X pm oa) (TOz X pm ob) (TOz X pm oc) σ H Q := fun ⟨pv, F, B, env, P, m, rel, hw, hq⟩ => by
  refine ⟨pv, F, B, env, _, m, rel, hw, fun a e1 h1 F1 H1 B1 v s1 r1 i1 => ⟨pv, F1, B1, e1, _, m, r1, h1, fun b e2 h2 F2 H2 B2 u s2 r2 i2 => ?_⟩⟩
  cases qa : rs e2 a with
  | none => simp only [qa] at h2
  | some x =>
    cases qb : rs e2 b with
    | none => simp only [qa, qb] at h2
    | some y =>
      simp only [qa, qb] at h2
      refine O.run F2 H2 v u x y _ _ r2.sub (r2.pk (i1.mono s2.le) qa) (r2.pk i2 qb) h2 fun z w' F3 H3 R3 hz al it => ?_
      obtain ⟨r3, s3, d3⟩ := r2.alloc al
      cases z with
      | lst _ => exact hz.elim
      | ins _ _ => exact hz.elim
      | fz d =>
        cases d <;> first
          | exact hz.elim
          | skip
        rename_i k
        cases it with
        | fz q =>
          cases q
          refine ⟨k, rfl, ?_⟩
          cases k with
          | false =>
            refine iteF ?_
            exact hq _ _ (hz.2 rfl) F3 H3 B2 Rg0 _ (((s1.trans s2).trans s3).l.r0) r3 (OwnV.fz (.bl _))
          | true =>
            refine iteT ?_
            refine ⟨pv, F3, B2, e2, _, m, r3, hz.1 rfl, fun c e3 h3 F4 H4 B4 x' s4 r4 i4 => ?_⟩
            cases qy : rs e3 b with
            | none => simp only [qy] at h3
            | some y' =>
              cases qc : rs e3 c with
              | none => simp only [qy, qc] at h3
              | some z' =>
                simp only [qy, qc] at h3
                refine O'.run F4 H4 u x' y' z' _ _ r4.sub (r4.pk (i2.mono (s3.le.trans s4.le)) qy) (r4.pk i4 qc) h3 fun z2 w2 F5 H5 R5 hz2 al2 it2 => ?_
                obtain ⟨r5, s5, d5⟩ := r4.alloc al2
                exact hq _ _ hz2 F5 H5 B4 R5 w2 ((((s1.trans s2).trans s3.l).trans s4).trans s5) r5 (r4.own al2 it2)
theorem ze_chain {op op' : CmpOp} {r r' : R2} {g g'} (hr : OpR X (compareOp op) r) (hr' : OpR X (compareOp op') r') (O : Op2 X.K r g) (O' : Op2 X.K r' g') (ha : ZO X pm a oa) (hb : ZO X pm b ob) (hc : ZO X pm c oc)
    (hm : lastMarks [op, op'] [b, c] = false := by with_unfolding_all rfl) : ZE X pm (.Compare a [op, op'] [b, c] pos) (wChain g g' oa ob oc) := pe_imp (pe_chain hr hr' ha hb hc hm) fun _ _ _ => tz_chain O O'
theorem zt_chain {op op' : CmpOp} {r r' : R2} {g g'} (hr : OpR X (compareOp op) r) (hr' : OpR X (compareOp op') r') (O : Op2 X.K r g) (O' : Op2 X.K r' g') (ha : ZO X pm a oa) (hb : ZO X pm b ob) (hc : ZO X pm c oc)
    (hm : lastMarks [op, op'] [b, c] = false := by with_unfolding_all rfl) : ZT X pm (.Compare a [op, op'] [b, c] pos) (wB (wChain g g' oa ob oc)) := pt_imp (pt_chain hr hr' ha hb hc hm) fun σ H Q h => by
  have h2 := tz_wB h
  exact tz_chain O O' h2
theorem zt_not (h : ZT X pm a ta) : ZT X pm (.UnaryOp .Not a pos) (wNot ta) := pt_imp (pt_not h) fun σ H Q ⟨pv, F, B, env, P, m, rel, hw, hq⟩ => ⟨pv, F, B, env, _, m, rel, hw, fun b e1 h1 F1 H1 B1 s1 r1 => hq _ _ h1 F1 H1 B1 s1 r1⟩
abbrev ZW (X : Cx) (pm : List Bool) (e : Expr) (w : WT) : Prop := PW X e (TTz X pm w)
theorem zw_and (h : ZT X pm a ta) (h2 : ZW X pm (.BoolOp .And (b :: rest) pos) tb) : ZW X pm (.BoolOp .And (a :: b :: rest) pos) (wAnd ta tb) := pw_imp (pw_and h h2) fun σ H Q ⟨pv, F, B, env, P, m, rel, hw, hq⟩ =>
  ⟨pv, F, B, env, _, m, rel, hw, fun k e1 h1 F1 H1 B1 s1 r1 => by
    cases k with
    | true => exact iteT ⟨pv, F1, B1, e1, _, m, r1, h1.1 rfl, fun k e2 h2 F2 H2 B2 s2 r2 => hq _ _ h2 F2 H2 B2 (s1.trans s2) r2⟩
    | false => exact iteF (hq _ _ (h1.2 rfl) F1 H1 B1 s1 r1)⟩
theorem zw_or (h : ZT X pm a ta) (h2 : ZW X pm (.BoolOp .Or (b :: rest) pos) tb) : ZW X pm (.BoolOp .Or (a :: b :: rest) pos) (wOr ta tb) := pw_imp (pw_or h h2) fun σ H Q ⟨pv, F, B, env, P, m, rel, hw, hq⟩ =>
  ⟨pv, F, B, env, _, m, rel, hw, fun k e1 h1 F1 H1 B1 s1 r1 => by
    cases k with
    | true => exact iteT (hq _ _ (h1.1 rfl) F1 H1 B1 s1 r1)
    | false => exact iteF ⟨pv, F1, B1, e1, _, m, r1, h1.2 rfl, fun k e2 h2 F2 H2 B2 s2 r2 => hq _ _ h2 F2 H2 B2 (s1.trans s2) r2⟩⟩
theorem zw_and1 (h : ZT X pm a ta) : ZW X pm (.BoolOp .And [a] pos) ta := pw_and1 h
theorem zw_or1 (h : ZT X pm a ta) : ZW X pm (.BoolOp .Or [a] pos) ta := pw_or1 h
theorem zt_w (h : ZW X pm e ta) : ZT X pm e ta := h.pt
theorem zt_tru (h : ZO X pm a oa) (hw : ∀ whole : Sem Value, PySem.isTrue a X.env whole = (do
    let v ← whole
    standAt a.pos
    holding [v] (truthy v)) := by intro _; rfl) : ZT X pm a (wTru oa) := pt_imp (pt_truth h hw) fun σ H Q ⟨pv, F, B, env, P, m, rel, hw, hq⟩ =>
  ⟨pv, F, B, env, _, m, rel, hw, fun i e1 h1 F1 H1 B1 v s1 r1 i1 => by
    cases q : rs e1 i with
    | none => simp only [q] at h1
    | some d =>
      simp only [q] at h1
      have k1 := r1.pk i1 q
      have s := r1.sub
      cases d <;> first
        | exact h1.elim
        | skip
      · exact ⟨false, by rw [k1.non]; rfl, hq _ _ h1 F1 H1 B1 s1 r1⟩
      · exact ⟨_, by rw [k1.bl]; rfl, hq _ _ h1 F1 H1 B1 s1 r1⟩
      · exact ⟨_, by rw [k1.int]; rfl, hq _ _ h1 F1 H1 B1 s1 r1⟩
      · exact ⟨_, by rw [k1.str]; exact ⟨h1.1, rfl⟩, hq _ _ h1.2 F1 H1 B1 s1 r1⟩
      · obtain ⟨p, vs, rfl, hq1, hd⟩ := k1.tup1 s
        refine ⟨_, .inr (.inl ⟨vs, hq1, rfl⟩), ?_⟩
        rw [hd.isEmpty]
        exact hq _ _ h1 F1 H1 B1 s1 r1
      · obtain ⟨p, vs, rfl, hq1, hd⟩ := k1.lst1 s
        refine ⟨_, .inl ⟨vs, SqL.of hq1, rfl⟩, ?_⟩
        rw [hd.isEmpty]
        exact hq _ _ h1 F1 H1 B1 s1 r1
      · obtain ⟨p, vs, rfl, hq1, hd⟩ := k1.rol1 s
        refine ⟨_, .inl ⟨vs, hq1, rfl⟩, ?_⟩
        rw [hd.isEmpty]
        exact hq _ _ h1 F1 H1 B1 s1 r1⟩
/-- and, or, not as values -/
theorem ze_one {op} (h : ZE X pm a w) : ZE X pm (.BoolOp op [a] pos) w := pe_one h
theorem ze_and (h : ZE X pm a wa) (h2 : ZE X pm (.BoolOp .And (b :: rest) pos) wb) : ZE X pm (.BoolOp .And (a :: b :: rest) pos) (wAndV wa wb) := pe_imp (pe_and h h2) fun σ H Q ⟨pv, F, B, env, P, m, rel, hw, hq⟩ => by
  refine tz_wB ⟨pv, F, B, env, _, m, rel, hw, fun k e1 h1 F1 H1 B1 s1 r1 => ?_⟩
  cases k with
  | true => exact iteT ⟨pv, F1, B1, e1, _, m, r1, h1.1 rfl, fun t e2 h2 F2 H2 B2 R2 v s2 r2 o2 => hq _ _ h2 F2 H2 B2 R2 v (s1.trans s2) r2 o2⟩
  | false => exact iteF (hq _ _ (h1.2 rfl) F1 H1 B1 Rg0 _ s1.r0 r1 (OwnV.fz (.bl _)))
theorem ze_or (h : ZE X pm a wa) (h2 : ZE X pm (.BoolOp .Or (b :: rest) pos) wb) : ZE X pm (.BoolOp .Or (a :: b :: rest) pos) (wOrV wa wb) := pe_imp (pe_or h h2) fun σ H Q ⟨pv, F, B, env, P, m, rel, hw, hq⟩ => by
  refine tz_wB ⟨pv, F, B, env, _, m, rel, hw, fun k e1 h1 F1 H1 B1 s1 r1 => ?_⟩
  cases k with
  | true => exact iteT (hq _ _ (h1.1 rfl) F1 H1 B1 Rg0 _ s1.r0 r1 (OwnV.fz (.bl _)))
  | false => exact iteF ⟨pv, F1, B1, e1, _, m, r1, h1.2 rfl, fun t e2 h2 F2 H2 B2 R2 v s2 r2 o2 => hq _ _ h2 F2 H2 B2 R2 v (s1.trans s2) r2 o2⟩
theorem ze_not (h : ZE X pm a wa) : ZE X pm (.UnaryOp .Not a pos) (wNotV wa) := pe_imp (pe_not h) fun σ H Q ⟨pv, F, B, env, P, m, rel, hw, hq⟩ =>
  tz_wB ⟨pv, F, B, env, _, m, rel, hw, fun k e1 h1 F1 H1 B1 s1 r1 => hq _ _ h1 F1 H1 B1 Rg0 _ s1.r0 r1 (OwnV.fz (.bl _))⟩
theorem ze_if (hc : ZT X pm c tc) (h : ZE X pm a wa) (h2 : ZE X pm b wb) : ZE X pm (.IfExp c a b pos) (wIfE tc wa wb) := pe_imp (pe_ifExp hc h h2) fun σ H Q ⟨pv, F, B, env, P, m, rel, hw, hq⟩ =>
  ⟨pv, F, B, env, _, m, rel, hw, fun k e1 h1 F1 H1 B1 s1 r1 => by
    cases k with
    | true => exact iteT ⟨pv, F1, B1, e1, _, m, r1, h1.1 rfl, fun t e2 h2 F2 H2 B2 R2 v s2 r2 o2 => hq _ _ h2 F2 H2 B2 R2 v (s1.trans s2) r2 o2⟩
    | false => exact iteF ⟨pv, F1, B1, e1, _, m, r1, h1.2 rfl, fun t e2 h2 F2 H2 B2 R2 v s2 r2 o2 => hq _ _ h2 F2 H2 B2 R2 v (s1.trans s2) r2 o2⟩⟩
end

/-! ### statements -/
structure DE where
  nx : Ev → Prop
  rt : T → Ev → Prop
  bk : Ev → Prop := fun _ => False
  ct : Ev → Prop := fun _ => False
abbrev WS := DE → Ev → Prop
/-- what follows, over data, is what follows -/
structure Cn (K : PySem.W.Frag) (pv : List (Option V)) (F H : Hp) (R : Rg) (E : DE) (D : Ends) : Prop where
  nx : ∀ env' F' H' σ' B', E.nx env' → Step F H R F' H' (U B') → Rel K pv F' H' σ' env' B' → D.nx σ' H'
  rt : ∀ t env' F' H' σ' B' R' v, E.rt t env' → Step F H R F' H' (Ru (U B') R') → Rel K pv F' H' σ' env' B' → OwnV K F' H' B' R' v t → D.rt v H'
  bk : ∀ env' F' H' σ' B', E.bk env' → Step F H R F' H' (U B') → Rel K pv F' H' σ' env' B' → D.bk σ' H'
  ct : ∀ env' F' H' σ' B', E.ct env' → Step F H R F' H' (U B') → Rel K pv F' H' σ' env' B' → D.ct σ' H'
theorem Cn.on {K : PySem.W.Frag} {pv : List (Option V)} {F H F1 H1 : Hp} {R R1 : Rg} {E : DE} {D : Ends} (c : Cn K pv F H R E D) (s : Step F H R F1 H1 R1) : Cn K pv F1 H1 R1 E D :=
  ⟨fun e F' H' σ' B' h st r => c.nx e F' H' σ' B' h (s.trans st) r, fun t e F' H' σ' B' R' v h st r o => c.rt t e F' H' σ' B' R' v h (s.trans st) r o, fun e F' H' σ' B' h st r => c.bk e F' H' σ' B' h (s.trans st) r, fun e F' H' σ' B' h st r => c.ct e F' H' σ' B' h (s.trans st) r⟩
def TSz (X : Cx) (pm : List Bool) (w : WS) : TS := fun D σ H => ∃ pv F B env E, Mask pm pv ∧ Rel X.K pv F H σ env B ∧ w E env ∧ Cn X.K pv F H (U B) E D
abbrev ZS (X : Cx) (pm : List Bool) (s : Stmt) (w : WS) : Prop := PS X s (TSz X pm w)
abbrev ZSs (X : Cx) (pm : List Bool) (s : List Stmt) (w : WS) : Prop := PSs X s (TSz X pm w)
def wNil : WS := fun E env => E.nx env
def wSeq (a b : WS) : WS := fun E env => a { E with nx := fun e => b E e } env
def wBrk : WS := fun E env => E.bk env
def wCnt : WS := fun E env => E.ct env
def wDrop (w : WE) : WS := fun E env => w env fun _ e => E.nx e
def wRet (w : WE) : WS := fun E env => w env E.rt
def wRetN : WS := fun E env => E.rt (.fz .non) env
def wIf (c : WT) (a b : WS) : WS := fun E env => c env fun k e => (k = true → a E e) ∧ (k = false → b E e)
def wSet (i : Nat) (w : WE) : WS := fun E env => w env fun t e => E.nx (st e i t)
def wNever : WS := fun _ _ => False
section
variable {X : Cx} {pm : List Bool} {s : Stmt} {rest : List Stmt} {e c : Expr} {w : WE} {wa wb : WS} {tc : WT} {pos : Pos}
theorem ps_imp {t t' : TS} (h : PS X s t) (i : ∀ D σ H, t' D σ H → t D σ H) : PS X s t' := ⟨fun p s σ H D I q => h.run p s σ H D I (i _ _ _ q)⟩
theorem pss_imp {t t' : TS} (h : PSs X rest t) (i : ∀ D σ H, t' D σ H → t D σ H) : PSs X rest t' := ⟨fun p s σ H D I q => h.run p s σ H D I (i _ _ _ q)⟩
theorem zss_nil : ZSs X pm [] wNil := pss_imp pss_nil fun D σ H ⟨pv, F, B, env, E, m, rel, hw, cn⟩ => cn.nx env F H σ B hw .refl rel
theorem zss_cons (h : ZS X pm s wa) (h2 : ZSs X pm rest wb) : ZSs X pm (s :: rest) (wSeq wa wb) := pss_imp (pss_cons h h2) fun D σ H ⟨pv, F, B, env, E, m, rel, hw, cn⟩ =>
  ⟨pv, F, B, env, { E with nx := fun e => wb E e }, m, rel, hw, ⟨fun e F' H' σ' B' h st r => ⟨pv, F', B', e, E, m, r, h, cn.on st⟩, cn.rt, cn.bk, cn.ct⟩⟩
theorem zss_one (h : ZS X pm s wa) : ZSs X pm [s] wa := pss_one h
theorem zs_pass : ZS X pm (.Pass pos) wNil := ps_imp ps_pass fun D σ H ⟨pv, F, B, env, E, m, rel, hw, cn⟩ => cn.nx env F H σ B hw .refl rel
theorem zs_break : ZS X pm (.Break pos) wBrk := ps_imp ps_break fun D σ H ⟨pv, F, B, env, E, m, rel, hw, cn⟩ => cn.bk env F H σ B hw .refl rel
theorem zs_continue : ZS X pm (.Continue pos) wCnt := ps_imp ps_continue fun D σ H ⟨pv, F, B, env, E, m, rel, hw, cn⟩ => cn.ct env F H σ B hw .refl rel
theorem zs_never : ZS X pm s wNever := ps_imp ps_never fun D σ H ⟨pv, F, B, env, E, m, rel, hw, cn⟩ => hw
theorem zs_expr (h : ZE X pm e w) (hs : swapsWith e none pos.line X.env = pure false := by rfl) : ZS X pm (.Expr e pos) (wDrop w) := ps_imp (ps_expr h hs) fun D σ H ⟨pv, F, B, env, E, m, rel, hw, cn⟩ =>
  ⟨pv, F, B, env, _, m, rel, hw, fun t e1 h1 F1 H1 B1 R1 v s1 r1 o1 => cn.nx e1 F1 H1 σ B1 h1 s1.l r1⟩
theorem zs_ret (h : ZE X pm e w) : ZS X pm (.Return (some e) pos) (wRet w) := ps_imp (ps_ret h) fun D σ H ⟨pv, F, B, env, E, m, rel, hw, cn⟩ =>
  ⟨pv, F, B, env, _, m, rel, hw, fun t e1 h1 F1 H1 B1 R1 v s1 r1 o1 => cn.rt t e1 F1 H1 σ B1 R1 v h1 s1 r1 o1⟩
theorem zs_retN : ZS X pm (.Return none pos) wRetN := ps_imp ps_retN fun D σ H ⟨pv, F, B, env, E, m, rel, hw, cn⟩ => cn.rt _ env F H σ B Rg0 .non hw Step.refl.r0 rel (OwnV.fz .non)
theorem zs_if {a b : List Stmt} (hc : ZT X pm c tc) (ha : ZSs X pm a wa) (hb : ZSs X pm b wb) : ZS X pm (.If c a b pos) (wIf tc wa wb) := ps_imp (ps_if hc ha hb) fun D σ H ⟨pv, F, B, env, E, m, rel, hw, cn⟩ =>
  ⟨pv, F, B, env, _, m, rel, hw, fun k e1 h1 F1 H1 B1 s1 r1 => by
    cases k with
    | true => exact iteT ⟨pv, F1, B1, e1, E, m, r1, h1.1 rfl, cn.on s1⟩
    | false => exact iteF ⟨pv, F1, B1, e1, E, m, r1, h1.2 rfl, cn.on s1⟩⟩
/-- a value beside the frame is stored at a name that is not kept -/
theorem Rel.store {K : PySem.W.Frag} {pv : List (Option V)} {F H : Hp} {σ : L2.St} {env : Ev} {B : Nat → Rg} {R : Rg} {v : V} {t : T} {i : Nat} (r : Rel K pv F H σ env B) (o : OwnV K F H B R v t) (m : Mask pm pv) (hi : pm[i]? ≠ some true) :
    ∃ B', Rel K pv F H (σ.set i (some v)) (st env i t) B' ∧ ∀ a, U B' a → Ru (U B) R a := by
  by_cases h : i < σ.length
  · exact ⟨_, r.put o (fun u hu => absurd ((m i).2 ⟨u, hu⟩) hi) h⟩
  · refine ⟨B, ?_, U_l⟩
    have e1 : σ.set i (some v) = σ := List.set_eq_of_length_le (by omega)
    have e2 : st env i t = env := by rw [st_eq]; exact List.set_eq_of_length_le (by rw [← r.len]; omega)
    rw [e1, e2]
    exact r
theorem zs_set {i : Nat} {x : Str} {pos' : Pos} (hN : X.N.Nodup) (hi : X.N[i]? = some x) (hx : L2.Loc X.env.scope x) (hm : pm[i]? ≠ some true) (he : ZE X pm e w) (hs : swapsWith e (some (.Name x pos')) pos.line X.env = pure false := by rfl) (hf : X.fn x = true ∨ X.env.scope.names.lookup x = some .local := by first | exact .inl rfl | exact .inr rfl | assumption) :
    ZS X pm (.Assign [.Name x pos'] e pos) (wSet i w) := ps_imp (ps_set hN hi hx he hs hf) fun D σ H ⟨pv, F, B, env, E, m, rel, hw, cn⟩ =>
  ⟨pv, F, B, env, _, m, rel, hw, fun t e1 h1 F1 H1 B1 R1 v s1 r1 o1 => by
    obtain ⟨B2, r2, s2⟩ := r1.store o1 m hm
    exact cn.nx _ F1 H1 _ B2 h1 (s1.less s2) r2⟩
end

/-! ### targets -/
abbrev WG := D → Ev → (Ev → Prop) → Prop
abbrev WGs := List D → Ev → (Ev → Prop) → Prop
/-- at most these slots were written -/
def Wr (ws : List Nat) (σ σ' : L2.St) : Prop := σ'.length = σ.length ∧ ∀ i : Nat, i ∉ ws → σ'[i]? = σ[i]?
def TGz (X : Cx) (pm : List Bool) (ws : List Nat) (w : WG) : TG := fun v σ H Q => ∃ pv F B env d P, Mask pm pv ∧ Rel X.K pv F H σ env B ∧ IsD X.K F v d ∧ w d env P ∧ ∀ env', P env' → ∀ F' H' σ' B', Wr ws σ σ' → Step F H (U B) F' H' (U B') → Rel X.K pv F' H' σ' env' B' → Q σ' H'
def TGsz (X : Cx) (pm : List Bool) (ws : List Nat) (w : WGs) : TGs := fun vs σ H Q => ∃ pv F B env ds P, Mask pm pv ∧ Rel X.K pv F H σ env B ∧ IsDs X.K F vs ds ∧ w ds env P ∧ ∀ env', P env' → ∀ F' H' σ' B', Wr ws σ σ' → Step F H (U B) F' H' (U B') → Rel X.K pv F' H' σ' env' B' → Q σ' H'
abbrev ZG (X : Cx) (pm : List Bool) (e : Expr) (ws : List Nat) (w : WG) : Prop := PG X e (TGz X pm ws w)
abbrev ZGs (X : Cx) (pm : List Bool) (es : List Expr) (ws : List Nat) (w : WGs) : Prop := PGs X es (TGsz X pm ws w)
def zgName (i : Nat) : WG := fun d env P => P (st env i (.fz d))
def zgTup (w : WGs) : WG := fun d env P => match d with
  | .tup ds => w ds env P
  | _ => False
def zgNil : WGs := fun ds env P => match ds with
  | [] => P env
  | _ => False
def zgCons (w : WG) (ws : WGs) : WGs := fun ds env P => match ds with
  | d :: r => w d env fun e => ws r e P
  | [] => False
def wAsg (w : WE) (g : WG) : WS := fun E env => w env fun t e => g t.fr e E.nx
section
variable {X : Cx} {pm : List Bool} {e : Expr} {es : List Expr} {w : WE} {g : WG} {gs : WGs} {pos : Pos}
theorem pg_imp {t t' : TG} (h : PG X e t) (i : ∀ v σ H Q, t' v σ H Q → t v σ H Q) : PG X e t' := ⟨fun p s σ H v u Q I r q => h.run p s σ H v u Q I r (i _ _ _ _ q)⟩
theorem pgs_imp {t t' : TGs} (h : PGs X es t) (i : ∀ v σ H Q, t' v σ H Q → t v σ H Q) : PGs X es t' := ⟨fun p s σ H v u Q I r q => h.run p s σ H v u Q I r (i _ _ _ _ q)⟩
theorem zg_name {i : Nat} {x : Str} (hN : X.N.Nodup) (hi : X.N[i]? = some x) (hx : L2.Loc X.env.scope x) (hm : pm[i]? ≠ some true) (hf : X.fn x = true ∨ X.env.scope.names.lookup x = some .local := by first | exact .inl rfl | exact .inr rfl | assumption) : ZG X pm (.Name x pos) [i] (zgName i) :=
  pg_imp (pg_name hN hi hx hf) fun v σ H Q ⟨pv, F, B, env, d, P, m, rel, hd, hw, hq⟩ => by
    obtain ⟨B2, r2, s2⟩ := rel.store (OwnV.fz hd) m hm
    exact hq _ hw F H _ B2 ⟨List.length_set, fun j hj => List.getElem?_set_ne fun z => hj (by rw [z]; exact List.mem_singleton_self _)⟩ ((Step.refl (R := U B)).less fun a z => (s2 a z).elim id False.elim) r2
theorem zgs_nil : ZGs X pm [] [] zgNil := pgs_imp pgs_nil fun vs σ H Q ⟨pv, F, B, env, ds, P, m, rel, hd, hw, hq⟩ => by
  cases hd with
  | nil => exact ⟨rfl, hq _ hw F H σ B ⟨rfl, fun _ _ => rfl⟩ .refl rel⟩
  | cons _ _ => exact hw.elim
theorem zgs_cons {ws1 ws2 : List Nat} (h : ZG X pm e ws1 g) (h2 : ZGs X pm es ws2 gs) (hs : (assignEach (e :: es) X.env).map (·.2) = assign e X.env :: (assignEach es X.env).map (·.2) := by rfl) : ZGs X pm (e :: es) (ws1 ++ ws2) (zgCons g gs) :=
  pgs_imp (pgs_cons h h2 hs) fun vs σ H Q ⟨pv, F, B, env, ds, P, m, rel, hd, hw, hq⟩ => by
    cases hd with
    | nil => exact hw.elim
    | cons hd hr =>
      exact ⟨_, _, rfl, pv, F, B, env, _, _, m, rel, hd, hw, fun e1 h1 F1 H1 σ1 B1 w1 s1 r1 => ⟨pv, F1, B1, e1, _, _, m, r1, hr.mono s1.le, h1, fun e2 h2 F2 H2 σ2 B2 w2 s2 r2 => hq _ h2 F2 H2 σ2 B2 ⟨w2.1.trans w1.1, fun i hi => (w2.2 i fun z => hi (List.mem_append_right _ z)).trans (w1.2 i fun z => hi (List.mem_append_left _ z))⟩ (s1.trans s2) r2⟩⟩
theorem zg_tup {n : Nat} {k : Nat} {ws : List Nat} (hc : X.calm = true) (h : ZGs X pm es ws gs) (hl : ∀ ds env P, gs ds env P → ds.length = n)
    (hn : (assignEach es X.env).length = n := by rfl) (hst : (assignEach es X.env).findIdx? (·.1) = none := by rfl) : ZG X pm (.Tuple es k pos) ws (zgTup gs) :=
  pg_imp (pg_tup hc h hn hst) fun v σ H Q ⟨pv, F, B, env, d, P, m, rel, hd, hw, hq⟩ => by
    cases d <;> first
      | exact hw.elim
      | skip
    rename_i ds
    obtain ⟨a, vs, rfl, hq1, hr⟩ := Pk.tup1 (H := F) (Same.refl _) (.d hd)
    have hw : gs ds env P := hw
    exact ⟨a, vs, rfl, Same.sqT rel.sub hq1, by rw [hr.length]; exact hl _ _ _ hw, pv, F, B, env, ds, P, m, rel, hr, hw, hq⟩
theorem zgNil_len {ds env P} (h : zgNil ds env P) : ds.length = 0 := by
  cases ds with
  | nil => rfl
  | cons _ _ => exact h.elim
theorem zgCons_len {ds env P} {n : Nat} (hl : ∀ ds env P, gs ds env P → ds.length = n) (hg : ∀ d env (P P' : Ev → Prop), g d env P → (∀ e, P e → P' e) → g d env P') (hx : ∀ d env (P : Prop), g d env (fun _ => P) → P) (h : zgCons g gs ds env P) : ds.length = n + 1 := by
  cases ds with
  | nil => exact h.elim
  | cons d r => exact congrArg (· + 1) (hx d env (r.length = n) (hg d env _ _ h fun e q => hl _ _ _ q))
theorem zs_asg {tg : Expr} {ws : List Nat} (he : ZE X pm e w) (hg : ZG X pm tg ws g) (hs : swapsWithSole [tg] e pos.line X.env = pure false := by rfl) (hw : swappedStores [tg] e X.env = pure none := by rfl)
    (h1 : (assignEach [tg] X.env).map (·.2) = [assign tg X.env] := by rfl) : ZS X pm (.Assign [tg] e pos) (wAsg w g) := ps_imp (ps_asg he hg hs hw h1) fun D σ H ⟨pv, F, B, env, E, m, rel, hw, cn⟩ =>
  ⟨pv, F, B, env, _, m, rel, hw, fun t e1 h1 F1 H1 B1 R1 v s1 r1 o1 => by
    obtain ⟨F2, r2, s2, d2⟩ := r1.freezeV o1
    exact ⟨pv, F2, B1, e1, t.fr, E.nx, m, r2, d2, h1, fun e2 h2 F3 H3 σ3 B3 _ s3 r3 => cn.nx e2 F3 H3 σ3 B3 h2 ((s1.trans s2).trans s3) r3⟩⟩
end

/-! ### x op= e -/
def wAug (i : Nat) (g : D → D → (T → Prop) → Prop) (o : WO) : WS := fun E env => match gt env i with
  | some (.fz d) => o env fun a e1 => match rs e1 a with
    | some y => g d y fun z => E.nx (st e1 i z)
    | none => False
  | _ => False
section
variable {X : Cx} {pm : List Bool} {e : Expr} {o : WO} {pos : Pos}
theorem zs_aug {i : Nat} {x : Str} {pos' : Pos} {op : Operator} {r : R2} {g} (hN : X.N.Nodup) (hi : X.N[i]? = some x) (hx : L2.Loc X.env.scope x) (hm : pm[i]? ≠ some true) (he : ZO X pm e o) (hr : PIp X op r) (O : Op2 X.K r g) (hf : X.fn x = true ∨ X.env.scope.names.lookup x = some .local := by first | exact .inl rfl | exact .inr rfl | assumption) :
    ZS X pm (.AugAssign (.Name x pos') op e pos) (wAug i g o) := ps_imp (ps_aug hN hi hx he hr hf) fun D σ H ⟨pv, F, B, env, E, m, rel, hw, cn⟩ => by
  have hw : (match gt env i with | some (.fz d) => o env fun a e1 => (match rs e1 a with | some y => g d y fun z => E.nx (st e1 i z) | none => False) | _ => False) := hw
  cases q : gt env i with
  | none => rw [q] at hw; exact hw.elim
  | some t =>
    rw [q] at hw
    cases t with
    | lst _ => exact hw.elim
    | ins _ _ => exact hw.elim
    | fz d =>
      obtain ⟨v, e1, e2⟩ := rel.at_ i _ (gt_some q)
      cases e2 with
      | fz hd =>
        refine ⟨v, e1, pv, F, B, env, _, m, rel, hw, fun a e1 h1 F1 H1 B1 u s1 r1 i1 => ?_⟩
        cases qa : rs e1 a with
        | none => simp only [qa] at h1
        | some y =>
          simp only [qa] at h1
          refine O.run F1 H1 v u d y _ _ r1.sub (.d (hd.mono s1.le)) (r1.pk i1 qa) h1 fun z w' F2 H2 R2 hz al it => ?_
          obtain ⟨r2, s2, d2⟩ := r1.alloc al
          obtain ⟨B3, r3, s3⟩ := r2.store (r1.own al it) m hm
          exact cn.nx _ F2 H2 _ B3 hz ((s1.trans s2).less s3) r3
theorem ip_of {op : Operator} {r : R2} (h : OpR X (inplaceOp op) r) : PIp X op r := h
end

/-! ### a name that stays through a statement -/
def pinL : List Bool → Nat → List Bool
  | [], 0 => [true]
  | [], n + 1 => false :: pinL [] n
  | _ :: r, 0 => true :: r
  | b :: r, n + 1 => b :: pinL r n
def pinV : List (Option V) → Nat → V → List (Option V)
  | [], 0, v => [some v]
  | [], n + 1, v => none :: pinV [] n v
  | _ :: r, 0, v => some v :: r
  | b :: r, n + 1, v => b :: pinV r n v
theorem pinV_get : ∀ (l : List (Option V)) (j : Nat) (v : V) (i : Nat) (u : V), (pinV l j v)[i]? = some (some u) → (i = j ∧ u = v) ∨ (i ≠ j ∧ l[i]? = some (some u))
  | [], 0, v, 0, u, h => by cases h; exact .inl ⟨rfl, rfl⟩
  | [], 0, v, i + 1, u, h => by simp [pinV] at h
  | [], n + 1, v, 0, u, h => by simp [pinV] at h
  | [], n + 1, v, i + 1, u, h => by
    rcases pinV_get [] n v i u (by simpa [pinV] using h) with ⟨a, b⟩ | ⟨a, b⟩
    · exact .inl ⟨by omega, b⟩
    · simp at b
  | x :: r, 0, v, 0, u, h => by cases h; exact .inl ⟨rfl, rfl⟩
  | x :: r, 0, v, i + 1, u, h => .inr ⟨by omega, by simpa [pinV] using h⟩
  | x :: r, n + 1, v, 0, u, h => .inr ⟨by omega, by simpa [pinV] using h⟩
  | x :: r, n + 1, v, i + 1, u, h => by
    rcases pinV_get r n v i u (by simpa [pinV] using h) with ⟨a, b⟩ | ⟨a, b⟩
    · exact .inl ⟨by omega, b⟩
    · exact .inr ⟨by omega, by simpa using b⟩
theorem pinV_at : ∀ (l : List (Option V)) (j : Nat) (v : V), (pinV l j v)[j]? = some (some v)
  | [], 0, v => rfl
  | [], n + 1, v => by simpa [pinV] using pinV_at [] n v
  | x :: r, 0, v => rfl
  | x :: r, n + 1, v => by simpa [pinV] using pinV_at r n v
theorem pinV_ne : ∀ (l : List (Option V)) (j : Nat) (v : V) (i : Nat) (u : V), i ≠ j → l[i]? = some (some u) → (pinV l j v)[i]? = some (some u)
  | [], _, _, _, _, _, h => by simp at h
  | x :: r, 0, v, 0, u, n, h => absurd rfl n
  | x :: r, 0, v, i + 1, u, n, h => by simpa [pinV] using h
  | x :: r, j + 1, v, 0, u, n, h => by simpa [pinV] using h
  | x :: r, j + 1, v, i + 1, u, n, h => by simpa [pinV] using pinV_ne r j v i u (by omega) (by simpa using h)
theorem pinL_at : ∀ (l : List Bool) (j : Nat), (pinL l j)[j]? = some true
  | [], 0 => rfl
  | [], n + 1 => by simpa [pinL] using pinL_at [] n
  | x :: r, 0 => rfl
  | x :: r, n + 1 => by simpa [pinL] using pinL_at r n
theorem pinL_ne : ∀ (l : List Bool) (j i : Nat), l[i]? = some true → (pinL l j)[i]? = some true
  | [], _, _, h => by simp at h
  | x :: r, 0, 0, h => rfl
  | x :: r, 0, i + 1, h => by simpa [pinL] using h
  | x :: r, j + 1, 0, h => by simpa [pinL] using h
  | x :: r, j + 1, i + 1, h => by simpa [pinL] using pinL_ne r j i (by simpa using h)
theorem pinL_get : ∀ (l : List Bool) (j i : Nat), (pinL l j)[i]? = some true → i = j ∨ l[i]? = some true
  | [], 0, 0, _ => .inl rfl
  | [], 0, i + 1, h => by simp [pinL] at h
  | [], n + 1, 0, h => by simp [pinL] at h
  | [], n + 1, i + 1, h => by
    rcases pinL_get [] n i (by simpa [pinL] using h) with z | z
    · exact .inl (by omega)
    · simp at z
  | x :: r, 0, 0, h => .inl rfl
  | x :: r, 0, i + 1, h => .inr (by simpa [pinL] using h)
  | x :: r, n + 1, 0, h => .inr (by simpa [pinL] using h)
  | x :: r, n + 1, i + 1, h => by
    rcases pinL_get r n i (by simpa [pinL] using h) with z | z
    · exact .inl (by omega)
    · exact .inr (by simpa using z)
theorem Mask.pin {pm : List Bool} {pv : List (Option V)} (m : Mask pm pv) (j : Nat) (v : V) : Mask (pinL pm j) (pinV pv j v) := fun i => by
  constructor
  · intro h
    by_cases z : i = j
    · subst z; exact ⟨v, pinV_at pv i v⟩
    · rcases pinL_get pm j i h with y | y
      · exact absurd y z
      · obtain ⟨u, hu⟩ := (m i).1 y
        exact ⟨u, pinV_ne pv j v i u z hu⟩
  · rintro ⟨u, h⟩
    rcases pinV_get pv j v i u h with ⟨a, _⟩ | ⟨_, b⟩
    · subst a; exact pinL_at pm i
    · exact pinL_ne pm j i ((m i).2 ⟨u, b⟩)
section
variable {K : PySem.W.Frag} {pv : List (Option V)} {F H : Hp} {σ : L2.St} {env : Ev} {B : Nat → Rg} {v : V} {j : Nat}
theorem Rel.pin (r : Rel K pv F H σ env B) (e : σ[j]? = some (some v)) : Rel K (pinV pv j v) F H σ env B := ⟨r.sub, r.len, r.at_, r.dis, r.off, r.live, fun i u h => by
  rcases pinV_get pv j v i u h with ⟨a, b⟩ | ⟨_, b⟩
  · subst a; rw [b]; exact e
  · exact r.fix i u b⟩
theorem Rel.unpin (hk : ∀ (i : Nat) (u : V), pv[i]? = some (some u) → (pinV pv j v)[i]? = some (some u)) (r : Rel K (pinV pv j v) F H σ env B) : Rel K pv F H σ env B := ⟨r.sub, r.len, r.at_, r.dis, r.off, r.live, fun i u h => r.fix i u (hk i u h)⟩
end
/-- the name j is set, and no step of the statement sets it -/
def wPin (j : Nat) (w : WS) : WS := fun E env => (gt env j).isSome = true ∧ w E env
theorem zs_pin {X : Cx} {pm : List Bool} {s : Stmt} {w : WS} (j : Nat) (h : ZS X (pinL pm j) s w) : ZS X pm s (wPin j w) := ps_imp h fun D σ H ⟨pv, F, B, env, E, m, rel, hw, cn⟩ => by
  obtain ⟨hs, hw⟩ := hw
  obtain ⟨t, q⟩ := Option.isSome_iff_exists.mp hs
  obtain ⟨v, e1, e2⟩ := rel.at_ j t (gt_some q)
  have hk : ∀ (i : Nat) (u : V), pv[i]? = some (some u) → (pinV pv j v)[i]? = some (some u) := fun i u hu => by
    by_cases z : i = j
    · subst z
      have := rel.fix i u hu
      rw [e1] at this; cases this
      exact pinV_at pv i v
    · exact pinV_ne pv j v i u z hu
  exact ⟨pinV pv j v, F, B, env, E, m.pin j v, rel.pin e1, hw, ⟨fun e F' H' σ' B' h st r => cn.nx e F' H' σ' B' h st (r.unpin hk), fun t e F' H' σ' B' R' v h st r o => cn.rt t e F' H' σ' B' R' v h st (r.unpin hk) o, fun e F' H' σ' B' h st r => cn.bk e F' H' σ' B' h st (r.unpin hk), fun e F' H' σ' B' h st r => cn.ct e F' H' σ' B' h st (r.unpin hk)⟩⟩

/-! ### loops -/
/-- what is walked: the items, and what must stay true of the names at each turn -/
abbrev WI := Ev → (List D → (Ev → Prop) → Ev → Prop) → Prop
structure Feeds (K : PySem.W.Frag) (pv : List (Option V)) (F1 : Hp) (J : It) (items : List D) (chk : Ev → Prop) : Prop where
  go : ∀ i d F H σ env B, Rel K pv F H σ env B → Same F1 F → chk env → items[i]? = some d → J.go i H
  yld : ∀ i d F H σ env B x H', Rel K pv F H σ env B → Same F1 F → chk env → items[i]? = some d → J.yld i H x H' → ∃ F', Alloc F H F' H' Rg0 ∧ IsD K F' x d
  stop : ∀ i F H σ env B, Rel K pv F H σ env B → Same F1 F → chk env → items.length ≤ i → J.stop i H
def TIz (X : Cx) (pm : List Bool) (w : WI) : TI := fun σ H R => ∃ pv F B env P, Mask pm pv ∧ Rel X.K pv F H σ env B ∧ w env P ∧
  ∀ items chk env', P items chk env' → ∀ F' H' B' J, Step F H (U B) F' H' (U B') → Rel X.K pv F' H' σ env' B' → Feeds X.K pv F' J items chk → R J H'
abbrev ZI (X : Cx) (pm : List Bool) (tg e : Expr) (w : WI) : Prop := PI X tg e (TIz X pm w)
def wForL (g : WG) (wb : WS) (chk : Ev → Prop) : List D → DE → Ev → Prop
  | [], E, env => chk env ∧ E.nx env
  | d :: ds, E, env => chk env ∧ g d env fun e1 => wb { nx := fun e => wForL g wb chk ds E e, rt := E.rt, bk := E.nx, ct := fun e => wForL g wb chk ds E e } e1
def wFor (wi : WI) (g : WG) (wb : WS) : WS := fun E env => wi env fun items chk e1 => wForL g wb chk items E e1
theorem wForL_chk {g : WG} {wb : WS} {chk : Ev → Prop} {items : List D} {E : DE} {env : Ev} (h : wForL g wb chk items E env) : chk env := by
  cases items <;> exact h.1
section
variable {X : Cx} {pm : List Bool} {tg iter : Expr} {body : List Stmt} {wi : WI} {g : WG} {wb : WS} {pos : Pos}
theorem zs_for {ws : List Nat} (hp : PassesOwn (model X.prog X.w) X.A X.env X.xe) (hc : X.calm = true) (hi : ZI X pm tg iter wi) (hg : ZG X pm tg ws g) (hb : ZSs X pm body wb) (hs : ∀ x, foldedSetIterable iter X.env x = pure x := by intro _; rfl) :
    ZS X pm (.For tg iter body [] pos) (wFor wi g wb) := ps_imp (ps_for hp hc hi hg hb hs) fun D σ H ⟨pv, F, B, env, E, m, rel, hw, cn⟩ => by
  refine ⟨pv, F, B, env, _, m, rel, hw, fun items chk e1 h1 F1 H1 B1 J s1 r1 fd => ?_⟩
  refine ⟨fun i k σ' H' => k = items.length - i ∧ i ≤ items.length ∧ ∃ F' B' env', Step F H (U B) F' H' (U B') ∧ Same F1 F' ∧ Rel X.K pv F' H' σ' env' B' ∧ wForL g wb chk (items.drop i) E env',
    ⟨_, rfl, Nat.zero_le _, F1, B1, e1, s1, Same.refl _, r1, h1⟩, fun i k σ' H' ⟨ek, hi, F', B', env', s', le', r', h'⟩ => ?_⟩
  by_cases hl : i < items.length
  · have ed : items.drop i = items[i] :: items.drop (i + 1) := List.drop_eq_getElem_cons hl
    have hx : items[i]? = some items[i] := List.getElem?_eq_getElem hl
    rw [ed] at h'
    obtain ⟨hc', h'⟩ := h'
    refine .inr ⟨fd.go i _ F' H' σ' env' B' r' le' hc' hx, fun σ2 H2 => ∃ F2 B2 env2, Step F H (U B) F2 H2 (U B2) ∧ Same F1 F2 ∧ Rel X.K pv F2 H2 σ2 env2 B2 ∧ wForL g wb chk (items.drop (i + 1)) E env2, fun σ2 H2 q => ⟨items.length - (i + 1), by omega, rfl, by omega, q⟩, fun x H2 y => ?_⟩
    obtain ⟨F2, al, hd⟩ := fd.yld i _ F' H' σ' env' B' x H2 r' le' hc' hx y
    obtain ⟨r2, s2, _⟩ := r'.alloc al
    refine ⟨pv, F2, B', env', _, _, m, r2, hd, h', fun e3 h3 F3 H3 σ3 B3 _ s3 r3 => ⟨pv, F3, B3, e3, _, m, r3, h3, ?_⟩⟩
    have sA := (s'.trans s2.l).trans s3
    have le3 : Same F1 F3 := (le'.trans s2.le).trans s3.le
    exact ⟨fun e4 F4 H4 σ4 B4 h4 s4 r4 => ⟨F4, B4, e4, sA.trans s4, le3.trans s4.le, r4, h4⟩, fun t e4 F4 H4 σ4 B4 R4 v h4 s4 r4 o4 => cn.rt t e4 F4 H4 σ4 B4 R4 v h4 (sA.trans s4) r4 o4,
      fun e4 F4 H4 σ4 B4 h4 s4 r4 => cn.nx e4 F4 H4 σ4 B4 h4 (sA.trans s4) r4, fun e4 F4 H4 σ4 B4 h4 s4 r4 => ⟨F4, B4, e4, sA.trans s4, le3.trans s4.le, r4, h4⟩⟩
  · have ei : i = items.length := by omega
    subst ei
    rw [List.drop_length] at h'
    obtain ⟨hc', h'⟩ := h'
    exact .inl ⟨fd.stop _ F' H' σ' env' B' r' le' hc' (Nat.le_refl _), cn.nx env' F' H' σ' B' h' s' r'⟩
end
/-! ### while -/
def wWh (c : WT) (wb : WS) : Nat → DE → Ev → Prop
  | 0, _, _ => False
  | n + 1, E, env => c env fun k e => (k = true → wb { nx := fun e' => wWh c wb n E e', rt := E.rt, bk := E.nx, ct := fun e' => wWh c wb n E e' } e) ∧ (k = false → E.nx e)
def wWhile (c : WT) (wb : WS) : WS := fun E env => ∃ n, wWh c wb n E env
theorem zs_while {X : Cx} {pm : List Bool} {c : Expr} {body : List Stmt} {tc : WT} {wb : WS} {pos : Pos} (hp : PassesOwn (model X.prog X.w) X.A X.env X.xe) (hc : ZT X pm c tc) (hb : ZSs X pm body wb) : ZS X pm (.While c body [] pos) (wWhile tc wb) :=
  ps_imp (ps_while hp hc hb) fun D σ H ⟨pv, F, B, env, E, m, rel, ⟨n, hw⟩, cn⟩ => by
    refine ⟨fun k σ' H' => ∃ F' B' env', Step F H (U B) F' H' (U B') ∧ Rel X.K pv F' H' σ' env' B' ∧ wWh tc wb k E env', ⟨n, F, B, env, .refl, rel, hw⟩, fun k σ' H' ⟨F', B', env', s', r', h'⟩ => ?_⟩
    cases k with
    | zero => exact h'.elim
    | succ k =>
      refine ⟨pv, F', B', env', _, m, r', h', fun b e1 h1 F1 H1 B1 s1 r1 => ?_⟩
      cases b with
      | false => exact iteF (cn.nx e1 F1 H1 σ' B1 (h1.2 rfl) (s'.trans s1) r1)
      | true =>
        refine iteT ⟨fun σ2 H2 => ∃ F2 B2 env2, Step F H (U B) F2 H2 (U B2) ∧ Rel X.K pv F2 H2 σ2 env2 B2 ∧ wWh tc wb k E env2, fun σ2 H2 q => ⟨k, Nat.lt_succ_self _, q⟩, pv, F1, B1, e1, _, m, r1, h1.1 rfl, ?_⟩
        have sA := s'.trans s1
        exact ⟨fun e4 F4 H4 σ4 B4 h4 s4 r4 => ⟨F4, B4, e4, sA.trans s4, r4, h4⟩, fun t e4 F4 H4 σ4 B4 R4 v h4 s4 r4 o4 => cn.rt t e4 F4 H4 σ4 B4 R4 v h4 (sA.trans s4) r4 o4,
          fun e4 F4 H4 σ4 B4 h4 s4 r4 => cn.nx e4 F4 H4 σ4 B4 h4 (sA.trans s4) r4, fun e4 F4 H4 σ4 B4 h4 s4 r4 => ⟨F4, B4, e4, sA.trans s4, r4, h4⟩⟩
end Zl

namespace Zl
open PySem PySem.Spec PyProof.Rows L2

theorem pi_or {X : Cx} {tg e : Expr} {w1 w2 : TI} (h1 : PI X tg e w1) (h2 : PI X tg e w2) : PI X tg e (fun σ H R => w1 σ H R ∨ w2 σ H R) := ⟨fun p s σ H R I h => h.elim (h1.run p s σ H R I) (h2.run p s σ H R I)⟩
theorem pi_imp {X : Cx} {tg e : Expr} {w1 w2 : TI} (h : PI X tg e w1) (i : ∀ σ H R, w2 σ H R → w1 σ H R) : PI X tg e w2 := ⟨fun p s σ H R I q => h.run p s σ H R I (i _ _ _ q)⟩
/-- a list, a tuple or a text, walked -/
def iAny (K : PySem.W.Frag) (tl : TE) : TI := fun σ H R => tl σ H fun v H1 => (∃ a0, v = .ref a0 ∧ (∃ xs, SqL K H1 a0 xs) ∧ R (Itl K a0) H1) ∨ (∃ a0, v = .ref a0 ∧ (∃ xs, SqT K H1 a0 xs) ∧ R (Itt K a0) H1) ∨ (∃ x, v = .str x ∧ R (Its x) H1)
theorem pi_any {X : Cx} {tg l : Expr} {tl : TE} (hl : PE X l tl) : PI X tg l (iAny X.K tl) := by
  refine ⟨fun pins s σ H R I h => ?_⟩
  refine thn (hl.run pins s σ H _ I h) fun v s1 ⟨x, H1, I1, r1, q1⟩ => ?_
  rcases q1 with ⟨a, e, ⟨xs, hq⟩, q⟩ | ⟨a, e, ⟨xs, hq⟩, q⟩ | ⟨x, ex, q⟩
  · subst e
    cases r1
    obtain ⟨its, rv, p, hz⟩ := I1.list hq
    refine wpAny_pyIter_list p.isList ?_
    refine ⟨s1.heap.objs.size, [s1.heap.objs.size], _, _, H1, rfl, I1.kept (t' := s1.toks) fun b o e => Heap.get?_push_of_some _ e, turn_list a _, ⟨_, Heap.get?_push_size _ rfl, rfl, rfl⟩, fun b hb => ?_, q⟩
    have e : b = s1.heap.objs.size := by simpa using hb
    subst e
    exact I1.fpOk (Nat.le_refl _) (I1.hok.fresh (Nat.le_refl _))
  · subst e
    cases r1
    obtain ⟨its, rv, p, hz⟩ := I1.tuple hq
    refine wpAny_pyIter_tuple (show s1.heap.IsTuple a its.toArray from p) ?_
    refine ⟨s1.heap.objs.size, [s1.heap.objs.size], _, _, H1, rfl, I1.kept (t' := s1.toks) fun b o e => Heap.get?_push_of_some _ e, turn_tuple a _, ⟨_, Heap.get?_push_size _ rfl, rfl, rfl⟩, fun b hb => ?_, q⟩
    have e : b = s1.heap.objs.size := by simpa using hb
    subst e
    exact I1.fpOk (Nat.le_refl _) (I1.hok.fresh (Nat.le_refl _))
  · subst ex
    obtain ⟨t, rfl⟩ := r1
    cases ha : x.cps.all (· < 128)
    · exact wpAny_pyIter_wide ha (pi_one (tk := s1.toks) I1 _ (turn_str _ x t "str_iterator" (.inr rfl)) ⟨_, Heap.get?_push_size _ rfl, rfl, rfl⟩ q)
    · exact wpAny_pyIter_ascii ha (pi_one (tk := s1.toks) I1 _ (turn_str _ x t "str_ascii_iterator" (.inl rfl)) ⟨_, Heap.get?_push_size _ rfl, rfl, rfl⟩ q)
/-- the item is data now; a name must stay -/
def chkD (a : It2) (d : D) : Ev → Prop := fun e => rs e a = some d
/-- what is walked: a list, a tuple, a text -/
def itemsOf : D → Option (List D)
  | .lst ds => some ds
  | .rol ds => some ds
  | .tup ds => some ds
  | .str z => some (z.cps.toList.map fun c => .str ⟨#[c]⟩)
  | _ => none
def wiV (o : WO) : WI := fun env P => o env fun a e => match rs e a with
  | some d => match itemsOf d with
    | some ds => P ds (chkD a d) e
    | none => False
  | none => False
/-- the item's name is kept -/
def Kept (pm : List Bool) : It2 → Prop
  | .inl _ => True
  | .inr j => pm[j]? = some true
section
variable {X : Cx} {K : PySem.W.Frag} {pv : List (Option V)} {pm : List Bool} {F1 H1 : Hp} {σ : L2.St} {v : V} {a : It2} {d : D}
/-- an item that is kept is there at each turn -/
theorem kept_pk (m : Mask pm pv) (hk : Kept pm a) {env1 : Ev} {B1 : Nat → Rg} (r1 : Rel K pv F1 H1 σ env1 B1) (h : ItemOk K F1 σ v a) {F H : Hp} {σ' : L2.St} {env : Ev} {B : Nat → Rg} (r : Rel K pv F H σ' env B) (s : Same F1 F) (c : chkD a d env) : Pk K F H v d := by
  have c : rs env a = some d := c
  cases h with
  | d h => exact r.pk (.d (h.mono s)) c
  | @s j h =>
    obtain ⟨u, hu⟩ := (m j).1 hk
    have e1 := r1.fix j u hu
    rw [h] at e1; cases e1
    exact r.pk (.s (r.fix j v hu)) c
theorem feeds_lst {a0 : Addr} {ds : List D} (hp : ∀ (F H : Hp) (σ' : L2.St) (env : Ev) (B : Nat → Rg), Rel K pv F H σ' env B → Same F1 F → chkD a d env → ∃ vs, SqL K H a0 vs ∧ IsDs K F vs ds) : Feeds K pv F1 (Itl K a0) ds (chkD a d) where
  go := fun i x F H σ' env B r s c hx => by
    obtain ⟨vs, h1, h2⟩ := hp F H σ' env B r s c
    obtain ⟨y, e, _⟩ := h2.get hx
    exact ⟨vs, y, h1, e⟩
  yld := fun i x F H σ' env B y H' r s c hx ⟨e, h⟩ => by
    obtain ⟨vs, h1, h2⟩ := hp F H σ' env B r s c
    obtain ⟨z, e1, e2⟩ := h2.get hx
    have := h vs h1
    rw [e1] at this; cases this
    exact ⟨F, by rw [e]; exact .refl r.sub, e2⟩
  stop := fun i F H σ' env B r s c hx => by
    obtain ⟨vs, h1, h2⟩ := hp F H σ' env B r s c
    exact ⟨vs, h1, by rw [h2.length]; exact hx⟩
theorem feeds_tup {a0 : Addr} {ds : List D} (hp : ∀ (F H : Hp) (σ' : L2.St) (env : Ev) (B : Nat → Rg), Rel K pv F H σ' env B → Same F1 F → chkD a d env → ∃ vs, SqT K H a0 vs ∧ IsDs K F vs ds) : Feeds K pv F1 (Itt K a0) ds (chkD a d) where
  go := fun i x F H σ' env B r s c hx => by
    obtain ⟨vs, h1, h2⟩ := hp F H σ' env B r s c
    obtain ⟨y, e, _⟩ := h2.get hx
    exact ⟨vs, y, h1, e⟩
  yld := fun i x F H σ' env B y H' r s c hx ⟨e, h⟩ => by
    obtain ⟨vs, h1, h2⟩ := hp F H σ' env B r s c
    obtain ⟨z, e1, e2⟩ := h2.get hx
    have := h vs h1
    rw [e1] at this; cases this
    exact ⟨F, by rw [e]; exact .refl r.sub, e2⟩
  stop := fun i F H σ' env B r s c hx => by
    obtain ⟨vs, h1, h2⟩ := hp F H σ' env B r s c
    exact ⟨vs, h1, by rw [h2.length]; exact hx⟩
def enumD (ds : List D) : List D := ds.mapIdx fun i d => .tup [.int i, d]
theorem feeds_enum {a0 : Addr} {ds : List D} (hp : ∀ (F H : Hp) (σ' : L2.St) (env : Ev) (B : Nat → Rg), Rel K pv F H σ' env B → Same F1 F → chkD a d env → ∃ vs, SqL K H a0 vs ∧ IsDs K F vs ds) : Feeds K pv F1 (Ite K a0) (enumD ds) (chkD a d) where
  go := fun i x F H σ' env B r s c hx => by
    obtain ⟨vs, h1, h2⟩ := hp F H σ' env B r s c
    unfold enumD at hx
    rw [List.getElem?_mapIdx] at hx
    cases q : ds[i]? with
    | none => rw [q] at hx; cases hx
    | some z =>
      obtain ⟨y, e, _⟩ := h2.get q
      exact ⟨vs, y, h1, e⟩
  yld := fun i x F H σ' env B y H' r s c hx ⟨T, x', e1, e2, e3, h⟩ => by
    subst e1 e3
    obtain ⟨vs, h1, h2⟩ := hp F H σ' env B r s c
    unfold enumD at hx
    rw [List.getElem?_mapIdx] at hx
    cases q : ds[i]? with
    | none => rw [q] at hx; cases hx
    | some z =>
      rw [q] at hx
      cases hx
      obtain ⟨w', f1, f2⟩ := h2.get q
      have := h vs h1
      rw [f1] at this; cases this
      have al := Alloc.frz (o := .tup [.int (i : Nat), x']) r.sub e2
      exact ⟨_, al, .tup (.of upd_same) (.cons (.int _) (.cons (f2.mono al.le) .nil))⟩
  stop := fun i F H σ' env B r s c hx => by
    obtain ⟨vs, h1, h2⟩ := hp F H σ' env B r s c
    unfold enumD at hx
    rw [List.length_mapIdx] at hx
    exact ⟨vs, h1, by rw [h2.length]; exact hx⟩
theorem iter_key {R : It → Hp → Prop} {e1 : Ev} {B1 : Nat → Rg} {ds : List D} (m : Mask pm pv) (k : Kept pm a) (q : rs e1 a = some d) (qi : itemsOf d = some ds) (r1 : Rel K pv F1 H1 σ e1 B1) (i1 : ItemOk K F1 σ v a)
    (hq : ∀ J, Feeds K pv F1 J ds (chkD a d) → R J H1) :
    (∃ a0, v = .ref a0 ∧ (∃ xs, SqL K H1 a0 xs) ∧ R (Itl K a0) H1) ∨ (∃ a0, v = .ref a0 ∧ (∃ xs, SqT K H1 a0 xs) ∧ R (Itt K a0) H1) ∨ (∃ x, v = .str x ∧ R (Its x) H1) := by
  have src := fun {F H : Hp} {σ' : L2.St} {env : Ev} {B : Nat → Rg} (r : Rel K pv F H σ' env B) (s : Same F1 F) (c : chkD a d env) => kept_pk m k r1 i1 r s c
  have k0 := r1.pk i1 q
  cases d <;> cases qi
  · rename_i z
    refine .inr (.inr ⟨z, k0.str, hq _ ⟨fun i x F H σ' env B r s c hx => ?_, fun i x F H σ' env B y H' r s c hx h => ?_, fun i F H σ' env B r s c hx => ?_⟩⟩)
    · have := (List.getElem?_eq_some_iff.mp hx).1
      rw [List.length_map] at this
      show i < z.cps.size
      simpa using this
    · obtain ⟨e1, c1, e2, e3⟩ := h
      subst e1 e3
      rw [List.getElem?_map] at hx
      have e4 : z.cps.toList[i]? = some c1 := by rw [Array.getElem?_toList]; exact e2
      rw [e4] at hx
      cases hx
      exact ⟨F, .refl r.sub, .str _⟩
    · rw [List.length_map] at hx
      show z.cps.size ≤ i
      simpa using hx
  · obtain ⟨a0, vs, e0, h1, d1⟩ := k0.tup1 r1.sub
    subst e0
    refine .inr (.inl ⟨a0, rfl, ⟨vs, h1⟩, hq _ (feeds_tup fun F H σ' env B r s c => ?_)⟩)
    obtain ⟨a1, us, e1, h2, d2⟩ := (src r s c).tup1 r.sub
    cases e1
    exact ⟨us, h2, d2⟩
  · obtain ⟨a0, vs, e0, h1, d1⟩ := k0.lst1 r1.sub
    subst e0
    refine .inl ⟨a0, rfl, ⟨vs, SqL.of h1⟩, hq _ (feeds_lst fun F H σ' env B r s c => ?_)⟩
    obtain ⟨a1, us, e1, h2, d2⟩ := (src r s c).lst1 r.sub
    cases e1
    exact ⟨us, SqL.of h2, d2⟩
  · obtain ⟨a0, vs, e0, h1, d1⟩ := k0.rol1 r1.sub
    subst e0
    refine .inl ⟨a0, rfl, ⟨vs, h1⟩, hq _ (feeds_lst fun F H σ' env B r s c => ?_)⟩
    obtain ⟨a1, us, e1, h2, d2⟩ := (src r s c).rol1 r.sub
    cases e1
    exact ⟨us, h2, d2⟩
theorem zi_val {tg e : Expr} {w : WE} (he : ZE X pm e w) : ZI X pm tg e (wiV (oV w)) :=
  pi_imp (pi_any he) fun σ H R ⟨pv, F, B, env, P, m, rel, hw, hq⟩ => by
    refine ⟨pv, F, B, env, _, m, rel, hw, fun t e1 h1 F1 H1 B1 R1 v s1 r1 o1 => ?_⟩
    obtain ⟨F2, r2, s2, d2⟩ := r1.freezeV o1
    have h1 : (match itemsOf t.fr with | some ds => P ds (chkD (.inl t.fr) t.fr) e1 | none => False) := h1
    cases q : itemsOf t.fr with
    | none => rw [q] at h1; exact h1.elim
    | some ds =>
      rw [q] at h1
      exact iter_key (a := .inl t.fr) m trivial rfl q r2 (.d d2) fun J fd => hq ds _ e1 h1 F2 H1 B1 J (s1.trans s2) r2 fd
theorem zi_slot {tg : Expr} (j : Nat) {x : Str} {pos : Pos} (hj : pm[j]? = some true) (hN : X.N[j]? = some x := by rfl) (hv : Vis X.env.scope x := by first | exact Or.inl rfl | exact Or.inr (Or.inl rfl) | exact Or.inr (Or.inr rfl)) (hd : (x == ("__debug__" : Str)) = false := by decide)
    (hcd : (x == ("__classdict__" : Str)) = false := by decide) : ZI X pm tg (.Name x pos) (wiV (oS j)) :=
  pi_imp (pi_any (pe_var hN hv hd hcd)) fun σ H R ⟨pv, F, B, env, P, m, rel, hw, hq⟩ => by
    have hw : (match gt env j with | some _ => (match rs env (.inr j) with | some d => (match itemsOf d with | some ds => P ds (chkD (.inr j) d) env | none => False) | none => False) | none => False) := hw
    cases g : gt env j with
    | none => rw [g] at hw; exact hw.elim
    | some t =>
      rw [g] at hw
      have er : rs env (.inr j) = some t.fr := by show (match gt env j with | some t => some t.fr | none => none) = _; rw [g]
      rw [er] at hw
      have hw : (match itemsOf t.fr with | some ds => P ds (chkD (.inr j) t.fr) env | none => False) := hw
      obtain ⟨v, e1, e2⟩ := rel.at_ j t (gt_some g)
      cases q : itemsOf t.fr with
      | none => rw [q] at hw; exact hw.elim
      | some ds =>
        rw [q] at hw
        exact ⟨v, e1, iter_key (a := .inr j) m hj er q rel (.s e1) fun J fd => hq ds _ env hw F H B J .refl rel fd⟩
/-! ### range -/
def wiR1 (wa : WA) : WI := fun env P => wa env fun as e => match rss e as with
  | some [.int n] => (-(2 ^ 62) ≤ n ∧ n < 2 ^ 62) ∧ P ((List.range n.toNat).map fun i : Nat => D.int i) (fun _ => True) e
  | _ => False
def wiR2 (wa : WA) : WI := fun env P => wa env fun as e => match rss e as with
  | some [.int l, .int n] => (-(2 ^ 62) ≤ l ∧ l < 2 ^ 62 ∧ -(2 ^ 62) ≤ n ∧ n < 2 ^ 62) ∧ P ((List.range (n - l).toNat).map fun i : Nat => D.int (l + i)) (fun _ => True) e
  | _ => False
theorem feeds_rng {lo : Int} {n : Nat} : Feeds K pv F1 (Itr lo n) ((List.range n).map fun i : Nat => D.int (lo + i)) (fun _ => True) where
  go := fun i x F H σ' env B r s c hx => by
    have := (List.getElem?_eq_some_iff.mp hx).1
    rw [List.length_map, List.length_range] at this
    exact this
  yld := fun i x F H σ' env B y H' r s c hx ⟨e, h⟩ => by
    subst h
    have hl := (List.getElem?_eq_some_iff.mp hx).1
    rw [List.length_map, List.length_range] at hl
    rw [List.getElem?_map, List.getElem?_range hl] at hx
    cases hx
    exact ⟨F, by rw [e]; exact .refl r.sub, .int _⟩
  stop := fun i F H σ' env B r s c hx => by
    rw [List.length_map, List.length_range] at hx
    exact hx
theorem zi_rng1 {tg a : Expr} {wa : WA} {p pos : Pos} (hg : Gl X "range") (hm : X.mg "range" = none) (ha : ZA X pm [a] wa) (hs : starEach [a] X.env = [(false, eval a X.env)] := by rfl) : ZI X pm tg (.Call (.Name "range" p) [a] [] pos) (wiR1 wa) :=
  pi_imp (pi_range1 hg hm ha hs) fun σ H R ⟨pv, F, B, env, P, m, rel, hw, hq⟩ => ⟨pv, F, B, env, _, m, rel, hw, fun as e1 h1 F1 H1 B1 vs s1 r1 i1 => by
    cases q : rss e1 as with
    | none => simp only [q] at h1
    | some ds =>
      simp only [q] at h1
      match ds, q, h1 with
      | [.int n], q, h1 =>
        obtain ⟨v, e, k⟩ := (r1.pks i1 q).one
        refine ⟨n, by rw [e, k.int], h1.1.1, h1.1.2, hq _ _ e1 h1.2 F1 H1 B1 _ s1 r1 ?_⟩
        have e2 : ((List.range n.toNat).map fun i : Nat => D.int i) = ((List.range n.toNat).map fun i : Nat => D.int (0 + i)) := by
          apply List.map_congr_left; intro i _; rw [Int.zero_add]
        rw [e2]
        exact feeds_rng⟩
theorem zi_rng2 {tg a b : Expr} {wa : WA} {p pos : Pos} (hg : Gl X "range") (hm : X.mg "range" = none) (ha : ZA X pm [a, b] wa) (hs : starEach [a, b] X.env = [(false, eval a X.env), (false, eval b X.env)] := by rfl) (hs2 : starEach [b] X.env = [(false, eval b X.env)] := by rfl) : ZI X pm tg (.Call (.Name "range" p) [a, b] [] pos) (wiR2 wa) :=
  pi_imp (pi_range2 hg hm ha hs hs2) fun σ H R ⟨pv, F, B, env, P, m, rel, hw, hq⟩ => ⟨pv, F, B, env, _, m, rel, hw, fun as e1 h1 F1 H1 B1 vs s1 r1 i1 => by
    cases q : rss e1 as with
    | none => simp only [q] at h1
    | some ds =>
      simp only [q] at h1
      match ds, q, h1 with
      | [.int l, .int n], q, h1 =>
        obtain ⟨v, u, e, k1, k2⟩ := (r1.pks i1 q).two
        exact ⟨l, n, by rw [e, k1.int, k2.int], h1.1, hq _ _ e1 h1.2 F1 H1 B1 _ s1 r1 feeds_rng⟩⟩
/-! ### enumerate(list) -/
def wiEn (w : WE) : WI := fun env P => w env fun t e => match t.fr with
  | .lst ds => P (enumD ds) (fun _ => True) e
  | .rol ds => P (enumD ds) (fun _ => True) e
  | _ => False
def wiEnS (j : Nat) : WI := fun env P => match rs env (.inr j) with
  | some (.lst ds) => P (enumD ds) (chkD (.inr j) (.lst ds)) env
  | some (.rol ds) => P (enumD ds) (chkD (.inr j) (.rol ds)) env
  | _ => False
theorem pa_one {e : Expr} {t : TE} (h : PE X e t) (hs : starEach [e] X.env = (false, eval e X.env) :: starEach [] X.env := by rfl) : PA X [e] (tCons t tNil) := pa_cons h pa_nil hs
theorem Feeds.chk0 {F : Hp} {J : It} {items : List D} {c : Ev → Prop} (h : ∀ e, c e) (f : Feeds K pv F J items c) : Feeds K pv F J items (fun _ => True) :=
  ⟨fun i d F H σ env B r s _ => f.go i d F H σ env B r s (h env), fun i d F H σ env B x H' r s _ => f.yld i d F H σ env B x H' r s (h env), fun i F H σ env B r s _ => f.stop i F H σ env B r s (h env)⟩
theorem zi_enum {e : Expr} {w : WE} {p pos tpos : Pos} {elts : List Expr} {kk : Nat} (hg : Gl X "enumerate") (hm : X.mg "enumerate" = none) (he : ZE X pm e w) (hs : starEach [e] X.env = [(false, eval e X.env)] := by rfl) : ZI X pm (.Tuple elts kk tpos) (.Call (.Name "enumerate" p) [e] [] pos) (wiEn w) :=
  pi_imp (pi_enum hg hm (pa_one he hs) hs) fun σ H R ⟨pv, F, B, env, P, m, rel, hw, hq⟩ => ⟨pv, F, B, env, _, m, rel, hw, fun t e1 h1 F1 H1 B1 R1 v s1 r1 o1 => by
    obtain ⟨F2, r2, s2, d2⟩ := r1.freezeV o1
    have go : ∀ ds, (t.fr = .lst ds ∨ t.fr = .rol ds) → P (enumD ds) (fun _ => True) e1 → ∃ a xs, [v] = [V.ref a] ∧ SqL X.K H1 a xs ∧ R (Ite X.K a) H1 := fun ds ht hp => by
      have kp : ∀ {F H : Hp}, Same F2 F → Same F H → ∃ a vs, v = .ref a ∧ SqL X.K H a vs ∧ IsDs X.K F vs ds := fun {F H} s s' => by
        have d3 := d2.mono s
        rcases ht with ht | ht
        · rw [ht] at d3
          obtain ⟨a, vs, e, h, q⟩ := Pk.lst1 s' (.d d3)
          exact ⟨a, vs, e, SqL.of h, q⟩
        · rw [ht] at d3
          exact Pk.rol1 s' (.d d3)
      obtain ⟨a, vs, e, h, q⟩ := kp (Same.refl _) r2.sub
      subst e
      refine ⟨a, vs, rfl, h, hq _ _ e1 hp F2 H1 B1 _ (s1.trans s2) r2 (Feeds.chk0 (c := chkD (.inl t.fr) t.fr) (fun _ => rfl) (feeds_enum fun F H σ' env B r s c => ?_))⟩
      obtain ⟨a', vs', e, h', q'⟩ := kp s r.sub
      cases e
      exact ⟨vs', h', q'⟩
    cases q : t.fr <;> simp only [q] at h1
    · exact go _ (.inl q) h1
    · exact go _ (.inr q) h1⟩
theorem zi_enumS (j : Nat) {x : Str} {pn p pos tpos : Pos} {elts : List Expr} {kk : Nat} (hg : Gl X "enumerate") (hm : X.mg "enumerate" = none) (hj : pm[j]? = some true) (hs : starEach [.Name x pn] X.env = [(false, eval (.Name x pn) X.env)] := by rfl) (hN : X.N[j]? = some x := by rfl) (hv : Vis X.env.scope x := by first | exact Or.inl rfl | exact Or.inr (Or.inl rfl) | exact Or.inr (Or.inr rfl)) (hd : (x == ("__debug__" : Str)) = false := by decide)
    (hcd : (x == ("__classdict__" : Str)) = false := by decide) : ZI X pm (.Tuple elts kk tpos) (.Call (.Name "enumerate" p) [.Name x pn] [] pos) (wiEnS j) :=
  pi_imp (pi_enum hg hm (pa_one (pe_var hN hv hd hcd) hs) hs) fun σ H R ⟨pv, F, B, env, P, m, rel, hw, hq⟩ => by
    cases q : rs env (.inr j) with
    | none => simp only [wiEnS, q] at hw
    | some d =>
      obtain ⟨t, g, et⟩ : ∃ t, gt env j = some t ∧ t.fr = d := by
        have q' : (match gt env j with | some t => some t.fr | none => none) = some d := q
        cases g : gt env j with
        | none => rw [g] at q'; cases q'
        | some t => rw [g] at q'; cases q'; exact ⟨t, rfl, rfl⟩
      obtain ⟨v, e1, e2⟩ := rel.at_ j t (gt_some g)
      have go : ∀ ds, (d = .lst ds ∨ d = .rol ds) → P (enumD ds) (chkD (.inr j) d) env → ∃ a xs, [v] = [V.ref a] ∧ SqL X.K H a xs ∧ R (Ite X.K a) H := fun ds ht hp => by
        have kp : ∀ {F1 H1 : Hp} {σ' : L2.St} {env1 : Ev} {B1 : Nat → Rg}, Rel X.K pv F1 H1 σ' env1 B1 → Same F F1 → chkD (.inr j) d env1 → ∃ a vs, v = .ref a ∧ SqL X.K H1 a vs ∧ IsDs X.K F1 vs ds := fun {F1 H1 σ' env1 B1} r s c => by
          have k := kept_pk (a := .inr j) m hj rel (.s e1) r s c
          rcases ht with ht | ht
          · rw [ht] at k
            obtain ⟨a, vs, e, h, q⟩ := Pk.lst1 r.sub k
            exact ⟨a, vs, e, SqL.of h, q⟩
          · rw [ht] at k
            exact Pk.rol1 r.sub k
        obtain ⟨a, vs, e, h, q'⟩ := kp rel (Same.refl _) q
        subst e
        refine ⟨a, vs, rfl, h, hq _ _ env hp F H B _ .refl rel (feeds_enum fun F1 H1 σ' env1 B1 r s c => ?_)⟩
        obtain ⟨a', vs', e, h', q'⟩ := kp r s c
        cases e
        exact ⟨vs', h', q'⟩
      refine ⟨v, e1, ?_⟩
      cases d <;> simp only [wiEnS, q] at hw
      · exact go _ (.inl rfl) hw
      · exact go _ (.inr rfl) hw
end
end Zl

namespace Zl
open PySem PySem.Spec PyProof.Rows L2

/-! ### what a def promises, over data: the arguments as they lie; the answer, and the arguments as they lie behind -/
abbrev DSp := List T → (T → List T → Prop) → Prop
def spOf (K : PySem.W.Frag) (dsp : DSp) : Sp := fun vs H Q _ => ∃ F B ts P, Rel K [] F H (vs.map some) (ts.map some) B ∧ dsp ts P ∧
  ∀ r ts', P r ts' → ∀ F' H' B' R v, Step F H (U B) F' H' (Ru (U B') R) → Rel K [] F' H' (vs.map some) (ts'.map some) B' → OwnV K F' H' B' R v r → Q v H'

/-! ### arguments of a call -/
def isFz : Option T → Bool
  | some (.fz _) => true
  | _ => false
def argT (e : Ev) : It2 → Option T
  | .inl d => some (.fz d)
  | .inr j => gt e j
def argTs (e : Ev) : List It2 → Option (List T)
  | [] => some []
  | a :: as => match argT e a with
    | some t => match argTs e as with
      | some ts => some (t :: ts)
      | none => none
    | none => none
/-- the name j's own object is handed in -/
def hands (j : Nat) : List It2 → Bool
  | [] => false
  | .inr i :: as => (i == j) || hands j as
  | .inl _ :: as => hands j as
/-- no object of one's own is handed in twice -/
def dst (e : Ev) : List It2 → Bool
  | [] => true
  | .inl _ :: as => dst e as
  | .inr j :: as => (isFz (gt e j) || !hands j as) && dst e as
/-- the names behind the call -/
def back (e : Ev) : List It2 → List T → Ev
  | .inr j :: as, t :: ts => bif isFz (gt e j) then back e as ts else st (back e as ts) j t
  | .inl _ :: as, _ :: ts => back e as ts
  | _, _ => e
theorem back_inr (e : Ev) (j : Nat) (as : List It2) (t : T) (ts : List T) : back e (.inr j :: as) (t :: ts) = if isFz (gt e j) then back e as ts else st (back e as ts) j t := by
  show (bif isFz (gt e j) then back e as ts else st (back e as ts) j t) = _
  cases isFz (gt e j) <;> rfl
theorem hands_of : ∀ {j k : Nat} {as : List It2}, as[k]? = some (.inr j) → hands j as = true
  | j, 0, a :: as, h => by cases h; simp [hands]
  | j, k + 1, .inl _ :: as, h => by show hands j as = true; exact hands_of (k := k) (by simpa using h)
  | j, k + 1, .inr i :: as, h => by show ((i == j) || hands j as) = true; rw [hands_of (k := k) (as := as) (by simpa using h)]; simp
theorem of_hands : ∀ {j : Nat} {as : List It2}, hands j as = true → ∃ k : Nat, as[k]? = some (Sum.inr j)
  | j, .inl _ :: as, h => by
    obtain ⟨k, e⟩ := of_hands (as := as) h
    exact ⟨k + 1, by simpa using e⟩
  | j, .inr i :: as, h => by
    have h : ((i == j) || hands j as) = true := h
    by_cases z : i = j
    · subst z; exact ⟨0, rfl⟩
    · have h2 : hands j as = true := by simpa [z] using h
      obtain ⟨k, e⟩ := of_hands (as := as) h2
      exact ⟨k + 1, by simpa using e⟩
theorem dst_one {e : Ev} : ∀ {as : List It2}, dst e as = true → ∀ {k l j : Nat}, as[k]? = some (.inr j) → as[l]? = some (.inr j) → isFz (gt e j) = false → k = l
  | [], _, k, l, j, h, _, _ => by simp at h
  | .inl _ :: as, hd, 0, l, j, h, _, _ => by simp at h
  | .inl _ :: as, hd, k + 1, 0, j, _, h, _ => by simp at h
  | .inl _ :: as, hd, k + 1, l + 1, j, h, h', hf => by rw [dst_one (as := as) hd (k := k) (l := l) (by simpa using h) (by simpa using h') hf]
  | .inr i :: as, hd, k, l, j, h, h', hf => by
    have hd : ((isFz (gt e i) || !hands i as) && dst e as) = true := hd
    rw [Bool.and_eq_true] at hd
    cases k with
    | zero =>
      cases l with
      | zero => rfl
      | succ l =>
        cases h
        have z := hands_of (k := l) (as := as) (j := i) (by simpa using h')
        rw [z, hf] at hd
        simp at hd
    | succ k =>
      cases l with
      | zero =>
        cases h'
        have z := hands_of (k := k) (as := as) (j := i) (by simpa using h)
        rw [z, hf] at hd
        simp at hd
      | succ l => rw [dst_one (as := as) hd.2 (k := k) (l := l) (by simpa using h) (by simpa using h') hf]
theorem argTs_get {e : Ev} : ∀ {as : List It2} {ts : List T}, argTs e as = some ts → ts.length = as.length ∧ ∀ (k : Nat) a, as[k]? = some a → ∃ t, ts[k]? = some t ∧ argT e a = some t
  | [], ts, h => by cases h; exact ⟨rfl, fun k a h => by simp at h⟩
  | a :: as, ts, h => by
    have h' : (match argT e a with | some t => (match argTs e as with | some ts => some (t :: ts) | none => none) | none => none) = some ts := h
    cases q : argT e a with
    | none => rw [q] at h'; cases h'
    | some t =>
      rw [q] at h'
      cases q2 : argTs e as with
      | none => simp only [q2] at h'; cases h'
      | some us =>
        simp only [q2] at h'
        cases h'
        obtain ⟨l, g⟩ := argTs_get q2
        refine ⟨by simp [l], fun k b hb => ?_⟩
        cases k with
        | zero => cases hb; exact ⟨t, rfl, q⟩
        | succ k =>
          obtain ⟨u, h1, h2⟩ := g k b (by simpa using hb)
          exact ⟨u, by simpa using h1, h2⟩
theorem back_len (e : Ev) : ∀ (as : List It2) (ts : List T), (back e as ts).length = e.length
  | [], _ => rfl
  | .inl _ :: as, [] => rfl
  | .inl _ :: as, _ :: ts => back_len e as ts
  | .inr j :: as, [] => rfl
  | .inr j :: as, t :: ts => by
    rw [back_inr]
    split
    · exact back_len e as ts
    · rw [st_eq, List.length_set]; exact back_len e as ts
/-- a name behind the call: an own object that was handed in, or as it was -/
theorem back_get (e : Ev) : ∀ (as : List It2) (ts : List T) (j : Nat) (t : T), (back e as ts)[j]? = some (some t) →
    (∃ k : Nat, as[k]? = some (.inr j) ∧ isFz (gt e j) = false ∧ ts[k]? = some t) ∨ (e[j]? = some (some t) ∧ (as.length = ts.length → isFz (gt e j) = false → hands j as = false))
  | [], _, j, t, h => .inr ⟨h, fun _ _ => rfl⟩
  | .inl _ :: as, [], j, t, h => .inr ⟨h, fun z _ => by simp at z⟩
  | .inl d :: as, _ :: ts, j, t, h => by
    rcases back_get e as ts j t h with ⟨k, h1, h2, h3⟩ | ⟨h1, h2⟩
    · exact .inl ⟨k + 1, by simpa using h1, h2, by simpa using h3⟩
    · exact .inr ⟨h1, fun z f => h2 (by simpa using z) f⟩
  | .inr i :: as, [], j, t, h => .inr ⟨h, fun z _ => by simp at z⟩
  | .inr i :: as, u :: ts, j, t, h => by
    rw [back_inr] at h
    by_cases hf : isFz (gt e i) = true
    · rw [if_pos hf] at h
      rcases back_get e as ts j t h with ⟨k, h1, h2, h3⟩ | ⟨h1, h2⟩
      · exact .inl ⟨k + 1, by simpa using h1, h2, by simpa using h3⟩
      · refine .inr ⟨h1, fun z f => ?_⟩
        show ((i == j) || hands j as) = false
        rw [h2 (by simpa using z) f]
        have : i ≠ j := fun z => by subst z; rw [hf] at f; cases f
        simpa using this
    · rw [if_neg hf, st_eq] at h
      have hf : isFz (gt e i) = false := by simpa using hf
      by_cases z : j = i
      · subst z
        rw [List.getElem?_set] at h
        split at h
        · split at h
          · cases h
            exact .inl ⟨0, rfl, hf, rfl⟩
          · cases h
        · rename_i n; exact absurd rfl n
      · rw [List.getElem?_set_ne (Ne.symm z)] at h
        rcases back_get e as ts j t h with ⟨k, h1, h2, h3⟩ | ⟨h1, h2⟩
        · exact .inl ⟨k + 1, by simpa using h1, h2, by simpa using h3⟩
        · refine .inr ⟨h1, fun y f => ?_⟩
          show ((i == j) || hands j as) = false
          rw [h2 (by simpa using y) f]
          simpa using Ne.symm z
theorem isFz_iff {o : Option T} : isFz o = true ↔ ∃ d, o = some (.fz d) := by
  cases o with
  | none => simp [isFz]
  | some t => cases t <;> simp [isFz]
section
variable {K : PySem.W.Frag} {pv : List (Option V)} {F H F' H' : Hp} {σ : L2.St} {e : Ev} {B B' : Nat → Rg} {R : Rg} {as : List It2} {ts ts' : List T} {vs : List V}
/-- the handed-in objects' regions -/
def argB (e : Ev) (as : List It2) (B : Nat → Rg) : Nat → Rg := fun k a => ∃ j, as[k]? = some (.inr j) ∧ isFz (gt e j) = false ∧ B j a
theorem ItemsOk.length : ∀ {vs : List V} {as : List It2}, ItemsOk K F σ vs as → vs.length = as.length
  | _, _, .nil => rfl
  | _, _, .cons _ r => by rw [List.length_cons, List.length_cons, ItemsOk.length r]
theorem ItemsOk.get : ∀ {vs : List V} {as : List It2} {k : Nat} {a : It2}, ItemsOk K F σ vs as → as[k]? = some a → ∃ v, vs[k]? = some v ∧ ItemOk K F σ v a
  | _, _, 0, _, .cons h _, e => by cases e; exact ⟨_, rfl, h⟩
  | _, _, k + 1, a, .cons _ r, e => by
    obtain ⟨v, h1, h2⟩ := ItemsOk.get (k := k) (a := a) r (by simpa using e)
    exact ⟨v, by simpa using h1, h2⟩
theorem Rel.args (r : Rel K pv F H σ e B) (i : ItemsOk K F σ vs as) (ha : argTs e as = some ts) (hd : dst e as = true) : Rel K [] F H (vs.map some) (ts.map some) (argB e as B) ∧ ∀ a, U (argB e as B) a → U B a := by
  obtain ⟨hl, hg⟩ := argTs_get ha
  refine ⟨⟨r.sub, by rw [List.length_map, List.length_map, i.length, hl], fun k t h => ?_, fun k l a ⟨j, h1, h2, h3⟩ ⟨j', g1, g2, g3⟩ => ?_, fun k a ⟨j, h1, h2, h3⟩ => r.off j a h3, fun k a ⟨j, h1, h2, h3⟩ => r.live j a h3, fun k v h => by simp at h⟩, fun a ⟨k, j, h1, h2, h3⟩ => ⟨j, h3⟩⟩
  · rw [List.getElem?_map] at h
    cases q : ts[k]? with
    | none => rw [q] at h; cases h
    | some t0 =>
      rw [q] at h
      cases h
      have hk : k < as.length := by rw [← hl]; exact (List.getElem?_eq_some_iff.mp q).1
      obtain ⟨t1, g1, g2⟩ := hg k as[k] (List.getElem?_eq_getElem hk)
      rw [q] at g1; cases g1
      obtain ⟨v, hv, hi⟩ := i.get (List.getElem?_eq_getElem hk)
      refine ⟨v, by rw [List.getElem?_map, hv]; rfl, ?_⟩
      generalize hak : as[k] = a at *
      have hak' : as[k]? = some a := by rw [List.getElem?_eq_getElem hk, hak]
      cases hi with
      | d hd => cases g2; exact .fz hd
      | @s j hs =>
        have g2 : gt e j = some t := g2
        obtain ⟨u, e1, e2⟩ := r.at_ j t (gt_some g2)
        rw [hs] at e1; cases e1
        by_cases hf : isFz (gt e j) = true
        · obtain ⟨d, ed⟩ := isFz_iff.mp hf
          rw [g2] at ed; cases ed
          cases e2 with
          | fz q => exact .fz q
        · exact e2.mono (Same.refl _) (fun a o _ h => h) fun a h => ⟨j, hak', by simpa using hf, h⟩
  · have := r.dis j j' a h3 g3
    subst this
    exact dst_one hd h1 g1 h2
/-- behind the call -/
theorem Rel.called (r : Rel K pv F H σ e B) (i : ItemsOk K F σ vs as) (ha : argTs e as = some ts) (hd : dst e as = true) {v : V} {t : T}
    (s : Step F H (U (argB e as B)) F' H' (Ru (U B') R)) (r' : Rel K [] F' H' (vs.map some) (ts'.map some) B') (o : OwnV K F' H' B' R v t) :
    ∃ B2, Rel K pv F' H' σ (back e as ts') B2 ∧ Step F H (U B) F' H' (Ru (U B2) R) ∧ OwnV K F' H' B2 R v t := by
  classical
  obtain ⟨rA, subA⟩ := r.args i ha hd
  have hlen : as.length = ts'.length := by
    have := r'.len
    rw [List.length_map, List.length_map] at this
    rw [← this, i.length]
  -- an own object that is not handed in stands
  have out : ∀ j a, B j a → (isFz (gt e j) = true ∨ hands j as = false) → ¬ U (argB e as B) a := fun j a hb hn ⟨k, j', h1, h2, h3⟩ => by
    have := r.dis j j' a hb h3
    subst this
    rcases hn with hn | hn
    · rw [hn] at h2; cases h2
    · rw [hands_of h1] at hn; cases hn
  let B2 : Nat → Rg := fun j a => (∃ k : Nat, as[k]? = some (.inr j) ∧ isFz (gt e j) = false ∧ B' k a) ∨ ((isFz (gt e j) = true ∨ hands j as = false) ∧ B j a)
  have old : ∀ j a, (isFz (gt e j) = true ∨ hands j as = false) → B j a → F' a = none ∧ H' a ≠ none ∧ (∀ k, ¬ B' k a) ∧ ¬ R a := fun j a hn hb => by
    have n := out j a hb hn
    have live := r.live j a hb
    refine ⟨?_, ?_, fun k hk => ?_, fun hr => ?_⟩
    · cases q : F' a with
      | none => rfl
      | some x =>
        rcases s.newF a (by rw [q]; simp) with z | z | z
        · exact absurd (r.off j a hb) z
        · exact absurd z n
        · exact absurd z live
    · cases q : H a with
      | none => exact absurd q live
      | some x => rw [s.keep a x q n]; simp
    · rcases s.fresh a (.inl ⟨k, hk⟩) with z | z
      · exact n z
      · exact live z
    · rcases s.fresh a (.inr hr) with z | z
      · exact n z
      · exact live z
  refine ⟨B2, ⟨r'.sub, ?_, fun j t h => ?_, fun j l a h1 h2 => ?_, fun j a h => ?_, fun j a h => ?_, r.fix⟩, ⟨s.le, fun a x h n => s.keep a x h fun z => n (subA a z), fun a h => ?_, fun a h => ?_⟩, ⟨o.is, fun j a h1 h2 => ?_, o.off, o.live⟩⟩
  · rw [back_len]; exact r.len
  · rcases back_get e as ts' j t h with ⟨k, h1, h2, h3⟩ | ⟨h1, h2⟩
    · obtain ⟨u, e1, e2⟩ := i.get h1
      cases e2 with
      | s hs =>
        obtain ⟨u', f1, f2⟩ := r'.at_ k t (by rw [List.getElem?_map, h3]; rfl)
        rw [List.getElem?_map, e1] at f1
        cases f1
        exact ⟨u, hs, f2.mono (Same.refl _) (fun a x _ h => h) fun a hb => .inl ⟨k, h1, h2, hb⟩⟩
    · obtain ⟨u, e1, e2⟩ := r.at_ j t h1
      have hn : isFz (gt e j) = true ∨ hands j as = false := by
        by_cases hf : isFz (gt e j) = true
        · exact .inl hf
        · exact .inr (h2 hlen (by simpa using hf))
      exact ⟨u, e1, e2.mono s.le (fun a x hb h => s.keep a x h (out j a hb hn)) fun a hb => .inr ⟨hn, hb⟩⟩
  · rcases h1 with ⟨k, g1, g2, g3⟩ | ⟨g1, g2⟩ <;> rcases h2 with ⟨k', f1, f2, f3⟩ | ⟨f1, f2⟩
    · have := r'.dis k k' a g3 f3
      subst this
      rw [g1] at f1; cases f1; rfl
    · exact absurd g3 ((old l a f1 f2).2.2.1 k)
    · exact absurd f3 ((old j a g1 g2).2.2.1 k')
    · exact r.dis j l a g2 f2
  · rcases h with ⟨k, g1, g2, g3⟩ | ⟨g1, g2⟩
    · exact r'.off k a g3
    · exact (old j a g1 g2).1
  · rcases h with ⟨k, g1, g2, g3⟩ | ⟨g1, g2⟩
    · exact r'.live k a g3
    · exact (old j a g1 g2).2.1
  · rcases h with ⟨j, ⟨k, g1, g2, g3⟩ | ⟨g1, g2⟩⟩ | h
    · exact (s.fresh a (.inl ⟨k, g3⟩)).imp (subA a) id
    · exact .inl ⟨j, g2⟩
    · exact (s.fresh a (.inr h)).imp (subA a) id
  · exact (s.newF a h).imp id (.imp (subA a) id)
  · rcases h2 with ⟨k, g1, g2, g3⟩ | ⟨g1, g2⟩
    · exact o.dis k a h1 g3
    · exact (old j a g1 g2).2.2.2 h1
end

/-! ### calls of defs -/
def wCall (sp : DSp) (dds : List D) (wa : WA) : WE := fun env P => wa env fun as e1 => match argTs e1 (as ++ dds.map .inl) with
  | some ts => dst e1 (as ++ dds.map .inl) = true ∧ sp ts fun r ts' => P r (back e1 (as ++ dds.map .inl) ts')
  | none => False
theorem ItemsOk.append {K : PySem.W.Frag} {F : Hp} {σ : L2.St} : ∀ {vs ws : List V} {as bs : List It2}, ItemsOk K F σ vs as → ItemsOk K F σ ws bs → ItemsOk K F σ (vs ++ ws) (as ++ bs)
  | _, _, _, _, .nil, r => r
  | _, _, _, _, .cons h t, r => .cons h (ItemsOk.append t r)
theorem ItemsOk.ofDs {K : PySem.W.Frag} {F : Hp} {σ : L2.St} : ∀ {vs : List V} {ds : List D}, IsDs K F vs ds → ItemsOk K F σ vs (ds.map .inl)
  | _, _, .nil => .nil
  | _, _, .cons h r => .cons (.d h) (ItemsOk.ofDs r)
section
variable {X : Cx} {pm : List Bool} {k : Nat} {f : Addr} {fd : FuncData} {ps : List Str} {sp : DSp} {x : Str} {p pos : Pos} {e : Expr} {es : List Expr} {wa : WA} {ds : List Value} {dvs : List V} {dds : List D}
theorem ta_call {E : XK} (hds : ∀ F, IsDs X.K F dvs dds) {σ H Q} : TZ X pm (wCall sp dds wa) σ H Q → TAz X pm wa σ H fun vs H1 => spOf X.K sp (vs ++ dvs) H1 Q E := fun ⟨pv, F, B, env, P, m, rel, hw, hq⟩ =>
  ⟨pv, F, B, env, _, m, rel, hw, fun as e1 h1 F1 H1 B1 vs s1 r1 i1 => by
    have i2 : ItemsOk X.K F1 σ (vs ++ dvs) (as ++ dds.map .inl) := i1.append (.ofDs (hds F1))
    cases q : argTs e1 (as ++ dds.map .inl) with
    | none => simp only [q] at h1
    | some ts =>
      simp only [q] at h1
      obtain ⟨hd, h1⟩ := h1
      obtain ⟨rA, sA⟩ := r1.args i2 q hd
      refine ⟨F1, _, ts, _, rA, h1, fun r ts' hp F2 H2 B2 R2 v s2 r2 o2 => ?_⟩
      obtain ⟨B3, r3, s3, o3⟩ := r1.called i2 q hd s2 r2 o2
      exact hq _ _ hp F2 H2 B3 R2 v (s1.trans s3) r3 o3⟩
theorem ze_call (Fn : FnOk X.prog X.w X.K X.mg X.base CX0 k f fd ps (spOf X.K sp)) (hr : Room k X.A) (hg : Gl X x) (hm : X.mg x = some (.ref f)) (hk : PySem.W.keepIn X.K (.ref f) = true) (hb : Binds X.K fd ps ds) (hd : Vals dvs ds) (hds : ∀ F, IsDs X.K F dvs dds)
    (ha : ZA X pm (e :: es) wa) (hdb : (x == ("__debug__" : Str)) = false := by decide) (he : starEach (e :: es) X.env = (false, eval e X.env) :: starEach es X.env := by rfl) (hpl : (backTo pos (starEach es X.env)).any (·.1) = false := by rfl) :
    ZE X pm (.Call (.Name x p) (e :: es) [] pos) (wCall sp dds wa) := pe_imp (pe_call Fn hr hg hm hk hb hd pass0 ha hdb he hpl) fun σ H Q h => ta_call hds h
theorem ze_call0 (Fn : FnOk X.prog X.w X.K X.mg X.base CX0 k f fd ps (spOf X.K sp)) (hr : Room k X.A) (hg : Gl X x) (hm : X.mg x = some (.ref f)) (hk : PySem.W.keepIn X.K (.ref f) = true) (hb : Binds X.K fd ps ds) (hd : Vals dvs ds) (hds : ∀ F, IsDs X.K F dvs dds)
    (hdb : (x == ("__debug__" : Str)) = false := by decide) :
    ZE X pm (.Call (.Name x p) [] [] pos) (wCall sp dds aNil) := pe_imp (pe_call0 Fn hr hg hm hk hb hd pass0 hdb) fun σ H Q h => by
  obtain ⟨pv, F, B, env, P, m, rel, hw, hq⟩ := ta_call (E := E0) hds h
  exact hq _ _ hw F H B [] .refl rel .nil
end

/-! ### a def keeps its promise -/
/-- the arguments behind the body: those that stay in their slots as they lie there, the others are data -/
def aft : List Bool → List T → Ev → Option (List T)
  | [], [], _ => some []
  | true :: pm, _ :: ts, some t :: env => match aft pm ts env with
    | some r => some (t :: r)
    | none => none
  | false :: pm, .fz d :: ts, _ :: env => match aft pm ts env with
    | some r => some (.fz d :: r)
    | none => none
  | _, _, _ => none
def fin (pm : List Bool) (ts : List T) (P : T → List T → Prop) : DE where
  nx := fun env => match aft pm ts env with
    | some ts' => P (.fz .non) ts'
    | none => False
  rt := fun t env => match aft pm ts env with
    | some ts' => P t ts'
    | none => False
/-- the names at the entry -/
def entry (n : Nat) (ts : List T) : Ev := ts.map some ++ List.replicate (n - ts.length) none
def pinned : List Bool → List V → List (Option V)
  | true :: pm, v :: vs => some v :: pinned pm vs
  | false :: pm, _ :: vs => none :: pinned pm vs
  | _, _ => []
theorem pinned_get : ∀ {pm : List Bool} {vs : List V} {i : Nat} {v : V}, (pinned pm vs)[i]? = some (some v) → pm[i]? = some true ∧ vs[i]? = some v
  | [], _, _, _, h => by simp [pinned] at h
  | true :: pm, [], _, _, h => by simp [pinned] at h
  | false :: pm, [], _, _, h => by simp [pinned] at h
  | true :: pm, w :: vs, 0, v, h => by cases h; exact ⟨rfl, rfl⟩
  | false :: pm, w :: vs, 0, v, h => by cases h
  | true :: pm, w :: vs, i + 1, v, h => by simpa using pinned_get (pm := pm) (vs := vs) (i := i) (by simpa [pinned] using h)
  | false :: pm, w :: vs, i + 1, v, h => by simpa using pinned_get (pm := pm) (vs := vs) (i := i) (by simpa [pinned] using h)
theorem pinned_of : ∀ {pm : List Bool} {vs : List V} {i : Nat}, pm.length = vs.length → pm[i]? = some true → ∃ v, (pinned pm vs)[i]? = some (some v)
  | [], _, _, _, h => by simp at h
  | true :: pm, w :: vs, 0, _, h => ⟨w, rfl⟩
  | false :: pm, w :: vs, 0, _, h => by cases h
  | true :: pm, w :: vs, i + 1, hl, h => by
    obtain ⟨v, q⟩ := pinned_of (pm := pm) (vs := vs) (i := i) (by simpa using hl) (by simpa using h)
    exact ⟨v, by simpa [pinned] using q⟩
  | false :: pm, w :: vs, i + 1, hl, h => by
    obtain ⟨v, q⟩ := pinned_of (pm := pm) (vs := vs) (i := i) (by simpa using hl) (by simpa using h)
    exact ⟨v, by simpa [pinned] using q⟩
theorem aft_get : ∀ {pm : List Bool} {ts : List T} {env : Ev} {ts' : List T}, aft pm ts env = some ts' → ts'.length = ts.length ∧ ∀ (i : Nat) t, ts'[i]? = some t → (pm[i]? = some true ∧ env[i]? = some (some t)) ∨ (∃ d, t = .fz d ∧ ts[i]? = some (.fz d))
  | [], [], env, ts', h => by cases h; exact ⟨rfl, fun i t h => by simp at h⟩
  | true :: pm, u :: ts, some t :: env, ts', h => by
    have h : (match aft pm ts env with | some r => some (t :: r) | none => none) = some ts' := h
    cases q : aft pm ts env with
    | none => rw [q] at h; cases h
    | some r =>
      rw [q] at h; cases h
      obtain ⟨l, g⟩ := aft_get q
      refine ⟨by simp [l], fun i t' hi => ?_⟩
      cases i with
      | zero => cases hi; exact .inl ⟨rfl, rfl⟩
      | succ i => simpa using g i t' (by simpa using hi)
  | false :: pm, .fz d :: ts, o :: env, ts', h => by
    have h : (match aft pm ts env with | some r => some (.fz d :: r) | none => none) = some ts' := h
    cases q : aft pm ts env with
    | none => rw [q] at h; cases h
    | some r =>
      rw [q] at h; cases h
      obtain ⟨l, g⟩ := aft_get q
      refine ⟨by simp [l], fun i t' hi => ?_⟩
      cases i with
      | zero => cases hi; exact .inr ⟨d, rfl, rfl⟩
      | succ i => simpa using g i t' (by simpa using hi)
section
variable {P : Program} {w : World} {K : PySem.W.Frag} {mg : Str → Option Value} {base : Heap} {F H F' H' : Hp} {B B' : Nat → Rg} {σ' : L2.St} {env' : Ev} {R : Rg}
/-- behind the body: what the caller gets -/
theorem Rel.out {vs : List V} {ts ts' : List T} {pm : List Bool} {v : V} {t : T} (hpm : pm.length = vs.length) (r0 : Rel K [] F H (vs.map some) (ts.map some) B) (le : Same F F') (r : Rel K (pinned pm vs) F' H' σ' env' B') (ha : aft pm ts env' = some ts') (o : OwnV K F' H' B' R v t) (s : Step F H (U B) F' H' (Ru (U B') R)) :
    ∃ B2, Rel K [] F' H' (vs.map some) (ts'.map some) B2 ∧ Step F H (U B) F' H' (Ru (U B2) R) ∧ OwnV K F' H' B2 R v t := by
  obtain ⟨hl, hg⟩ := aft_get ha
  have hvl : vs.length = ts.length := by have := r0.len; rwa [List.length_map, List.length_map] at this
  let B2 : Nat → Rg := fun i a => pm[i]? = some true ∧ B' i a
  have sub : ∀ a, U B2 a → U B' a := fun a ⟨i, _, h⟩ => ⟨i, h⟩
  refine ⟨B2, ⟨r.sub, by rw [List.length_map, List.length_map, hl, hvl], fun i u h => ?_, fun i j a h1 h2 => r.dis i j a h1.2 h2.2, fun i a h => r.off i a h.2, fun i a h => r.live i a h.2, fun i u h => by simp at h⟩, s.less fun a h => h.imp (sub a) id, ⟨o.is, fun i a h1 h2 => o.dis i a h1 h2.2, o.off, o.live⟩⟩
  rw [List.getElem?_map] at h
  cases q : ts'[i]? with
  | none => rw [q] at h; cases h
  | some u' =>
    rw [q] at h; cases h
    rcases hg i u q with ⟨h1, h2⟩ | ⟨d, h1, h2⟩
    · obtain ⟨x, e1, e2⟩ := r.at_ i u h2
      obtain ⟨y, hy⟩ := pinned_of (vs := vs) hpm h1
      have e3 := r.fix i y hy
      rw [e1] at e3; cases e3
      refine ⟨x, by rw [List.getElem?_map, (pinned_get hy).2]; rfl, e2.mono (Same.refl _) (fun a z _ h => h) fun a h => ⟨h1, h⟩⟩
    · subst h1
      obtain ⟨x, e1, e2⟩ := r0.at_ i (.fz d) (by rw [List.getElem?_map, h2]; rfl)
      cases e2 with
      | fz hd => exact ⟨x, e1, .fz (hd.mono le)⟩
theorem Rel.entry {vs : List V} {ts : List T} {pm : List Bool} {N : List Str} (hpm : pm.length = vs.length) (r0 : Rel K [] F H (vs.map some) (ts.map some) B) : ∃ B2, Rel K (pinned pm vs) F H (start N vs) (Zl.entry N.length ts) B2 ∧ (∀ a, U B2 a → U B a) ∧ Mask pm (pinned pm vs) := by
  have hvl : vs.length = ts.length := by have := r0.len; rwa [List.length_map, List.length_map] at this
  refine ⟨B, ⟨r0.sub, ?_, fun i t h => ?_, r0.dis, r0.off, r0.live, fun i v h => ?_⟩, fun a h => h, fun i => ⟨fun h => pinned_of hpm h, fun ⟨v, h⟩ => (pinned_get h).1⟩⟩
  · unfold L2.start Zl.entry
    simp [hvl]
  · unfold Zl.entry at h
    have hi : i < ts.length := by
      by_cases hi : i < ts.length
      · exact hi
      · rw [List.getElem?_append_right (by simpa using hi), List.getElem?_replicate] at h
        split at h <;> cases h
    rw [List.getElem?_append_left (by simpa using hi)] at h
    obtain ⟨v, e1, e2⟩ := r0.at_ i t h
    refine ⟨v, ?_, e2⟩
    unfold L2.start
    rw [List.getElem?_append_left (by simpa [hvl] using hi)]
    exact e1
  · obtain ⟨h1, h2⟩ := pinned_get h
    unfold L2.start
    rw [List.getElem?_append_left (by simpa using (List.getElem?_eq_some_iff.mp h2).1), List.getElem?_map, h2]
    rfl
/-- THE RULE for a def -/
theorem z_fun {x qual : Str} {st : Stmt} {f : Addr} {fd : FuncData} {N ps : List Str} {k : Nat} {sp : DSp} (pm : List Bool) (Fn : Fun K x qual st f fd) (S : FnScope N ps (defScope st)) (hpm : pm.length = ps.length) (len : ∀ ts P, sp ts P → ts.length = ps.length)
    (hbody : ∀ (cdv : Value) (A : Around) (outer : List Env) (s : Shared) (H : Hp) (E : XK), Room k (A.deeper (envOfC qual (defScope st) s.heap.objs.size f cdv)) →
      ∃ w0, ZSs (cxOf CX0 P w K mg base N qual (defScope st) f cdv A outer s H E).nox pm (defBody st) w0 ∧ ∀ ts P, sp ts P → w0 (fin pm ts P) (Zl.entry N.length ts)) : FnOk P w K mg base CX0 (k + 1) f fd ps (spOf K sp) := by
  refine Fn.ok S (fun vs H Q E ⟨F, B, ts, P, r, h, _⟩ => ?_) fun cdv A outer s H vs Q E hr ⟨F, B, ts, P, r0, h, hq⟩ => ?_
  · have := r.len
    rw [List.length_map, List.length_map] at this
    rw [this]; exact len ts P h
  · obtain ⟨w0, hw, hb⟩ := hbody cdv A outer s H E hr
    have hvl : vs.length = ts.length := by have := r0.len; rwa [List.length_map, List.length_map] at this
    have hpv : pm.length = vs.length := by rw [hpm, hvl, len ts P h]
    obtain ⟨B2, r1, s1, m1⟩ := Rel.entry (N := N) hpv r0
    refine ⟨_, hw, pinned pm vs, F, B2, _, fin pm ts P, m1, r1, hb ts P h, ?_⟩
    have go : ∀ (t : T) (env' : Ev) (F' H' : Hp) (σ' : L2.St) (B' : Nat → Rg) (R' : Rg) (v : V), (match aft pm ts env' with | some ts' => P t ts' | none => False) → Step F H (U B2) F' H' (Ru (U B') R') → Rel K (pinned pm vs) F' H' σ' env' B' → OwnV K F' H' B' R' v t → Q v H' := fun t env' F' H' σ' B' R' v hp s2 r2 o2 => by
      cases q : aft pm ts env' with
      | none => rw [q] at hp; exact hp.elim
      | some ts' =>
        rw [q] at hp
        obtain ⟨B3, r3, s3, o3⟩ := Rel.out hpv r0 s2.le r2 q o2 (s2.more s1)
        exact hq t ts' hp F' H' B3 R' v s3 r3 o3
    exact ⟨fun env' F' H' σ' B' hp s2 r2 => go (.fz .non) env' F' H' σ' B' Rg0 .non hp s2.r0 r2 (OwnV.fz .non), fun t env' F' H' σ' B' R' v hp s2 r2 o2 => go t env' F' H' σ' B' R' v hp s2 r2 o2, fun env' F' H' σ' B' hp s2 r2 => hp.elim, fun env' F' H' σ' B' hp s2 r2 => hp.elim⟩
end
end Zl

namespace Zl
open PySem PySem.Spec PyProof.Rows L2

/-! ### tuples and lists written -/
def allD : List It2 → Option (List D)
  | [] => some []
  | .inl d :: as => match allD as with
    | some ds => some (d :: ds)
    | none => none
  | .inr _ :: _ => none
def wTup (wa : WA) : WE := fun env P => wa env fun as e => match allD as with
  | some ds => ds.length ≤ sizeLine ∧ P (.fz (.tup ds)) e
  | none => False
def wLst (wa : WA) : WE := fun env P => wa env fun as e => match allD as with
  | some ds => ds.length ≤ sizeLine ∧ P (.lst ds) e
  | none => False
section
variable {K : PySem.W.Frag} {F : Hp} {σ : L2.St}
theorem allD_ok : ∀ {as : List It2} {ds : List D} {vs : List V}, allD as = some ds → ItemsOk K F σ vs as → IsDs K F vs ds
  | [], ds, vs, h, i => by cases h; cases i; exact .nil
  | .inl d :: as, ds, _, h, .cons (.d hd) r => by
    have h : (match allD as with | some ds => some (d :: ds) | none => none) = some ds := h
    cases q : allD as with
    | none => rw [q] at h; cases h
    | some es => rw [q] at h; cases h; exact .cons hd (allD_ok q r)
  | .inr _ :: _, _, _, h, _ => by cases h
end
section
variable {X : Cx} {pm : List Bool} {es : List Expr} {wa : WA} {pos : Pos}
theorem ze_tup {k} (h : ZA X pm es wa) : ZE X pm (.Tuple es k pos) (wTup wa) := pe_imp (pe_tup h) fun σ H Q ⟨pv, F, B, env, P, m, rel, hw, hq⟩ =>
  ⟨pv, F, B, env, _, m, rel, hw, fun as e1 h1 F1 H1 B1 vs s1 r1 i1 => by
    cases q : allD as with
    | none => simp only [q] at h1
    | some ds =>
      simp only [q] at h1
      have hd := allD_ok q i1
      refine ⟨by rw [hd.length]; exact h1.1, fun p hp => ?_⟩
      have al := Alloc.frz (o := .tup vs) r1.sub hp
      obtain ⟨r2, s2, d2⟩ := r1.alloc al
      exact hq _ _ h1.2 _ _ B1 Rg0 _ (s1.trans s2) r2 (OwnV.fz (.tup (.of upd_same) (hd.mono al.le)))⟩
theorem ze_lst (h : ZA X pm es wa) : ZE X pm (.List es pos) (wLst wa) := pe_imp (pe_lst h) fun σ H Q ⟨pv, F, B, env, P, m, rel, hw, hq⟩ =>
  ⟨pv, F, B, env, _, m, rel, hw, fun as e1 h1 F1 H1 B1 vs s1 r1 i1 => by
    cases q : allD as with
    | none => simp only [q] at h1
    | some ds =>
      simp only [q] at h1
      have hd := allD_ok q i1
      refine ⟨by rw [hd.length]; exact h1.1, fun p hp => ?_⟩
      have al := Alloc.own (o := .lst vs) r1.sub hp
      obtain ⟨r2, s2, d2⟩ := r1.alloc al
      exact hq _ _ h1.2 _ _ B1 _ _ (s1.trans s2) r2 (r1.own al (.lst rfl upd_same hd))⟩
end

/-! ### lists of fields -/
def setA {α : Type} : List α → Nat → α → List α
  | [], 0, t => [t]
  | [], _ + 1, _ => []
  | _ :: r, 0, t => t :: r
  | x :: r, n + 1, t => x :: setA r n t
theorem setA_len {α : Type} : ∀ {xs : List α} {i : Nat} {t : α}, i ≤ xs.length → (setA xs i t).length = if i < xs.length then xs.length else xs.length + 1
  | [], 0, _, _ => rfl
  | [], i + 1, _, h => by simp at h
  | x :: r, 0, _, _ => by simp [setA]
  | x :: r, i + 1, t, h => by
    have ih := setA_len (xs := r) (i := i) (t := t) (by simpa using h)
    show (setA r i t).length + 1 = _
    rw [ih]
    by_cases z : i < r.length
    · rw [if_pos z, if_pos (by simpa using z)]; rfl
    · rw [if_neg z, if_neg (by simpa using z)]; rfl
theorem putF_zip : ∀ {ns : List Str} {vs : List V} {i : Nat} {f : Str} {y : V}, ns.Nodup → ns[i]? = some f → i ≤ vs.length → putF f y (ns.zip vs) = ns.zip (setA vs i y)
  | [], _, _, _, _, _, h, _ => by simp at h
  | n :: ns, [], 0, f, y, nd, h, _ => by cases h; show [(n, y)] = (n, y) :: ns.zip []; rw [List.zip_nil_right]
  | n :: ns, [], i + 1, f, y, nd, h, hl => by simp at hl
  | n :: ns, v :: vs, 0, f, y, nd, h, _ => by
    cases h
    show (if n = n then (n, y) :: ns.zip vs else _) = _
    rw [if_pos rfl]; rfl
  | n :: ns, v :: vs, i + 1, f, y, nd, h, hl => by
    have h : ns[i]? = some f := by simpa using h
    have hne : n ≠ f := fun e => (List.nodup_cons.mp nd).1 (by rw [e]; exact List.mem_of_getElem? h)
    show (if n = f then (n, y) :: ns.zip vs else (n, v) :: putF f y (ns.zip vs)) = (n, v) :: ns.zip (setA vs i y)
    rw [if_neg hne, putF_zip (List.nodup_cons.mp nd).2 h (by simpa using hl)]
theorem look_zip : ∀ {ns : List Str} {vs : List V} {i : Nat} {f : Str} {y : V}, ns.Nodup → ns[i]? = some f → vs[i]? = some y → (ns.zip vs).lookup f = some y
  | [], _, _, _, _, _, h, _ => by simp at h
  | n :: ns, [], i, f, y, nd, h, h2 => by simp at h2
  | n :: ns, v :: vs, 0, f, y, nd, h, h2 => by
    cases h; cases h2
    simp [List.lookup]
  | n :: ns, v :: vs, i + 1, f, y, nd, h, h2 => by
    have h : ns[i]? = some f := by simpa using h
    have hne : n ≠ f := fun e => (List.nodup_cons.mp nd).1 (by rw [e]; exact List.mem_of_getElem? h)
    have hb : (f == n) = false := beq_eq_false_iff_ne.mpr (Ne.symm hne)
    show List.lookup f ((n, v) :: ns.zip vs) = _
    simp only [List.lookup, hb]
    exact look_zip (List.nodup_cons.mp nd).2 h (by simpa using h2)
theorem look_none {ns : List Str} {vs : List V} {f : Str} (h : f ∉ ns) : (ns.zip vs).lookup f = none := by
  rw [List.lookup_eq_none_iff]
  intro p hp
  have := (List.of_mem_zip hp).1
  have hne : f ≠ p.1 := fun e => h (by rw [e]; exact this)
  simpa using hne
/-- what the walk asks of a class -/
structure ClsOk (K : PySem.W.Frag) (c : Cd) : Prop where
  cls : Cls K c.C
  no : ∀ f ∈ c.ns, NoAttr K c.C f
  nd : c.ns.Nodup
  few : c.ns.length < 1000

section
variable {K : PySem.W.Frag} {F H H' : Hp}
theorem IsTs.length : ∀ {R : Rg} {vs : List V} {ts : List T}, IsTs K F H R vs ts → vs.length = ts.length
  | _, _, _, .nil => rfl
  | _, _, _, .cons _ _ _ _ r => by rw [List.length_cons, List.length_cons, IsTs.length r]
/-- a field, and the field changed -/
theorem IsTs.upd : ∀ {R : Rg} {vs : List V} {ts : List T} {i : Nat} {t : T}, IsTs K F H R vs ts → ts[i]? = some t →
    ∃ v Ri, vs[i]? = some v ∧ (∀ a, Ri a → R a) ∧ IsT K F H Ri v t ∧ ∀ (H' : Hp) (t' : T), (∀ a o, ¬ Ri a → H a = some o → H' a = some o) → IsT K F H' Ri v t' → IsTs K F H' R vs (setA ts i t')
  | _, _, _, _, _, .nil, h => by simp at h
  | R, v :: vs, t0 :: ts, 0, t, .cons (R1 := R1) (R2 := R2) j1 j2 d h r, e => by
    cases e
    exact ⟨v, R1, rfl, j1, h, fun H' t' k h' => .cons j1 j2 d h' (r.mono (Same.refl _) (fun a o z q => k a o (fun y => d a y z) q) fun _ z => z)⟩
  | R, v :: vs, t0 :: ts, i + 1, t, .cons (R1 := R1) (R2 := R2) j1 j2 d h r, e => by
    obtain ⟨w, Ri, e1, s1, h1, k1⟩ := IsTs.upd (i := i) r (by simpa using e)
    exact ⟨w, Ri, by simpa using e1, fun a z => j2 a (s1 a z), h1, fun H' t' k h' => .cons j1 j2 d (h.mono (Same.refl _) (fun a o z q => k a o (fun y => d a z (s1 a y)) q) fun _ z => z) (k1 H' t' k h')⟩
/-- a field stored -/
theorem IsTs.put : ∀ {R Ry : Rg} {vs : List V} {ts : List T} {i : Nat} {y : V} {t : T}, IsTs K F H R vs ts → i ≤ ts.length → IsT K F H Ry y t → (∀ a, R a → Ry a → False) → IsTs K F H (Ru R Ry) (setA vs i y) (setA ts i t)
  | R, Ry, _, _, 0, y, t, .nil, _, h, _ => .cons (R1 := Ry) (R2 := Rg0) (fun _ z => .inr z) (fun _ z => z.elim) (fun _ _ z => z) h .nil
  | R, Ry, _, _, i + 1, y, t, .nil, hl, h, _ => by simp at hl
  | R, Ry, v :: vs, u :: ts, 0, y, t, .cons j1 j2 d q r, _, h, dd => .cons (R1 := Ry) (fun _ z => .inr z) (fun _ z => .inl (j2 _ z)) (fun a z z' => dd a (j2 a z') z) h r
  | R, Ry, v :: vs, u :: ts, i + 1, y, t, .cons (R1 := R1) (R2 := R2) j1 j2 d q r, hl, h, dd =>
    .cons (R1 := R1) (R2 := Ru R2 Ry) (fun _ z => .inl (j1 _ z)) (fun _ z => z.elim (fun z => .inl (j2 _ z)) .inr) (fun a z z' => z'.elim (d a z) fun z' => dd a (j1 a z) z') q (IsTs.put r (by simpa using hl) h fun a z z' => dd a (j2 a z) z')
end

/-! ### places: a name, or fields of the object of one's own that it holds -/
abbrev Pth := List (Cd × Nat)
def atP : T → Pth → (T → Prop) → Prop
  | t, [], k => k t
  | .ins c' ts, (c, i) :: p, k => c' = c ∧ match ts[i]? with
    | some t1 => atP t1 p k
    | none => False
  | _, _ :: _, _ => False
def setP : T → Pth → T → T
  | _, [], u => u
  | .ins c ts, (_, i) :: p, u => match ts[i]? with
    | some t1 => .ins c (setA ts i (setP t1 p u))
    | none => .ins c ts
  | t, _ :: _, _ => t
inductive PathV (H : Hp) : V → T → Pth → V → T → Prop
  | nil {v : V} {t : T} : PathV H v t [] v t
  | cons {a dx : Addr} {c : Cd} {vs : List V} {ts : List T} {i : Nat} {v1 v' : V} {t1 t' : T} {p : Pth} : H a = some (.ins c.C dx (c.ns.zip vs)) → vs[i]? = some v1 → ts[i]? = some t1 → PathV H v1 t1 p v' t' → PathV H (.ref a) (.ins c ts) ((c, i) :: p) v' t'
section
variable {K : PySem.W.Frag} {F H H' : Hp}
theorem PathV.mono (s : Same H H') {v v' : V} {t t' : T} {p : Pth} (h : PathV H v t p v' t') : PathV H' v t p v' t' := by
  induction h with
  | nil => exact .nil
  | cons h1 h2 h3 _ ih => exact .cons (s _ _ h1) h2 h3 ih
theorem PathV.snoc {v v' v1 : V} {t t1 : T} {p : Pth} {a dx : Addr} {c : Cd} {vs : List V} {ts : List T} {i : Nat} (h : PathV H v t p v' (.ins c ts)) (e : v' = .ref a) (h1 : H a = some (.ins c.C dx (c.ns.zip vs))) (h2 : vs[i]? = some v1) (h3 : ts[i]? = some t1) : PathV H v t (p ++ [(c, i)]) v1 t1 := by
  generalize hu : (T.ins c ts) = u at h
  induction h with
  | nil => subst hu; subst e; exact .cons h1 h2 h3 .nil
  | cons g1 g2 g3 _ ih => exact .cons g1 g2 g3 (ih e hu)
theorem IsT.path {v : V} {t : T} {R : Rg} : ∀ {p : Pth} {k : T → Prop}, IsT K F H R v t → atP t p k → ∃ v' u R', PathV H v t p v' u ∧ IsT K F H R' v' u ∧ (∀ a, R' a → R a) ∧ k u := by
  intro p
  induction p generalizing v t R with
  | nil => intro k h q; exact ⟨v, t, R, .nil, h, fun _ z => z, q⟩
  | cons x p ih =>
    intro k h q
    obtain ⟨c, i⟩ := x
    cases t with
    | fz _ => exact q.elim
    | lst _ => exact q.elim
    | ins c' ts =>
      have q : c' = c ∧ (match ts[i]? with | some t1 => atP t1 p k | none => False) := q
      obtain ⟨e0, q1⟩ := q
      subst e0
      cases e : ts[i]? with
      | none => rw [e] at q1; exact q1.elim
      | some t1 =>
        rw [e] at q1
        cases h with
        | ins r hh l n j hs =>
          obtain ⟨w, Ri, e1, s1, h1, _⟩ := hs.upd e
          obtain ⟨v', u, R', pv, hu, su, ku⟩ := ih h1 q1
          exact ⟨v', u, R', .cons hh e1 e pv, hu, fun a z => j a (s1 a (su a z)), ku⟩
/-- the object at the place is changed -/
theorem IsT.pathUpd {v v' : V} {t u : T} {p : Pth} (pv : PathV H v t p v' u) : ∀ {R : Rg}, IsT K F H R v t → ∃ R', (∀ a, R' a → R a) ∧ IsT K F H R' v' u ∧ ∀ (H' : Hp) (u' : T), (∀ a o, ¬ R' a → H a = some o → H' a = some o) → IsT K F H' R' v' u' → IsT K F H' R v (setP t p u') := by
  induction pv with
  | nil => intro R h; exact ⟨R, fun _ z => z, h, fun H' u' _ h' => h'⟩
  | @cons a dx c vs ts i v1 v' t1 t' p g1 g2 g3 pv ih =>
    intro R h
    cases h with
    | @ins _ R' _ dx' _ vs' _ r hh l n j hs =>
      rw [g1] at hh
      have ez : c.ns.zip vs = c.ns.zip vs' := by injection hh with hh; injection hh
      obtain ⟨w, Ri, e1, s1, h1, k1⟩ := hs.upd g3
      -- the field's value is the one of the path
      have hw : w = v1 := by
        have hi : i < c.ns.length := by
          have := (List.getElem?_eq_some_iff.mp e1).1
          omega
        have e2 : (c.ns.zip vs)[i]? = some (c.ns[i], v1) := by rw [List.getElem?_zip_eq_some]; exact ⟨List.getElem?_eq_getElem hi, g2⟩
        have e3 : (c.ns.zip vs')[i]? = some (c.ns[i], w) := by rw [List.getElem?_zip_eq_some]; exact ⟨List.getElem?_eq_getElem hi, e1⟩
        rw [ez, e3] at e2
        cases e2; rfl
      subst hw
      obtain ⟨R'', s2, h2, k2⟩ := ih h1
      refine ⟨R'', fun a z => j a (s1 a (s2 a z)), h2, fun H' u' k h' => ?_⟩
      have e : setP (.ins c ts) ((c, i) :: p) u' = .ins c (setA ts i (setP t1 p u')) := by
        show (match ts[i]? with | some t1 => T.ins c (setA ts i (setP t1 p u')) | none => .ins c ts) = _
        rw [g3]
      rw [e]
      refine .ins r (k _ _ (fun z => n (s1 _ (s2 _ z))) (g1.trans hh)) l n j (k1 H' _ (fun a o z q => k a o (fun y => z (s2 a y)) q) (k2 H' u' k h'))
end
section
variable {K : PySem.W.Frag} {pv : List (Option V)} {F H H' : Hp} {σ : L2.St} {env : Ev} {B : Nat → Rg} {v : V} {t t' : T} {j : Nat}
/-- the object that the name j holds is changed -/
theorem Rel.modify (r : Rel K pv F H σ env B) (g : gt env j = some t) (e : σ[j]? = some (some v)) (k : ∀ a o, ¬ B j a → H a = some o → H' a = some o) (lv : ∀ a, B j a → H' a ≠ none) (s : Same F H') (it : IsT K F H' (B j) v t') :
    Rel K pv F H' σ (st env j t') B ∧ Step F H (U B) F H' (U B) := by
  refine ⟨⟨s, by rw [st_eq, List.length_set]; exact r.len, fun i u h => ?_, r.dis, r.off, fun i a h => ?_, r.fix⟩, ⟨Same.refl _, fun a o q n => k a o (fun z => n ⟨j, z⟩) q, fun a h => .inl h, fun a h => .inl h⟩⟩
  · rw [st_eq] at h
    by_cases z : i = j
    · subst z
      rw [List.getElem?_set] at h
      split at h
      · split at h
        · cases h; exact ⟨v, e, it⟩
        · cases h
      · rename_i n; exact absurd rfl n
    · rw [List.getElem?_set_ne (Ne.symm z)] at h
      obtain ⟨w, e1, e2⟩ := r.at_ i u h
      exact ⟨w, e1, e2.mono (Same.refl _) (fun a o hb q => k a o (fun y => z (r.dis i j a hb y)) q) fun _ z => z⟩
  · by_cases z : i = j
    · subst z; exact lv a h
    · cases q : H a with
      | none => exact absurd q (r.live i a h)
      | some o => rw [k a o (fun y => z (r.dis i j a h y)) q]; simp
/-- .. a list there -/
theorem Rel.modLst (r : Rel K pv F H σ env B) (g : gt env j = some t) (e : σ[j]? = some (some v)) {p : Pth} {v' : V} {ds : List D} (pth : PathV H v t p v' (.lst ds)) :
    ∃ a vs, v' = .ref a ∧ H a = some (.lst vs) ∧ IsDs K F vs ds ∧ ∀ vs' ds', IsDs K F vs' ds' → Rel K pv F (upd H a (.lst vs')) σ (st env j (setP t p (.lst ds'))) B ∧ Step F H (U B) F (upd H a (.lst vs')) (U B) := by
  obtain ⟨w, e1, e2⟩ := r.at_ j t (gt_some g)
  rw [e] at e1; cases e1
  obtain ⟨R', s1, h1, k1⟩ := IsT.pathUpd pth e2
  cases h1 with
  | @lst _ a vs _ ra ha hd =>
    refine ⟨a, vs, rfl, ha, hd, fun vs' ds' hd' => ?_⟩
    have k : ∀ b o, ¬ R' b → H b = some o → upd H a (.lst vs') b = some o := fun b o n q => by
      rw [upd_ne (fun z => n (by rw [z]; exact ra))]; exact q
    refine r.modify g e (fun b o n q => k b o (fun z => n (s1 b z)) q) (fun b hb => ?_) (fun b o q => ?_) (k1 _ _ k (.lst ra upd_same hd'))
    · by_cases z : b = a
      · subst z; rw [upd_same]; simp
      · rw [upd_ne z]; exact r.live j b hb
    · have : b ≠ a := fun z => by subst z; rw [r.off j b (s1 b ra)] at q; cases q
      rw [upd_ne this]; exact r.sub b o q
end

/-! ### quiet expressions: they change no name and no object -/
abbrev WQ := Ev → (D → Prop) → Prop
abbrev WQs := Ev → (List D → Prop) → Prop
def TQ (X : Cx) (pm : List Bool) (w : WQ) : TE := fun σ H Q => ∃ pv F B env P, Mask pm pv ∧ Rel X.K pv F H σ env B ∧ w env P ∧ ∀ d, P d → ∀ F' H' v, Alloc F H F' H' Rg0 → Pk X.K F' H' v d → Q v H'
def TQv (X : Cx) (pm : List Bool) (w : WQ) : TE := fun σ H Q => ∃ pv F B env P, Mask pm pv ∧ Rel X.K pv F H σ env B ∧ w env P ∧ ∀ d, P d → ∀ F' H' v, Alloc F H F' H' Rg0 → IsD X.K F' v d → Q v H'
def TQs (X : Cx) (pm : List Bool) (w : WQs) : TA := fun σ H Q => ∃ pv F B env P, Mask pm pv ∧ Rel X.K pv F H σ env B ∧ w env P ∧ ∀ ds, P ds → ∀ F' H' vs, Alloc F H F' H' Rg0 → Pks X.K F' H' vs ds → Q vs H'
def TQvs (X : Cx) (pm : List Bool) (w : WQs) : TA := fun σ H Q => ∃ pv F B env P, Mask pm pv ∧ Rel X.K pv F H σ env B ∧ w env P ∧ ∀ ds, P ds → ∀ F' H' vs, Alloc F H F' H' Rg0 → IsDs X.K F' vs ds → Q vs H'
abbrev ZQ (X : Cx) (pm : List Bool) (e : Expr) (w : WQ) : Prop := PE X e (TQ X pm w)
abbrev ZV (X : Cx) (pm : List Bool) (e : Expr) (w : WQ) : Prop := PE X e (TQv X pm w)
abbrev ZQs (X : Cx) (pm : List Bool) (es : List Expr) (w : WQs) : Prop := PA X es (TQs X pm w)
abbrev ZVs (X : Cx) (pm : List Bool) (es : List Expr) (w : WQs) : Prop := PA X es (TQvs X pm w)
section
variable {K : PySem.W.Frag} {F H F1 H1 F2 H2 : Hp} {R : Rg} {v : V} {d : D} {t : T}
theorem Alloc.trans (a : Alloc F H F1 H1 Rg0) (b : Alloc F1 H1 F2 H2 R) : Alloc F H F2 H2 R where
  le := a.le.trans b.le
  kp := a.kp.trans b.kp
  sub := b.sub
  newF := fun x h => by
    rcases b.newF x h with z | z
    · exact a.newF x z
    · exact .inr (a.kp.free z)
  new := fun x h => a.kp.free (b.new x h)
  off := b.off
  live := b.live
theorem Alloc.freeze (a : Alloc F H F1 H1 R) (h : IsT K F1 H1 R v t) : ∃ F2, Alloc F H F2 H1 Rg0 ∧ IsD K F2 v t.fr := by
  classical
  have hl : Same F1 (fun b => if R b then H1 b else F1 b) := fun b x q => by
    have n : ¬ R b := fun z => by rw [a.off b z] at q; cases q
    show (if R b then H1 b else F1 b) = some x
    rw [if_neg n]; exact q
  refine ⟨fun b => if R b then H1 b else F1 b, ⟨a.le.trans hl, a.kp, fun b x q => ?_, fun b q => ?_, fun _ z => z.elim, fun _ z => z.elim, fun _ z => z.elim⟩, h.freeze hl fun b z => if_pos z⟩
  · replace q : (if R b then H1 b else F1 b) = some x := q
    by_cases z : R b
    · rw [if_pos z] at q; exact q
    · rw [if_neg z] at q; exact a.sub b x q
  · replace q : (if R b then H1 b else F1 b) ≠ none := q
    by_cases z : R b
    · exact .inr (a.new b z)
    · rw [if_neg z] at q; exact a.newF b q
theorem Pk.mono (l : Same F F1) (s : Same H H1) : Pk K F H v d → Pk K F1 H1 v d
  | .d h => .d (h.mono l)
  | .lst h q => .lst (s _ _ h) (q.mono l)
  | .ins h l => .ins (s _ _ h) l
theorem Pks.mono (l : Same F F1) (s : Same H H1) : ∀ {vs : List V} {ds : List D}, Pks K F H vs ds → Pks K F1 H1 vs ds
  | _, _, .nil => .nil
  | _, _, .cons h r => .cons (h.mono l s) (Pks.mono l s r)
end
def qC (d : D) : WQ := fun _ P => P d
def qS (j : Nat) : WQ := fun env P => match gt env j with
  | some t => P t.fr
  | none => False
/-- a name that holds data -/
def qV (j : Nat) : WQ := fun env P => match gt env j with
  | some (.fz d) => P d
  | _ => False
/-- the object of one's own at a place -/
def qP (j : Nat) (p : Pth) : WQ := fun env P => match gt env j with
  | some t => atP t p fun u => P u.fr
  | none => False
/-- data at a place -/
def qPv (j : Nat) (p : Pth) : WQ := fun env P => match gt env j with
  | some t => atP t p fun u => match u with
    | .fz d => P d
    | _ => False
  | none => False
/-- a field of data -/
def qF (c : Cd) (i : Nat) (w : WQ) : WQ := fun env P => w env fun d => match d with
  | .ins c' ds => c' = c ∧ match ds[i]? with
    | some x => P x
    | none => False
  | _ => False
def q2 (g : D → D → (T → Prop) → Prop) (wa wb : WQ) : WQ := fun env P => wa env fun x => wb env fun y => g x y fun z => P z.fr
def q1 (g : D → (T → Prop) → Prop) (wa : WQ) : WQ := fun env P => wa env fun x => g x fun z => P z.fr
def qN (g : List D → (T → Prop) → Prop) (wa : WQs) : WQ := fun env P => wa env fun ds => g ds fun z => P z.fr
def qNil : WQs := fun _ P => P []
def qCons (w : WQ) (r : WQs) : WQs := fun env P => w env fun d => r env fun ds => P (d :: ds)
def qT (wa : WQs) : WQ := fun env P => wa env fun ds => ds.length ≤ sizeLine ∧ P (.tup ds)
section
variable {X : Cx} {pm : List Bool} {a b e : Expr} {es : List Expr} {w wa wb : WQ} {ws : WQs} {pos : Pos}
theorem zq_v (h : ZV X pm e w) : ZQ X pm e w := pe_imp h fun σ H Q ⟨pv, F, B, env, P, m, rel, hw, hq⟩ => ⟨pv, F, B, env, P, m, rel, hw, fun d hd F' H' v al i => hq d hd F' H' v al (.d i)⟩
theorem ze_v (h : ZV X pm e w) : ZE X pm e (fun env P => w env fun d => P (.fz d) env) := pe_imp h fun σ H Q ⟨pv, F, B, env, P, m, rel, hw, hq⟩ => ⟨pv, F, B, env, _, m, rel, hw, fun d hd F' H' v al i => by
  obtain ⟨r1, s1, _⟩ := rel.alloc al
  exact hq _ _ hd F' H' B Rg0 v s1 r1 (OwnV.fz i)⟩
theorem zv_c {v : V} {d : D} (h : PE X e (tC v)) (hd : ∀ K F, IsD K F v d) : ZV X pm e (qC d) := pe_imp h fun σ H Q ⟨pv, F, B, env, P, m, rel, hw, hq⟩ => hq d hw F H v (.refl rel.sub) (hd _ _)
theorem zv_int {i : Int} {j} : ZV X pm (.Constant (.int i) j pos) (qC (.int i)) := zv_c pe_int fun _ _ => .int i
theorem zv_bl {b : Bool} {j} : ZV X pm (.Constant (.bool b) j pos) (qC (.bl b)) := zv_c pe_bl fun _ _ => .bl b
theorem zv_non {j} : ZV X pm (.Constant .none j pos) (qC .non) := zv_c pe_non fun _ _ => .non
theorem zv_str {x : Str} {j} : ZV X pm (.Constant (.str x) j pos) (qC (.str x)) := zv_c pe_str fun _ _ => .str x
theorem zq_s (j : Nat) {x : Str} (hN : X.N[j]? = some x := by rfl) (hv : Vis X.env.scope x := by first | exact Or.inl rfl | exact Or.inr (Or.inl rfl) | exact Or.inr (Or.inr rfl)) (hd : (x == ("__debug__" : Str)) = false := by decide)
    (hcd : (x == ("__classdict__" : Str)) = false := by decide) : ZQ X pm (.Name x pos) (qS j) := pe_imp (pe_var hN hv hd hcd) fun σ H Q ⟨pv, F, B, env, P, m, rel, hw, hq⟩ => by
  have hw : (match gt env j with | some t => P t.fr | none => False) := hw
  cases g : gt env j with
  | none => rw [g] at hw; exact hw.elim
  | some t =>
    rw [g] at hw
    obtain ⟨v, e1, e2⟩ := rel.at_ j t (gt_some g)
    exact ⟨v, e1, hq _ hw F H v (.refl rel.sub) (.of e2)⟩
theorem zv_s (j : Nat) {x : Str} (hN : X.N[j]? = some x := by rfl) (hv : Vis X.env.scope x := by first | exact Or.inl rfl | exact Or.inr (Or.inl rfl) | exact Or.inr (Or.inr rfl)) (hd : (x == ("__debug__" : Str)) = false := by decide)
    (hcd : (x == ("__classdict__" : Str)) = false := by decide) : ZV X pm (.Name x pos) (qV j) := pe_imp (pe_var hN hv hd hcd) fun σ H Q ⟨pv, F, B, env, P, m, rel, hw, hq⟩ => by
  have hw : (match gt env j with | some (.fz d) => P d | _ => False) := hw
  cases g : gt env j with
  | none => rw [g] at hw; exact hw.elim
  | some t =>
    rw [g] at hw
    obtain ⟨v, e1, e2⟩ := rel.at_ j t (gt_some g)
    cases t with
    | fz d =>
      cases e2 with
      | fz h => exact ⟨v, e1, hq _ hw F H v (.refl rel.sub) h⟩
    | lst _ => exact hw.elim
    | ins _ _ => exact hw.elim
/-- a place -/
def TPl (X : Cx) (pm : List Bool) (j : Nat) (p : Pth) : TE := fun σ H Q => ∃ pv F B env t k, Mask pm pv ∧ Rel X.K pv F H σ env B ∧ gt env j = some t ∧ atP t p k ∧ ∀ v0 v u R, σ[j]? = some (some v0) → PathV H v0 t p v u → IsT X.K F H R v u → k u → Q v H
abbrev ZP (X : Cx) (pm : List Bool) (e : Expr) (j : Nat) (p : Pth) : Prop := PE X e (TPl X pm j p)
theorem zp_s (j : Nat) {x : Str} (hN : X.N[j]? = some x := by rfl) (hv : Vis X.env.scope x := by first | exact Or.inl rfl | exact Or.inr (Or.inl rfl) | exact Or.inr (Or.inr rfl)) (hd : (x == ("__debug__" : Str)) = false := by decide)
    (hcd : (x == ("__classdict__" : Str)) = false := by decide) : ZP X pm (.Name x pos) j [] := pe_imp (pe_var hN hv hd hcd) fun σ H Q ⟨pv, F, B, env, t, k, m, rel, g, ha, hq⟩ => by
  obtain ⟨v, e1, e2⟩ := rel.at_ j t (gt_some g)
  exact ⟨v, e1, hq v v t _ e1 .nil e2 ha⟩
theorem atP_snoc : ∀ {t : T} {p : Pth} {c : Cd} {i : Nat} {k : T → Prop}, atP t (p ++ [(c, i)]) k → atP t p fun u => ∃ ts t1, u = .ins c ts ∧ ts[i]? = some t1 ∧ k t1
  | .ins c' ts, [], c, i, k, h => by
    have h : c' = c ∧ (match ts[i]? with | some t1 => k t1 | none => False) := h
    obtain ⟨e0, h1⟩ := h
    subst e0
    cases e : ts[i]? with
    | none => rw [e] at h1; exact h1.elim
    | some t1 => rw [e] at h1; exact ⟨ts, t1, rfl, e, h1⟩
  | .fz _, [], _, _, _, h => h.elim
  | .lst _, [], _, _, _, h => h.elim
  | .ins c' ts, (c0, i0) :: p, c, i, k, h => by
    have h : c' = c0 ∧ (match ts[i0]? with | some t1 => atP t1 (p ++ [(c, i)]) k | none => False) := h
    refine ⟨h.1, ?_⟩
    cases e : ts[i0]? with
    | none => rw [e] at h; exact h.2.elim
    | some t1 => rw [e] at h; exact atP_snoc h.2
  | .fz _, _ :: _, _, _, _, h => h.elim
  | .lst _, _ :: _, _, _, _, h => h.elim
theorem zp_f {j : Nat} {p : Pth} {c : Cd} (i : Nat) {f : Str} {pos' : Pos} (hc : ClsOk X.K c) (h : ZP X pm e j p) (hi : c.ns[i]? = some f := by rfl) (hb : attributeBase e f X.env (eval e X.env) = eval e X.env := by rfl) : ZP X pm (.Attribute e f pos') j (p ++ [(c, i)]) :=
  pe_imp (pe_fld h hb) fun σ H Q ⟨pv, F, B, env, t, k, m, rel, g, ha, hq⟩ => ⟨pv, F, B, env, t, _, m, rel, g, atP_snoc ha, fun v0 v u R e1 hp hu ⟨ts, t1, eu, et, kt⟩ => by
    subst eu
    cases hu with
    | @ins _ R' a dx _ vs _ r hh l n jj hs =>
      obtain ⟨w, Ri, e2, s2, h2, _⟩ := hs.upd et
      exact ⟨a, c.C, dx, _, w, rfl, hh, hc.cls, hc.no f (List.mem_of_getElem? hi), look_zip hc.nd hi e2, hq v0 w t1 Ri e1 (hp.snoc rfl hh e2 et) h2 kt⟩⟩
theorem zq_p {j : Nat} {p : Pth} (h : ZP X pm e j p) : ZQ X pm e (qP j p) := pe_imp h fun σ H Q ⟨pv, F, B, env, P, m, rel, hw, hq⟩ => by
  have hw : (match gt env j with | some t => atP t p fun u => P u.fr | none => False) := hw
  cases g : gt env j with
  | none => rw [g] at hw; exact hw.elim
  | some t =>
    rw [g] at hw
    exact ⟨pv, F, B, env, t, _, m, rel, g, hw, fun v0 v u R e1 hp hu ku => hq _ ku F H v (.refl rel.sub) (.of hu)⟩
theorem zv_p {j : Nat} {p : Pth} (h : ZP X pm e j p) : ZV X pm e (qPv j p) := pe_imp h fun σ H Q ⟨pv, F, B, env, P, m, rel, hw, hq⟩ => by
  have hw : (match gt env j with | some t => atP t p fun u => (match u with | .fz d => P d | _ => False) | none => False) := hw
  cases g : gt env j with
  | none => rw [g] at hw; exact hw.elim
  | some t =>
    rw [g] at hw
    refine ⟨pv, F, B, env, t, _, m, rel, g, hw, fun v0 v u R e1 hp hu ku => ?_⟩
    cases u with
    | fz d =>
      cases hu with
      | fz h => exact hq _ ku F H v (.refl rel.sub) h
    | lst _ => exact ku.elim
    | ins _ _ => exact ku.elim
theorem zv_f {c : Cd} (i : Nat) {f : Str} {pos' : Pos} (hc : ClsOk X.K c) (h : ZV X pm e w) (hi : c.ns[i]? = some f := by rfl) (hb : attributeBase e f X.env (eval e X.env) = eval e X.env := by rfl) : ZV X pm (.Attribute e f pos') (qF c i w) :=
  pe_imp (pe_fld h hb) fun σ H Q ⟨pv, F, B, env, P, m, rel, hw, hq⟩ => ⟨pv, F, B, env, _, m, rel, hw, fun d hd F' H' v al k => by
    cases d <;> first
      | exact hd.elim
      | skip
    rename_i c' ds
    obtain ⟨rfl, hd⟩ := hd
    cases k with
    | @ins a dx _ vs _ hh l hs =>
      cases e : ds[i]? with
      | none => simp only [e] at hd
      | some x =>
        simp only [e] at hd
        obtain ⟨y, e1, e2⟩ := hs.get e
        exact ⟨a, _, dx, _, y, rfl, al.sub _ _ hh, hc.cls, hc.no f (List.mem_of_getElem? hi), look_zip hc.nd hi e1, hq _ hd F' H' y al e2⟩⟩
theorem tq_op2 {r : R2} {g} (O : Op2 X.K r g) {σ H Q} : TQv X pm (q2 g wa wb) σ H Q → tOp r (TQ X pm wa) (TQ X pm wb) σ H Q := fun ⟨pv, F, B, env, P, m, rel, hw, hq⟩ =>
  ⟨pv, F, B, env, _, m, rel, hw, fun x hx F1 H1 v a1 k1 => by
    obtain ⟨r1, s1, _⟩ := rel.alloc a1
    exact ⟨pv, F1, B, env, _, m, r1, hx, fun y hy F2 H2 u a2 k2 => by
      have a12 := a1.trans a2
      refine O.run F2 H2 v u x y _ _ a12.sub (k1.mono a2.le a2.kp) k2 hy fun z w' F3 H3 R3 hz a3 it => ?_
      obtain ⟨F4, a4, d4⟩ := (a12.trans a3).freeze it
      exact hq _ hz F4 H3 w' a4 d4⟩⟩
theorem tq_op1 {r : V → Hp → VK → Prop} {g} (O : Op1 X.K r g) {σ H Q} : TQv X pm (q1 g wa) σ H Q → tUn r (TQ X pm wa) σ H Q := fun ⟨pv, F, B, env, P, m, rel, hw, hq⟩ =>
  ⟨pv, F, B, env, _, m, rel, hw, fun x hx F1 H1 v a1 k1 => by
    refine O.run F1 H1 v x _ _ a1.sub k1 hx fun z w' F3 H3 R3 hz a3 it => ?_
    obtain ⟨F4, a4, d4⟩ := (a1.trans a3).freeze it
    exact hq _ hz F4 H3 w' a4 d4⟩
theorem tq_opN {r : List V → Hp → VK → Prop} {g} (O : OpN X.K r g) {σ H Q} : TQv X pm (qN g ws) σ H Q → tCB r (TQs X pm ws) σ H Q := fun ⟨pv, F, B, env, P, m, rel, hw, hq⟩ =>
  ⟨pv, F, B, env, _, m, rel, hw, fun x hx F1 H1 v a1 k1 => by
    refine O.run F1 H1 v x _ _ a1.sub k1 hx fun z w' F3 H3 R3 hz a3 it => ?_
    obtain ⟨F4, a4, d4⟩ := (a1.trans a3).freeze it
    exact hq _ hz F4 H3 w' a4 d4⟩
theorem zqs_nil : ZQs X pm [] qNil := pa_imp pa_nil fun σ H Q ⟨pv, F, B, env, P, m, rel, hw, hq⟩ => hq _ hw F H [] (.refl rel.sub) .nil
theorem zqs_cons (h : ZQ X pm e w) (hr : ZQs X pm es ws) (hs : starEach (e :: es) X.env = (false, eval e X.env) :: starEach es X.env := by rfl) : ZQs X pm (e :: es) (qCons w ws) :=
  pa_imp (pa_cons h hr hs) fun σ H Q ⟨pv, F, B, env, P, m, rel, hw, hq⟩ => ⟨pv, F, B, env, _, m, rel, hw, fun x hx F1 H1 v a1 k1 => by
    obtain ⟨r1, s1, _⟩ := rel.alloc a1
    exact ⟨pv, F1, B, env, _, m, r1, hx, fun ds hds F2 H2 vs a2 k2 => hq _ hds F2 H2 _ (a1.trans a2) (.cons (k1.mono a2.le a2.kp) k2)⟩⟩
theorem zvs_nil : ZVs X pm [] qNil := pa_imp pa_nil fun σ H Q ⟨pv, F, B, env, P, m, rel, hw, hq⟩ => hq _ hw F H [] (.refl rel.sub) .nil
theorem zvs_cons (h : ZV X pm e w) (hr : ZVs X pm es ws) (hs : starEach (e :: es) X.env = (false, eval e X.env) :: starEach es X.env := by rfl) : ZVs X pm (e :: es) (qCons w ws) :=
  pa_imp (pa_cons h hr hs) fun σ H Q ⟨pv, F, B, env, P, m, rel, hw, hq⟩ => ⟨pv, F, B, env, _, m, rel, hw, fun x hx F1 H1 v a1 k1 => by
    obtain ⟨r1, s1, _⟩ := rel.alloc a1
    exact ⟨pv, F1, B, env, _, m, r1, hx, fun ds hds F2 H2 vs a2 k2 => hq _ hds F2 H2 _ (a1.trans a2) (.cons (k1.mono a2.le) k2)⟩⟩
theorem zv_op2 {op : Operator} {r : R2} {g} (hr : OpR X (binaryOp op) r) (O : Op2 X.K r g) (ha : ZQ X pm a wa) (hb : ZQ X pm b wb) : ZV X pm (.BinOp a op b pos) (q2 g wa wb) := pe_imp (pe_op hr ha hb) fun _ _ _ => tq_op2 O
theorem zv_un {op : UnaryOp} {r : V → Hp → VK → Prop} {g} (hr : UnR X (unaryOp op) r) (O : Op1 X.K r g) (ha : ZQ X pm a wa) : ZV X pm (.UnaryOp op a pos) (q1 g wa) := pe_imp (pe_un hr ha) fun _ _ _ => tq_op1 O
theorem zv_cmp {op : CmpOp} {r : R2} {g} (hr : OpR X (compareOp op) r) (O : Op2 X.K r g) (ha : ZQ X pm a wa) (hb : ZQ X pm b wb) (hm : behindInMarks op b = false) : ZV X pm (.Compare a [op] [b] pos) (q2 g wa wb) := pe_imp (pe_cmpR hr ha hb hm) fun _ _ _ => tq_op2 O
theorem zv_ix {r : R2} {g} (hr : IxR X r) (O : Op2 X.K r g) (ha : ZQ X pm a wa) (hb : ZQ X pm b wb) (hp : PlainIx b) : ZV X pm (.Subscript a b pos) (q2 g wa wb) := pe_imp (pe_ix hr ha hb hp) fun _ _ _ => tq_op2 O
theorem zv_callB {x : Str} {p : Pos} {id : String} {r : List V → Hp → VK → Prop} {g} (hc : CallR X (.builtin id) r) (O : OpN X.K r g) (hg : Gl X x) (hm : X.mg x = none) (hv : bootBuiltins x = some (.builtin id)) (ha : ZQs X pm (e :: es) ws) (hn : x ≠ "__name__" := by decide) (hdb : (x == ("__debug__" : Str)) = false := by decide)
    (he : starEach (e :: es) X.env = (false, eval e X.env) :: starEach es X.env := by rfl) (hpl : (backTo pos (starEach es X.env)).any (·.1) = false := by rfl) : ZV X pm (.Call (.Name x p) (e :: es) [] pos) (qN g ws) :=
  pe_imp (pe_callB hc hg hm hv ha hn hdb he hpl) fun _ _ _ => tq_opN O
theorem zv_callTy {x : Str} {p : Pos} {id : String} {r : List V → Hp → VK → Prop} {g} (hc : CallR X (.type id) r) (O : OpN X.K r g) (hg : Gl X x) (hm : X.mg x = none) (hv : bootBuiltins x = some (.type id)) (ha : ZQs X pm (e :: es) ws) (hn : x ≠ "__name__" := by decide) (hdb : (x == ("__debug__" : Str)) = false := by decide)
    (he : starEach (e :: es) X.env = (false, eval e X.env) :: starEach es X.env := by rfl) (hpl : (backTo pos (starEach es X.env)).any (·.1) = false := by rfl) : ZV X pm (.Call (.Name x p) (e :: es) [] pos) (qN g ws) :=
  pe_imp (pe_callTy hc hg hm hv ha hn hdb he hpl) fun _ _ _ => tq_opN O
theorem zv_tup {k} (h : ZVs X pm es ws) : ZV X pm (.Tuple es k pos) (qT ws) := pe_imp (pe_tup h) fun σ H Q ⟨pv, F, B, env, P, m, rel, hw, hq⟩ => ⟨pv, F, B, env, _, m, rel, hw, fun ds hd F1 H1 vs a1 k1 => by
  refine ⟨by rw [k1.length]; exact hd.1, fun p hp => ?_⟩
  have al := Alloc.frz (o := .tup vs) a1.sub hp
  exact hq _ hd.2 _ _ _ (a1.trans al) (.tup (.of upd_same) (k1.mono al.le))⟩
end

/-! ### list methods that change the list -/
/-- g: the list as it stands, the arguments; the answer, the list behind -/
structure MutL (K : PySem.W.Frag) (r : V → List V → Hp → VK → Prop) (g : List D → List D → (D → List D → Prop) → Prop) : Prop where
  run : ∀ (F H : Hp) (a : Addr) (vs : List V) (ds : List D) (as : List V) (es : List D) (P : D → List D → Prop) (Q : VK), Same F H → H a = some (.lst vs) → IsDs K F vs ds → IsDs K F as es → g ds es P →
    (∀ (z : D) (ds' : List D) (w' : V) (vs' : List V), P z ds' → IsD K F w' z → IsDs K F vs' ds' → Q w' (upd H a (.lst vs'))) → r (.ref a) as H Q
def wMut (g : List D → List D → (D → List D → Prop) → Prop) (j : Nat) (wa : WA) : WE := fun env P => (match gt env j with
  | some (.lst _) => True
  | _ => False) ∧ wa env fun as e => match gt e j, allD as with
  | some (.lst ds), some es => g ds es fun z ds' => P (.fz z) (st e j (.lst ds'))
  | _, _ => False
def wMutP (g : List D → List D → (D → List D → Prop) → Prop) (j : Nat) (p : Pth) (wa : WQs) : WE := fun env P => match gt env j with
  | some t => atP t p fun u => match u with
    | .lst ds => wa env fun es => g ds es fun z ds' => P (.fz z) (st env j (setP t p (.lst ds')))
    | _ => False
  | none => False
section
variable {X : Cx} {pm : List Bool} {o e : Expr} {es : List Expr} {wa : WA} {ws : WQs} {name : Str} {apos cpos : Pos} {id : String} {r : V → List V → Hp → VK → Prop} {g : List D → List D → (D → List D → Prop) → Prop} {x : Str} {pos : Pos}
theorem tm_slot {j : Nat} (O : MutL X.K r g) {σ : L2.St} {H : Hp} {Q : VK} (h : TZ X pm (wMut g j wa) σ H Q) : ∃ v, σ[j]? = some (some v) ∧ tyV X.K "list" v H ∧ TAz X pm wa σ H fun xs H2 => r v xs H2 Q := by
  obtain ⟨pv, F, B, env, P, m, rel, ⟨hs, hw⟩, hq⟩ := h
  cases g0 : gt env j with
  | none => simp only [g0] at hs
  | some t =>
    cases t with
    | fz _ => simp only [g0] at hs
    | ins _ _ => simp only [g0] at hs
    | lst ds0 =>
      obtain ⟨v, e1, e2⟩ := rel.at_ j _ (gt_some g0)
      cases e2 with
      | lst ra ha hd =>
        refine ⟨_, e1, .inl ⟨rfl, _, SqL.of ha⟩, pv, F, B, env, _, m, rel, hw, fun as e3 h1 F1 H1 B1 vs s1 r1 i1 => ?_⟩
        cases g1 : gt e3 j with
        | none => simp only [g1] at h1
        | some t =>
          cases t with
          | fz _ => simp only [g1] at h1
          | ins _ _ => simp only [g1] at h1
          | lst ds =>
            cases q : allD as with
            | none => simp only [g1, q] at h1
            | some es =>
              simp only [g1, q] at h1
              obtain ⟨a, us, ea, hu, du, k⟩ := r1.modLst g1 e1 (p := []) .nil
              cases ea
              refine O.run F1 H1 _ us ds vs es _ _ r1.sub hu du (allD_ok q i1) h1 fun z ds' w' vs' hz hz' hvs => ?_
              obtain ⟨r2, s2⟩ := k vs' ds' hvs
              exact hq _ _ hz F1 _ B1 Rg0 w' (s1.trans s2).r0 r2 (OwnV.fz hz')
theorem ze_mut (j : Nat) (slot : Slot "list" name id) (hty : typeOf (.builtin id) = pure (.type "method_descriptor")) (hm : MtR X id r) (O : MutL X.K r g) (ha : ZA X pm (e :: es) wa) (hN : X.N[j]? = some x := by rfl) (hv : Vis X.env.scope x := by first | exact Or.inl rfl | exact Or.inr (Or.inl rfl) | exact Or.inr (Or.inr rfl)) (hd : (x == ("__debug__" : Str)) = false := by decide)
    (hcd : (x == ("__classdict__" : Str)) = false := by decide)
    (hbase : attributeBase (.Name x pos) name X.env (eval (.Name x pos) X.env) = eval (.Name x pos) X.env := by rfl)
    (hfew : ((backTo cpos (starEach (e :: es) X.env)).all (fun x => !x.1) && (backToKw cpos (keywordEach [] X.env)).all (fun x => x.1.isSome)
      && decide ((e :: es).length + ([] : List Keyword).length + (if ([] : List Keyword).isEmpty then 0 else 1) < 30)) = true := by rfl)
    (hline : (apos.endLine == cpos.line) = true := by rfl) (hs : starEach (e :: es) X.env = (false, eval e X.env) :: starEach es X.env := by rfl) (hplain : (backTo cpos (starEach es X.env)).any (·.1) = false := by rfl) :
    ZE X pm (.Call (.Attribute (.Name x pos) name apos) (e :: es) [] cpos) (wMut g j wa) := pe_imp (pe_bm PySem.F.plainAttrs_list slot hty hm (pe_var hN hv hd hcd) ha hbase hfew hline hs hplain) fun σ H Q h => tm_slot O h
theorem ze_mut0 (j : Nat) (slot : Slot "list" name id) (hty : typeOf (.builtin id) = pure (.type "method_descriptor")) (hm : MtR X id r) (O : MutL X.K r g) (hN : X.N[j]? = some x := by rfl) (hv : Vis X.env.scope x := by first | exact Or.inl rfl | exact Or.inr (Or.inl rfl) | exact Or.inr (Or.inr rfl)) (hd : (x == ("__debug__" : Str)) = false := by decide)
    (hcd : (x == ("__classdict__" : Str)) = false := by decide) (hbase : attributeBase (.Name x pos) name X.env (eval (.Name x pos) X.env) = eval (.Name x pos) X.env := by rfl) (hline : (apos.endLine == cpos.line) = true := by rfl) :
    ZE X pm (.Call (.Attribute (.Name x pos) name apos) [] [] cpos) (wMut g j aNil) := pe_imp (pe_bm0 PySem.F.plainAttrs_list slot hty hm (pe_var hN hv hd hcd) hbase hline) fun σ H Q h => by
  obtain ⟨v, e1, ty, pv, F, B, env, P, m, rel, hw, hq⟩ := tm_slot O h
  exact ⟨v, e1, ty, hq _ _ hw F H B [] .refl rel .nil⟩
/-- at a place, the arguments quiet -/
theorem ze_mutP {j : Nat} {p : Pth} (slot : Slot "list" name id) (hty : typeOf (.builtin id) = pure (.type "method_descriptor")) (hm : MtR X id r) (O : MutL X.K r g) (ho : ZP X pm o j p) (ha : ZVs X pm (e :: es) ws)
    (hbase : attributeBase o name X.env (eval o X.env) = eval o X.env := by rfl)
    (hfew : ((backTo cpos (starEach (e :: es) X.env)).all (fun x => !x.1) && (backToKw cpos (keywordEach [] X.env)).all (fun x => x.1.isSome)
      && decide ((e :: es).length + ([] : List Keyword).length + (if ([] : List Keyword).isEmpty then 0 else 1) < 30)) = true := by rfl)
    (hline : (apos.endLine == cpos.line) = true := by rfl) (hs : starEach (e :: es) X.env = (false, eval e X.env) :: starEach es X.env := by rfl) (hplain : (backTo cpos (starEach es X.env)).any (·.1) = false := by rfl) :
    ZE X pm (.Call (.Attribute o name apos) (e :: es) [] cpos) (wMutP g j p ws) := pe_imp (pe_bm PySem.F.plainAttrs_list slot hty hm ho ha hbase hfew hline hs hplain) fun σ H Q ⟨pv, F, B, env, P, m, rel, hw, hq⟩ => by
  cases g0 : gt env j with
  | none => simp only [wMutP, g0] at hw
  | some t =>
    simp only [wMutP, g0] at hw
    refine ⟨pv, F, B, env, t, _, m, rel, g0, hw, fun v0 v u R e1 hp hu ku => ?_⟩
    cases u with
    | fz _ => exact ku.elim
    | ins _ _ => exact ku.elim
    | lst ds =>
      obtain ⟨a, us, ea, hu', du, k⟩ := rel.modLst g0 e1 hp
      subst ea
      refine ⟨.inl ⟨rfl, us, SqL.of hu'⟩, pv, F, B, env, _, m, rel, ku, fun es' he F1 H1 vs a1 k1 => ?_⟩
      obtain ⟨r1, s1, _⟩ := rel.alloc a1
      obtain ⟨a', us', ea', hu2, du2, k2⟩ := r1.modLst g0 e1 (hp.mono a1.kp)
      cases ea'
      refine O.run F1 H1 a us' ds vs es' _ _ r1.sub hu2 du2 k1 he fun z ds' w' vs' hz hz' hvs => ?_
      obtain ⟨r2, s2⟩ := k2 vs' ds' hvs
      exact hq _ _ hz F1 _ B Rg0 w' (s1.l.trans s2).r0 r2 (OwnV.fz hz')
end
def mAppend (ds es : List D) (k : D → List D → Prop) : Prop := match es with
  | [d] => ds.length < sizeLine ∧ k .non (ds ++ [d])
  | _ => False
def mPop (ds es : List D) (k : D → List D → Prop) : Prop := match es with
  | [] => match ds.getLast? with
    | some d => k d ds.dropLast
    | none => False
  | _ => False
def mReverse (ds es : List D) (k : D → List D → Prop) : Prop := match es with
  | [] => k .non ds.reverse
  | _ => False
section
variable {K : PySem.W.Frag}
theorem mut_append : MutL K rAppend mAppend := ⟨fun F H a vs ds as es P Q s ha hd he h hq => by
  match es, he, h with
  | [d], .cons hd' .nil, h => exact ⟨a, vs, _, rfl, rfl, ha, by rw [hd.length]; exact h.1, hq _ _ _ _ h.2 .non (hd.append (.cons hd' .nil))⟩
  | [], _, h => exact h.elim
  | _ :: _ :: _, _, h => exact h.elim⟩
theorem mut_pop : MutL K rPop mPop := ⟨fun F H a vs ds as es P Q s ha hd he h hq => by
  match es, he, h with
  | [], .nil, h =>
    have h : (match ds.getLast? with | some d => P d ds.dropLast | none => False) := h
    cases q : ds.getLast? with
    | none => rw [q] at h; exact h.elim
    | some d =>
      rw [q] at h
      rw [List.getLast?_eq_getElem?] at q
      obtain ⟨v, e1, e2⟩ := hd.get q
      exact ⟨a, vs, v, rfl, rfl, ha, by rw [hd.length]; exact e1, hq _ _ _ _ h e2 hd.dropLast⟩
  | _ :: _, _, h => exact h.elim⟩
theorem mut_reverse : MutL K rReverse mReverse := ⟨fun F H a vs ds as es P Q s ha hd he h hq => by
  match es, he, h with
  | [], .nil, h => exact ⟨a, vs, rfl, rfl, ha, hq _ _ _ _ h .non hd.reverse⟩
  | _ :: _, _, h => exact h.elim⟩
end

/-! ### xs[i] = e -/
def wSetIx (j : Nat) (w : WE) (o : WO) : WS := fun E env => w env fun t e1 => (match gt e1 j with
  | some (.lst _) => True
  | _ => False) ∧ o e1 fun b e2 => match rs e2 b, gt e2 j with
  | some (.int k), some (.lst ds) => match ixN ds.length k with
    | some n => E.nx (st e2 j (.lst (ds.set n t.fr)))
    | none => False
  | _, _ => False
def wSetIxP (j : Nat) (p : Pth) (w wi : WQ) : WS := fun E env => w env fun d => match gt env j with
  | some t => atP t p fun u => match u with
    | .lst ds => wi env fun y => match y with
      | .int k => match ixN ds.length k with
        | some n => E.nx (st env j (setP t p (.lst (ds.set n d))))
        | none => False
      | _ => False
    | _ => False
  | none => False
section
variable {X : Cx} {pm : List Bool} {o e i : Expr} {w : WE} {wo : WO} {wq wi : WQ} {x : Str} {pos pos' npos : Pos}
theorem zs_setIx (j : Nat) (he : ZE X pm e w) (hi : ZO X pm i wo) (hN : X.N[j]? = some x := by rfl) (hv : Vis X.env.scope x := by first | exact Or.inl rfl | exact Or.inr (Or.inl rfl) | exact Or.inr (Or.inr rfl)) (hd : (x == ("__debug__" : Str)) = false := by decide)
    (hcd : (x == ("__classdict__" : Str)) = false := by decide)
    (ha : ∀ v, assign (.Subscript (.Name x npos) i pos') X.env v = (do
      let ov ← holding [v] (eval (.Name x npos) X.env)
      let iv ← holding [v, ov] (eval i X.env)
      standAt pos'
      holding [v, ov, iv] (setItem ov iv v)
      release [v, ov, iv] []) := by intro _; rfl)
    (hs : swapsWithSole [.Subscript (.Name x npos) i pos'] e pos.line X.env = pure false := by rfl) (hw : swappedStores [.Subscript (.Name x npos) i pos'] e X.env = pure none := by rfl)
    (h1 : (assignEach [.Subscript (.Name x npos) i pos'] X.env).map (·.2) = [assign (.Subscript (.Name x npos) i pos') X.env] := by rfl) :
    ZS X pm (.Assign [.Subscript (.Name x npos) i pos'] e pos) (wSetIx j w wo) := ps_imp (ps_asg he (pg_sub (pe_var hN hv hd hcd) hi set_list ha) hs hw h1) fun D σ H ⟨pv, F, B, env, E, m, rel, hw, cn⟩ =>
  ⟨pv, F, B, env, _, m, rel, hw, fun t e1 h1 F1 H1 B1 R1 v s1 r1 o1 => by
    obtain ⟨F2, r2, s2, d2⟩ := r1.freezeV o1
    obtain ⟨h0, h1⟩ := h1
    cases g0 : gt e1 j with
    | none => simp only [g0] at h0
    | some t0 =>
      cases t0 with
      | fz _ => simp only [g0] at h0
      | ins _ _ => simp only [g0] at h0
      | lst ds0 =>
        obtain ⟨v0, ev, iv⟩ := r2.at_ j _ (gt_some g0)
        refine ⟨v0, ev, pv, F2, B1, e1, _, m, r2, h1, fun b e2 h2 F3 H3 B3 u s3 r3 i3 => ?_⟩
        cases qb : rs e2 b with
        | none => simp only [qb] at h2
        | some y =>
          cases g1 : gt e2 j with
          | none => simp only [qb, g1] at h2
          | some t1 =>
            cases y <;> first
              | (simp only [qb, g1] at h2; done)
              | skip
            rename_i k
            cases t1 with
            | fz _ => simp only [qb, g1] at h2
            | ins _ _ => simp only [qb, g1] at h2
            | lst ds =>
              simp only [qb, g1] at h2
              cases hn : ixN ds.length k with
              | none => simp only [hn] at h2
              | some n =>
                simp only [hn] at h2
                obtain ⟨a, us, ea, hu, du, kk⟩ := r3.modLst g1 ev (p := []) .nil
                subst ea
                obtain ⟨r4, s4⟩ := kk (us.set n v) (ds.set n t.fr) (du.set n (d2.mono s3.le))
                exact ⟨a, us, k, n, rfl, (r3.pk i3 qb).int, hu, by rw [du.length]; exact hn, cn.nx _ F3 _ σ B3 h2 ((s1.trans s2).trans (s3.trans s4)) r4⟩⟩
theorem zs_setIxP {j : Nat} {p : Pth} (he : ZV X pm e wq) (ho : ZP X pm o j p) (hi : ZQ X pm i wi)
    (ha : ∀ v, assign (.Subscript o i pos') X.env v = (do
      let ov ← holding [v] (eval o X.env)
      let iv ← holding [v, ov] (eval i X.env)
      standAt pos'
      holding [v, ov, iv] (setItem ov iv v)
      release [v, ov, iv] []) := by intro _; rfl)
    (hs : swapsWithSole [.Subscript o i pos'] e pos.line X.env = pure false := by rfl) (hw : swappedStores [.Subscript o i pos'] e X.env = pure none := by rfl)
    (h1 : (assignEach [.Subscript o i pos'] X.env).map (·.2) = [assign (.Subscript o i pos') X.env] := by rfl) :
    ZS X pm (.Assign [.Subscript o i pos'] e pos) (wSetIxP j p wq wi) := ps_imp (ps_asg he (pg_sub ho hi set_list ha) hs hw h1) fun D σ H ⟨pv, F, B, env, E, m, rel, hw, cn⟩ =>
  ⟨pv, F, B, env, _, m, rel, hw, fun d h1 F1 H1 v a1 k1 => by
    obtain ⟨r1, s1, _⟩ := rel.alloc a1
    cases g0 : gt env j with
    | none => simp only [g0] at h1
    | some t =>
      simp only [g0] at h1
      refine ⟨pv, F1, B, env, t, _, m, r1, g0, h1, fun v0 v1 u R e1 hp hu ku => ?_⟩
      cases u with
      | fz _ => exact ku.elim
      | ins _ _ => exact ku.elim
      | lst ds =>
        refine ⟨pv, F1, B, env, _, m, r1, ku, fun y hy F2 H2 iv a2 k2 => ?_⟩
        cases y <;> first
          | exact hy.elim
          | skip
        rename_i k
        obtain ⟨r2, s2, _⟩ := r1.alloc a2
        obtain ⟨a, us, ea, hu2, du2, kk⟩ := r2.modLst g0 e1 (hp.mono a2.kp)
        subst ea
        cases hn : ixN ds.length k with
        | none => simp only [hn] at hy
        | some n =>
          simp only [hn] at hy
          obtain ⟨r4, s4⟩ := kk (us.set n v) (ds.set n d) (du2.set n (k1.mono a2.le))
          exact ⟨a, us, k, n, rfl, k2.int, hu2, by rw [du2.length]; exact hn, cn.nx _ F2 _ σ B hy ((s1.l.trans s2.l).trans s4) r4⟩⟩
end
end Zl

namespace Zl
open PySem PySem.Spec PyProof.Rows L2

/-! ### fields of the object that a name holds -/
/-- x.f = e -/
def wSetF (c : Cd) (j i : Nat) (w : WE) : WS := fun E env => w env fun t e => match gt e j with
  | some (.ins c' ts) => c' = c ∧ i ≤ ts.length ∧ E.nx (st e j (.ins c (setA ts i t)))
  | _ => False
/-- x.f op= e, the field and e data -/
def wAugF (c : Cd) (j i : Nat) (g : D → D → (T → Prop) → Prop) (o : WQ) : WS := fun E env => match gt env j with
  | some (.ins c' ts) => c' = c ∧ match ts[i]? with
    | some (.fz d) => o env fun y => g d y fun z => E.nx (st env j (.ins c (setA ts i (.fz z.fr))))
    | _ => False
  | _ => False
section
variable {K : PySem.W.Frag} {pv : List (Option V)} {F H : Hp} {σ : L2.St} {env : Ev} {B : Nat → Rg} {R : Rg} {v : V} {t : T} {j i : Nat} {c : Cd} {ts : List T}
theorem setA_le {α : Type} {xs : List α} {i n : Nat} {t : α} (h : i ≤ xs.length) (h1 : i < n) (h2 : xs.length ≤ n) : (setA xs i t).length ≤ n := by
  rw [setA_len h]
  split <;> omega
/-- a value beside the frame is stored into a field -/
theorem Rel.setF (r : Rel K pv F H σ env B) (o : OwnV K F H B R v t) (g : gt env j = some (.ins c ts)) (hc : ClsOk K c) {f : Str} (hi : c.ns[i]? = some f) (hl : i ≤ ts.length) :
    ∃ a dx vs B2, σ[j]? = some (some (.ref a)) ∧ H a = some (.ins c.C dx (c.ns.zip vs)) ∧ (c.ns.zip vs).length < 1000 ∧ putF f v (c.ns.zip vs) = c.ns.zip (setA vs i v) ∧
      Rel K pv F (upd H a (.ins c.C dx (c.ns.zip (setA vs i v)))) σ (st env j (.ins c (setA ts i t))) B2 ∧ Step F H (Ru (U B) R) F (upd H a (.ins c.C dx (c.ns.zip (setA vs i v)))) (U B2) := by
  obtain ⟨w, e1, e2⟩ := r.at_ j _ (gt_some g)
  cases e2 with
  | @ins _ R' a dx _ vs _ ra hh ln n jj hs =>
    have hvl := hs.length
    have hif := (List.getElem?_eq_some_iff.mp hi).1
    have hzl : (c.ns.zip vs).length < 1000 := by have := hc.few; rw [List.length_zip]; omega
    let B2 : Nat → Rg := fun k b => B k b ∨ (k = j ∧ R b)
    have ne : ∀ b, ¬ B j b → b ≠ a := fun b z e => z (by rw [e]; exact ra)
    have kp : ∀ b o, ¬ B j b → H b = some o → upd H a (.ins c.C dx (c.ns.zip (setA vs i v))) b = some o := fun b o z q => by rw [upd_ne (ne b z)]; exact q
    have Ra : ¬ R a := fun z => o.dis j a z ra
    have dd : ∀ b, R' b → R b → False := fun b z y => o.dis j b y (jj b z)
    have live : ∀ b, H b ≠ none → upd H a (.ins c.C dx (c.ns.zip (setA vs i v))) b ≠ none := fun b q => by
      by_cases z : b = a
      · subst z; rw [upd_same]; simp
      · rw [upd_ne z]; exact q
    have itv : IsT K F (upd H a (.ins c.C dx (c.ns.zip (setA vs i v)))) R v t := o.is.mono (Same.refl _) (fun b x z q => by rw [upd_ne (fun e => Ra (by rw [← e]; exact z))]; exact q) fun _ z => z
    have hs' : IsTs K F (upd H a (.ins c.C dx (c.ns.zip (setA vs i v)))) R' vs ts := hs.mono (Same.refl _) (fun b x z q => by rw [upd_ne (fun e => n (by rw [← e]; exact z))]; exact q) fun _ z => z
    refine ⟨a, dx, vs, B2, e1, hh, hzl, putF_zip hc.nd hi (by omega), ⟨fun b x q => ?_, by rw [st_eq, List.length_set]; exact r.len, fun k u h => ?_, fun k l b h1 h2 => ?_, fun k b h => ?_, fun k b h => ?_, r.fix⟩, ⟨Same.refl _, fun b x q z => ?_, fun b h => .inl ?_, fun b h => .inl h⟩⟩
    · have : b ≠ a := fun z => by subst z; rw [r.off j b ra] at q; cases q
      rw [upd_ne this]; exact r.sub b x q
    · rw [st_eq] at h
      by_cases z : k = j
      · subst z
        rw [List.getElem?_set] at h
        split at h
        · split at h
          · cases h
            refine ⟨_, e1, .ins (R' := Ru R' R) (.inl ra) upd_same (setA_le (by omega) hif ln) (fun z => z.elim n Ra) (fun b z => z.elim (fun z => .inl (jj b z)) fun z => .inr ⟨rfl, z⟩) ?_⟩
            exact hs'.put hl itv dd
          · cases h
        · rename_i n; exact absurd rfl n
      · rw [List.getElem?_set_ne (Ne.symm z)] at h
        obtain ⟨x, f1, f2⟩ := r.at_ k u h
        exact ⟨x, f1, f2.mono (Same.refl _) (fun b y hb q => kp b y (fun q => z (r.dis k j b hb q)) q) fun _ z => .inl z⟩
    · rcases h1 with h1 | ⟨rfl, h1⟩ <;> rcases h2 with h2 | ⟨rfl, h2⟩
      · exact r.dis k l b h1 h2
      · exact (o.dis k b h2 h1).elim
      · exact (o.dis l b h1 h2).elim
      · rfl
    · rcases h with h | ⟨_, h⟩
      · exact r.off k b h
      · exact o.off b h
    · rcases h with h | ⟨_, h⟩
      · exact live b (r.live k b h)
      · exact live b (o.live b h)
    · exact kp b x (fun y => z (.inl ⟨j, y⟩)) q
    · obtain ⟨k, h | ⟨_, h⟩⟩ := h
      · exact .inl ⟨k, h⟩
      · exact .inr h
end
section
variable {X : Cx} {pm : List Bool} {value : Expr} {f x : Str} {pos pos' npos tpos : Pos} {w : WE} {wq : WQ} {c : Cd}
theorem zs_setF (c : Cd) (j i : Nat) (hc : ClsOk X.K c) (he : ZE X pm value w) (hi : c.ns[i]? = some f := by rfl) (hN : X.N[j]? = some x := by rfl) (hv : Vis X.env.scope x := by first | exact Or.inl rfl | exact Or.inr (Or.inl rfl) | exact Or.inr (Or.inr rfl)) (hd : (x == ("__debug__" : Str)) = false := by decide)
    (hcd : (x == ("__classdict__" : Str)) = false := by decide) (hs : swapsWith value (some (.Attribute (.Name x npos) f pos')) pos.line X.env = pure false := by rfl) : ZS X pm (.Assign [.Attribute (.Name x npos) f pos'] value pos) (wSetF c j i w) :=
  ps_imp (ps_fld (pe_var hN hv hd hcd) he hs) fun D σ H ⟨pv, F, B, env, E, m, rel, hw, cn⟩ => ⟨pv, F, B, env, _, m, rel, hw, fun t e1 h1 F1 H1 B1 R1 v s1 r1 o1 => by
    cases g : gt e1 j with
    | none => simp only [g] at h1
    | some u =>
      cases u with
      | fz _ => simp only [g] at h1
      | lst _ => simp only [g] at h1
      | ins c' ts =>
        simp only [g] at h1
        obtain ⟨e0, hl, h1⟩ := h1
        subst e0
        obtain ⟨a, dx, vs, B2, e1', hh, hz, hp, r2, s2⟩ := r1.setF o1 g hc hi hl
        exact ⟨_, e1', a, _, dx, _, rfl, hh, hc.cls, hc.no f (List.mem_of_getElem? hi), hz, by rw [hp]; exact cn.nx _ F1 _ σ B2 h1 (s1.trans s2) r2⟩⟩
theorem zs_augF (c : Cd) (j i : Nat) {op : Operator} {rd : V → V → Hp → VK → Prop} {g} (hc : ClsOk X.K c) (he : ZQ X pm value wq) (hop : InOp X op rd) (O : Op2 X.K rd g) (hi : c.ns[i]? = some f := by rfl) (hN : X.N[j]? = some x := by rfl) (hv : Vis X.env.scope x := by first | exact Or.inl rfl | exact Or.inr (Or.inl rfl) | exact Or.inr (Or.inr rfl)) (hd : (x == ("__debug__" : Str)) = false := by decide)
    (hcd : (x == ("__classdict__" : Str)) = false := by decide) : ZS X pm (.AugAssign (.Attribute (.Name x npos) f tpos) op value pos) (wAugF c j i g wq) :=
  ps_imp (ps_fldaug (pe_var hN hv hd hcd) he hop) fun D σ H ⟨pv, F, B, env, E, m, rel, hw, cn⟩ => by
    cases g0 : gt env j with
    | none => simp only [wAugF, g0] at hw
    | some u =>
      cases u with
      | fz _ => simp only [wAugF, g0] at hw
      | lst _ => simp only [wAugF, g0] at hw
      | ins c' ts =>
        simp only [wAugF, g0] at hw
        obtain ⟨e0, hw⟩ := hw
        subst e0
        cases et : ts[i]? with
        | none => simp only [et] at hw
        | some t0 =>
          cases t0 with
          | lst _ => simp only [et] at hw
          | ins _ _ => simp only [et] at hw
          | fz d =>
            simp only [et] at hw
            obtain ⟨w0, e1, e2⟩ := rel.at_ j _ (gt_some g0)
            cases e2 with
            | @ins _ R' a dx _ vs _ ra hh ln n jj hs =>
              obtain ⟨y, Ri, ey, sy, iy, _⟩ := hs.upd et
              cases iy with
              | fz hdy =>
                refine ⟨_, e1, a, _, dx, _, y, rfl, hh, hc.cls, hc.no f (List.mem_of_getElem? hi), look_zip hc.nd hi ey, pv, F, B, env, _, m, rel, hw, fun y' hy F1 H1 u a1 k1 => ?_⟩
                obtain ⟨r1, s1, _⟩ := rel.alloc a1
                refine O.run F1 H1 y u d y' _ _ a1.sub (.d (hdy.mono a1.le)) k1 hy fun z w' F2 H2 R2 hz a2 it => ?_
                obtain ⟨F3, a3, d3⟩ := (a1.trans a2).freeze it
                obtain ⟨r3, s3, _⟩ := rel.alloc a3
                have hil : i ≤ ts.length := Nat.le_of_lt (List.getElem?_eq_some_iff.mp et).1
                obtain ⟨a', dx', vs', B2, e1', hh', hz', hp', r4, s4⟩ := r3.setF (OwnV.fz d3) g0 hc hi hil
                rw [e1] at e1'; cases e1'
                exact ⟨dx', _, hh', hz', by rw [hp']; exact cn.nx _ F3 _ σ B2 hz (s3.trans s4) r4⟩
/-- a field of an operand -/
def fldOf (c : Cd) (i : Nat) (t : T) (k : D → Prop) : Prop := match t with
  | .fz (.ins c' ds) => c' = c ∧ match ds[i]? with
    | some d => k d
    | none => False
  | .ins c' ts => c' = c ∧ match ts[i]? with
    | some (.fz d) => k d
    | _ => False
  | _ => False
def wFld (c : Cd) (i : Nat) (o : WO) : WE := fun env P => o env fun a e => match argT e a with
  | some t => fldOf c i t fun d => P (.fz d) e
  | none => False
theorem ze_fld {e : Expr} {o : WO} (c : Cd) (i : Nat) (hc : ClsOk X.K c) (h : ZO X pm e o) (hi : c.ns[i]? = some f := by rfl) (hb : attributeBase e f X.env (eval e X.env) = eval e X.env := by rfl) : ZE X pm (.Attribute e f pos') (wFld c i o) :=
  pe_imp (pe_fld h hb) fun σ H Q ⟨pv, F, B, env, P, m, rel, hw, hq⟩ => ⟨pv, F, B, env, _, m, rel, hw, fun a e1 h1 F1 H1 B1 v s1 r1 i1 => by
    cases qa : argT e1 a with
    | none => simp only [qa] at h1
    | some t =>
      simp only [qa] at h1
      obtain ⟨R, it⟩ : ∃ R, IsT X.K F1 H1 R v t := by
        cases i1 with
        | d hd => cases qa; exact ⟨Rg0, .fz hd⟩
        | s hs =>
          obtain ⟨u, e1', e2⟩ := r1.at_ _ t (gt_some (show gt e1 _ = some t from qa))
          rw [hs] at e1'; cases e1'
          exact ⟨_, e2⟩
      cases it with
      | @fz _ _ d0 hd =>
        cases d0 <;> first
          | exact h1.elim
          | skip
        rename_i c' ds
        have h2 : c' = c ∧ (match ds[i]? with | some d => P (.fz d) e1 | none => False) := h1
        obtain ⟨e0, h3⟩ := h2
        subst e0
        cases hd with
        | ins hh l hs =>
          cases ed : ds[i]? with
          | none => rw [ed] at h3; exact h3.elim
          | some d =>
            rw [ed] at h3
            obtain ⟨y, e2, e3⟩ := hs.get ed
            exact ⟨_, _, _, _, y, rfl, r1.sub _ _ hh, hc.cls, hc.no f (List.mem_of_getElem? hi), look_zip hc.nd hi e2, hq _ _ h3 F1 H1 B1 Rg0 y s1.r0 r1 (OwnV.fz e3)⟩
      | lst _ _ _ => exact h1.elim
      | @ins _ R' a' dx c' vs ts ra hh ln n jj hs =>
        have h2 : c' = c ∧ (match ts[i]? with | some (.fz d) => P (.fz d) e1 | _ => False) := h1
        obtain ⟨e0, h3⟩ := h2
        subst e0
        cases et : ts[i]? with
        | none => rw [et] at h3; exact h3.elim
        | some t0 =>
          rw [et] at h3
          cases t0 with
          | lst _ => exact h3.elim
          | ins _ _ => exact h3.elim
          | fz d =>
            obtain ⟨y, Ri, ey, sy, iy, _⟩ := hs.upd et
            cases iy with
            | fz hdy => exact ⟨a', _, dx, _, y, rfl, hh, hc.cls, hc.no f (List.mem_of_getElem? hi), look_zip hc.nd hi ey, hq _ _ h3 F1 H1 B1 Rg0 y s1.r0 r1 (OwnV.fz hdy)⟩⟩
end

/-! ### methods -/
def isIns (c : Cd) : Option T → Prop
  | some (.ins c' _) => c' = c
  | some (.fz (.ins c' _)) => c' = c
  | _ => False
def wMeth (c : Cd) (sp : DSp) (dds : List D) (o : WO) (wa : WA) : WE := fun env P => o env fun s e0 => isIns c (argT e0 s) ∧ wa e0 fun as e1 => match argTs e1 (s :: (as ++ dds.map .inl)) with
  | some ts => dst e1 (s :: (as ++ dds.map .inl)) = true ∧ sp ts fun r ts' => P r (back e1 (s :: (as ++ dds.map .inl)) ts')
  | none => False
section
variable {X : Cx} {pm : List Bool} {k : Nat} {f : Addr} {fd : FuncData} {ps : List Str} {sp : DSp} {m : Str} {pos apos : Pos} {o e : Expr} {es : List Expr} {wo : WO} {wa : WA} {ds : List Value} {dvs : List V} {dds : List D} {c : Cd}
theorem item_t {K : PySem.W.Frag} {pv : List (Option V)} {F H : Hp} {σ : L2.St} {env : Ev} {B : Nat → Rg} {v : V} {a : It2} {t : T} (r : Rel K pv F H σ env B) (i : ItemOk K F σ v a) (q : argT env a = some t) : ∃ R, IsT K F H R v t := by
  cases i with
  | d hd => cases q; exact ⟨Rg0, .fz hd⟩
  | s hs =>
    obtain ⟨u, e1', e2⟩ := r.at_ _ t (gt_some (show gt env _ = some t from q))
    rw [hs] at e1'; cases e1'
    exact ⟨_, e2⟩
theorem tm_meth {E : XK} (hds : ∀ F, IsDs X.K F dvs dds) (hm : m ∉ c.ns) {σ H Q} : TZ X pm (wMeth c sp dds wo wa) σ H Q → TOz X pm wo σ H fun x H1 => ∃ a dx fs, x = .ref a ∧ H1 a = some (.ins c.C dx fs) ∧ fs.lookup m = none ∧
    TAz X pm wa σ H1 fun vs H2 => spOf X.K sp (x :: (vs ++ dvs)) H2 Q E := fun ⟨pv, F, B, env, P, mk, rel, hw, hq⟩ =>
  ⟨pv, F, B, env, _, mk, rel, hw, fun s e0 ⟨h0, h1⟩ F1 H1 B1 v s1 r1 i1 => by
    obtain ⟨a, dx, vs0, ev, hh⟩ : ∃ a dx vs, v = .ref a ∧ H1 a = some (.ins c.C dx (c.ns.zip vs)) := by
      cases q : argT e0 s with
      | none => rw [q] at h0; exact h0.elim
      | some t =>
        rw [q] at h0
        obtain ⟨R, it⟩ := item_t r1 i1 q
        cases it with
        | fz hd =>
          cases hd <;> first
            | exact h0.elim
            | skip
          rename_i hh l hs
          have e0 : _ = c := h0
          subst e0
          exact ⟨_, _, _, rfl, r1.sub _ _ hh⟩
        | lst _ _ _ => exact h0.elim
        | ins ra hh ln n jj hs =>
          have e0 : _ = c := h0
          subst e0
          exact ⟨_, _, _, rfl, hh⟩
    refine ⟨a, dx, _, ev, hh, look_none hm, pv, F1, B1, e0, _, mk, r1, h1, fun as e1 h2 F2 H2 B2 vs s2 r2 i2 => ?_⟩
    have i3 : ItemsOk X.K F2 σ (v :: (vs ++ dvs)) (s :: (as ++ dds.map .inl)) := .cons (i1.mono s2.le) (i2.append (.ofDs (hds F2)))
    cases q : argTs e1 (s :: (as ++ dds.map .inl)) with
    | none => simp only [q] at h2
    | some ts =>
      simp only [q] at h2
      obtain ⟨hd, h2⟩ := h2
      obtain ⟨rA, sA⟩ := r2.args i3 q hd
      refine ⟨F2, _, ts, _, rA, h2, fun r ts' hp F3 H3 B3 R3 w' s3 r3 o3 => ?_⟩
      obtain ⟨B4, r4, s4, o4⟩ := r2.called i3 q hd s3 r3 o3
      exact hq _ _ hp F3 H3 B4 R3 w' ((s1.trans s2).trans s4) r4 o4⟩
theorem ze_meth {pl : Sem Bool} (he : ZO X pm o wo) (hc : ClsOk X.K c) (hme : Meth X.K c.C m f) (hmn : m ∉ c.ns) (Fn : FnOk X.prog X.w X.K X.mg X.base CX0 k f fd ps (spOf X.K sp)) (hr : Room k X.A) (hb : Binds X.K fd ps ds) (hd : Vals dvs ds) (hds : ∀ F, IsDs X.K F dvs dds) (ha : ZA X pm (e :: es) wa)
    (hst : starEach (e :: es) X.env = (false, eval e X.env) :: starEach es X.env := by rfl) (hpl : (backTo pos (starEach es X.env)).any (·.1) = false := by rfl)
    (ht : eval (.Call (.Attribute o m apos) (e :: es) [] pos) X.env = (do
      let ov ← eval o X.env
      standAt apos.atName
      let (f, first) ← holding [ov] (getMethod ov m pl)
      callWith pos f first (backTo pos (starEach (e :: es) X.env)) (backToKw pos (keywordEach [] X.env))) := by rfl) :
    ZE X pm (.Call (.Attribute o m apos) (e :: es) [] pos) (wMeth c sp dds wo wa) := pe_imp (pe_meth he hc.cls hme Fn hr hb hd pass0 ha hst hpl ht) fun σ H Q h => by
  exact tm_meth hds hmn h
theorem ze_meth0 {pl : Sem Bool} (he : ZO X pm o wo) (hc : ClsOk X.K c) (hme : Meth X.K c.C m f) (hmn : m ∉ c.ns) (Fn : FnOk X.prog X.w X.K X.mg X.base CX0 k f fd ps (spOf X.K sp)) (hr : Room k X.A) (hb : Binds X.K fd ps ds) (hd : Vals dvs ds) (hds : ∀ F, IsDs X.K F dvs dds)
    (ht : eval (.Call (.Attribute o m apos) [] [] pos) X.env = (do
      let ov ← eval o X.env
      standAt apos.atName
      let (f, first) ← holding [ov] (getMethod ov m pl)
      callWith pos f first (backTo pos (starEach [] X.env)) (backToKw pos (keywordEach [] X.env))) := by rfl) :
    ZE X pm (.Call (.Attribute o m apos) [] [] pos) (wMeth c sp dds wo aNil) := pe_imp (pe_meth0 he hc.cls hme Fn hr hb hd pass0 ht) fun σ H Q h => by
  obtain ⟨pv, F, B, env, P, mk, rel, hw, hq⟩ := tm_meth (E := E0) hds hmn h
  exact ⟨pv, F, B, env, P, mk, rel, hw, fun s e0 h0 F1 H1 B1 v s1 r1 i1 => by
    obtain ⟨a, dx, fs, ev, hh, hl, pv', F', B', env', P', mk', rel', hw', hq'⟩ := hq s e0 h0 F1 H1 B1 v s1 r1 i1
    exact ⟨a, dx, fs, ev, hh, hl, hq' _ _ hw' F' H1 B' [] .refl rel' .nil⟩⟩
end

/-! ### a new instance -/
def wMake (c : Cd) (sp : DSp) (dds : List D) (wa : WA) : WE := fun env P => wa env fun as e1 => match argTs e1 (as ++ dds.map .inl) with
  | some ts => dst e1 (as ++ dds.map .inl) = true ∧ sp (.ins c [] :: ts) fun r ts' => r = .fz .non ∧ match ts' with
    | self :: rest => P self (back e1 (as ++ dds.map .inl) rest)
    | [] => False
  | none => False
section
variable {K : PySem.W.Frag} {F H F' H' : Hp} {B B' : Nat → Rg} {R : Rg} {vs : List V} {ts : List T} {v : V} {t : T}
/-- one more argument ahead -/
theorem Rel.consA (r : Rel K [] F H (vs.map some) (ts.map some) B) (o : OwnV K F H B R v t) : Rel K [] F H ((v :: vs).map some) ((t :: ts).map some) (fun k => match k with
    | 0 => R
    | n + 1 => B n) := by
  refine ⟨r.sub, ?_, fun i u h => ?_, fun i j a h1 h2 => ?_, fun i a h => ?_, fun i a h => ?_, fun i u h => by simp at h⟩
  · have := r.len; simpa using this
  · cases i with
    | zero => cases h; exact ⟨v, rfl, o.is⟩
    | succ i => simpa using r.at_ i u (by simpa using h)
  · cases i with
    | zero =>
      cases j with
      | zero => rfl
      | succ j => exact (o.dis j a h1 h2).elim
    | succ i =>
      cases j with
      | zero => exact (o.dis i a h2 h1).elim
      | succ j => rw [r.dis i j a h1 h2]
  · cases i with
    | zero => exact o.off a h
    | succ i => exact r.off i a h
  · cases i with
    | zero => exact o.live a h
    | succ i => exact r.live i a h
theorem Rel.tailA (r : Rel K [] F H ((v :: vs).map some) ((t :: ts).map some) B) : Rel K [] F H (vs.map some) (ts.map some) (fun k => B (k + 1)) ∧ OwnV K F H (fun k => B (k + 1)) (B 0) v t := by
  refine ⟨⟨r.sub, by have := r.len; simpa using this, fun i u h => ?_, fun i j a h1 h2 => ?_, fun i a h => r.off _ a h, fun i a h => r.live _ a h, fun i u h => by simp at h⟩, ?_, fun i a h1 h2 => ?_, fun a h => r.off 0 a h, fun a h => r.live 0 a h⟩
  · simpa using r.at_ (i + 1) u (by simpa using h)
  · have := r.dis (i + 1) (j + 1) a h1 h2
    omega
  · obtain ⟨w, e1, e2⟩ := r.at_ 0 t rfl
    cases e1
    exact e2
  · have := r.dis 0 (i + 1) a h1 h2
    omega
end
section
variable {X : Cx} {pm : List Bool} {k : Nat} {f : Addr} {fd : FuncData} {ps : List Str} {sp : DSp} {x : Str} {pos p : Pos} {e : Expr} {es : List Expr} {wa : WA} {ds : List Value} {dvs : List V} {dds : List D} {c : Cd}
theorem tm_make {E : XK} (hds : ∀ F, IsDs X.K F dvs dds) {σ H Q} : TZ X pm (wMake c sp dds wa) σ H Q → tMake c.C (spOf X.K sp) dvs E (TAz X pm wa) σ H Q := fun ⟨pv, F, B, env, P, mk, rel, hw, hq⟩ =>
  ⟨pv, F, B, env, _, mk, rel, hw, fun as e1 h1 F1 H1 B1 vs s1 r1 i1 => by
    intro x dx hx hdx hne
    cases q : argTs e1 (as ++ dds.map .inl) with
    | none => simp only [q] at h1
    | some ts =>
      simp only [q] at h1
      obtain ⟨hd, h1⟩ := h1
      -- the new objects
      have k1 : Same H1 (upd (upd H1 dx (.own x)) x (.ins c.C dx [])) := fun b o q => by
        rw [upd_ne (ne_of_none q hx), upd_ne (ne_of_none q hdx)]; exact q
      have al : Alloc F1 H1 F1 (upd (upd H1 dx (.own x)) x (.ins c.C dx [])) (fun a => a = x) := by
        refine ⟨Same.refl _, k1, fun b o q => k1 b o (r1.sub b o q), fun _ h => .inl h, fun a h => by rw [h]; exact hx, fun a h => by rw [h]; exact r1.none_of hx, fun a h => by rw [h, upd_same]; simp⟩
      obtain ⟨r2, s2, d2⟩ := r1.alloc al
      have ox : OwnV X.K F1 (upd (upd H1 dx (.own x)) x (.ins c.C dx [])) B1 (fun a => a = x) (.ref x) (.ins c []) :=
        r1.own al (.ins (R' := Rg0) (dx := dx) (vs := []) rfl (by rw [upd_same, List.zip_nil_right]) (Nat.zero_le _) (fun z => z) (fun _ z => z.elim) .nil)
      have i2 : ItemsOk X.K F1 σ (vs ++ dvs) (as ++ dds.map .inl) := i1.append (.ofDs (hds F1))
      obtain ⟨rA, sA⟩ := r2.args i2 q hd
      have oA : OwnV X.K F1 (upd (upd H1 dx (.own x)) x (.ins c.C dx [])) (argB e1 (as ++ dds.map .inl) B1) (fun a => a = x) (.ref x) (.ins c []) := ⟨ox.is, fun i a h1 h2 => by
        obtain ⟨j, hj⟩ := sA a ⟨i, h2⟩
        exact ox.dis j a h1 hj, ox.off, ox.live⟩
      refine ⟨F1, _, _, _, rA.consA oA, h1, fun r ts' ⟨hr, hp⟩ F3 H3 B3 R3 w' s3 r3 o3 => ?_⟩
      subst hr
      cases ts' with
      | nil => exact hp.elim
      | cons self rest =>
        cases o3.is with
        | fz hn =>
          cases hn
          refine ⟨rfl, ?_⟩
          obtain ⟨r4, o4⟩ := r3.tailA
          -- behind the call the new object stands beside the frame
          have s4 : Step F1 (upd (upd H1 dx (.own x)) x (.ins c.C dx [])) (Ru (U (argB e1 (as ++ dds.map .inl) B1)) (fun a => a = x)) F3 H3 (Ru (U fun k => B3 (k + 1)) (B3 0)) := by
            refine (s3.more fun a h => ?_).less fun a h => ?_
            · obtain ⟨i, h⟩ := h
              cases i with
              | zero => exact .inr h
              | succ i => exact .inl ⟨i, h⟩
            · rcases h with ⟨i, h⟩ | h
              · exact .inl ⟨i + 1, h⟩
              · exact .inl ⟨0, h⟩
          have s5 : Step F1 H1 (U (argB e1 (as ++ dds.map .inl) B1)) F3 H3 (Ru (U fun k => B3 (k + 1)) (B3 0)) := by
            refine ⟨s4.le, fun a o q n => s4.keep a o (k1 a o q) fun z => z.elim n fun z => (by rw [z, hx] at q; cases q), fun a h => ?_, fun a h => ?_⟩
            · rcases s4.fresh a h with (z | z) | z
              · exact .inl z
              · exact .inr (by rw [z]; exact hx)
              · exact .inr (k1.free z)
            · rcases s4.newF a h with z | (z | z) | z
              · exact .inl z
              · exact .inr (.inl z)
              · exact .inr (.inr (by rw [z]; exact hx))
              · exact .inr (.inr (k1.free z))
          obtain ⟨B5, r5, s6, o5⟩ := r1.called i2 q hd s5 r4 o4
          exact hq _ _ hp F3 H3 B5 (B3 0) _ (s1.trans s6) r5 o5⟩
theorem ze_make (M : Mk X.K c.C f) (Fn : FnOk X.prog X.w X.K X.mg X.base CX0 k f fd ps (spOf X.K sp)) (hr : Room (k + 1) X.A) (hg : Gl X x) (hm : X.mg x = some (.ref c.C)) (hb : Binds X.K fd ps ds) (hd : Vals dvs ds) (hds : ∀ F, IsDs X.K F dvs dds)
    (ha : ZA X pm (e :: es) wa) (hdb : (x == ("__debug__" : Str)) = false := by decide) (he : starEach (e :: es) X.env = (false, eval e X.env) :: starEach es X.env := by rfl) (hpl : (backTo pos (starEach es X.env)).any (·.1) = false := by rfl) :
    ZE X pm (.Call (.Name x p) (e :: es) [] pos) (wMake c sp dds wa) := pe_imp (pe_make M Fn hr hg hm hb hd pass0 ha hdb he hpl) fun σ H Q h => tm_make hds h
theorem ze_make0 (M : Mk X.K c.C f) (Fn : FnOk X.prog X.w X.K X.mg X.base CX0 k f fd ps (spOf X.K sp)) (hr : Room (k + 1) X.A) (hg : Gl X x) (hm : X.mg x = some (.ref c.C)) (hb : Binds X.K fd ps ds) (hd : Vals dvs ds) (hds : ∀ F, IsDs X.K F dvs dds)
    (hdb : (x == ("__debug__" : Str)) = false := by decide) :
    ZE X pm (.Call (.Name x p) [] [] pos) (wMake c sp dds aNil) := pe_imp (pe_make0 M Fn hr hg hm hb hd pass0 hdb) fun σ H Q h => by
  obtain ⟨pv, F, B, env, P, mk, rel, hw, hq⟩ := tm_make (E := E0) hds h
  exact hq _ _ hw F H B [] .refl rel .nil
end
end Zl

namespace Zl
open PySem PySem.Spec PyProof.Rows L2

/-! ### list comprehensions -/
def clsE (env : Ev) : List Nat → Ev
  | [] => env
  | v :: vs => cl (clsE env vs) v
theorem clsE_len (env : Ev) : ∀ vs, (clsE env vs).length = env.length
  | [] => rfl
  | v :: vs => by show (cl (clsE env vs) v).length = _; rw [cl_eq, List.length_set, clsE_len env vs]
theorem clsE_get {env : Ev} {i : Nat} {t : T} : ∀ {vs : List Nat}, (clsE env vs)[i]? = some (some t) → env[i]? = some (some t) ∧ i ∉ vs
  | [], h => ⟨h, by simp⟩
  | v :: vs, h => by
    have h : (cl (clsE env vs) v)[i]? = some (some t) := h
    rw [cl_eq] at h
    by_cases z : i = v
    · subst z
      rw [List.getElem?_set] at h
      split at h
      · split at h <;> cases h
      · rename_i n; exact absurd rfl n
    · rw [List.getElem?_set_ne (Ne.symm z)] at h
      obtain ⟨h1, h2⟩ := clsE_get h
      exact ⟨h1, by simp only [List.mem_cons, not_or]; exact ⟨z, h2⟩⟩
theorem wipe_get {σ : L2.St} {i : Nat} : ∀ {vs : List Nat}, i ∉ vs → (wipe σ vs)[i]? = σ[i]?
  | [], _ => rfl
  | v :: vs, h => by
    simp only [List.mem_cons, not_or] at h
    show ((wipe σ vs).set v none)[i]? = _
    rw [List.getElem?_set_ne (Ne.symm h.1)]
    exact wipe_get h.2
theorem wipe_in {σ : L2.St} {i : Nat} : ∀ {vs : List Nat}, i ∈ vs → (wipe σ vs)[i]? = if i < σ.length then some none else none
  | v :: vs, h => by
    show ((wipe σ vs).set v none)[i]? = _
    by_cases z : i = v
    · subst z
      rw [List.getElem?_set, if_pos rfl, wipe_length]
    · rw [List.getElem?_set_ne (Ne.symm z)]
      exact wipe_in ((List.mem_cons.mp h).resolve_left z)
theorem wipe_wr {σ σ' : L2.St} {ws vs : List Nat} (h : Wr ws σ σ') (hs : ∀ i ∈ ws, i ∈ vs) : wipe σ' vs = wipe σ vs := by
  apply List.ext_getElem?
  intro i
  by_cases z : i ∈ vs
  · rw [wipe_in z, wipe_in z, h.1]
  · rw [wipe_get z, wipe_get z]
    exact h.2 i fun y => z (hs i y)
section
variable {K : PySem.W.Frag} {pv : List (Option V)} {pm : List Bool} {F H : Hp} {σ : L2.St} {env : Ev} {B : Nat → Rg} {vs : List Nat}
theorem Rel.wipe (r : Rel K pv F H σ env B) (m : Mask pm pv) (hm : ∀ i ∈ vs, pm[i]? ≠ some true) : Rel K pv F H (L2.wipe σ vs) (clsE env vs) B :=
  ⟨r.sub, by rw [wipe_length, clsE_len]; exact r.len, fun i t h => by
    obtain ⟨h1, h2⟩ := clsE_get h
    obtain ⟨v, e1, e2⟩ := r.at_ i t h1
    exact ⟨v, by rw [wipe_get h2]; exact e1, e2⟩, r.dis, r.off, r.live, fun i v h => by
    rw [wipe_get fun z => hm i z ((m i).2 ⟨v, h⟩)]
    exact r.fix i v h⟩
theorem Rel.unwipe (r : Rel K pv F H (L2.wipe σ vs) env B) : Rel K pv F H σ env B :=
  ⟨r.sub, by have := r.len; rwa [wipe_length] at this, fun i t h => by
    obtain ⟨v, e1, e2⟩ := r.at_ i t h
    exact ⟨v, (wipe_some e1).1, e2⟩, r.dis, r.off, r.live, fun i v h => (wipe_some (r.fix i v h)).1⟩
/-- an object that stands beside -/
structure Aside (F H : Hp) (R : Rg) (D : Addr) (o : HO) : Prop where
  at_ : H D = some o
  out : ¬ R D
  off : F D = none
theorem Aside.on {F' H' : Hp} {R R' : Rg} {D : Addr} {o : HO} (a : Aside F H R D o) (s : Step F H R F' H' R') : Aside F' H' R' D o := by
  refine ⟨s.keep D o a.at_ a.out, fun z => ?_, ?_⟩
  · rcases s.fresh D z with y | y
    · exact a.out y
    · rw [a.at_] at y; cases y
  · cases q : F' D with
    | none => rfl
    | some x =>
      rcases s.newF D (by rw [q]; simp) with y | y | y
      · exact absurd a.off y
      · exact absurd y a.out
      · rw [a.at_] at y; cases y
theorem Rel.aside {D : Addr} {o o' : HO} (r : Rel K pv F H σ env B) (a : Aside F H (U B) D o) : Rel K pv F (upd H D o') σ env B ∧ Aside F (upd H D o') (U B) D o' := by
  have ne : ∀ i b, B i b → b ≠ D := fun i b h z => a.out ⟨i, by rw [← z]; exact h⟩
  refine ⟨⟨fun b x h => ?_, r.len, fun i t h => ?_, r.dis, r.off, fun i b h => ?_, r.fix⟩, ⟨upd_same, a.out, a.off⟩⟩
  · rw [upd_ne (fun z => by rw [z, a.off] at h; cases h)]; exact r.sub b x h
  · obtain ⟨v, e1, e2⟩ := r.at_ i t h
    exact ⟨v, e1, e2.mono (Same.refl _) (fun b x hb q => by rw [upd_ne (ne i b hb)]; exact q) fun _ z => z⟩
  · rw [upd_ne (ne i b h)]; exact r.live i b h
end
def wYes : WT := fun env P => P true env
def wLcL (g : WG) (wt : WT) (we : WE) (own : List Nat) (chk : Ev → Prop) : List D → List D → (List D → Ev → Prop) → Ev → Prop
  | [], acc, k, env => chk env ∧ k acc env
  | d :: ds, acc, k, env => chk env ∧ g d env fun e1 => wt e1 fun b e2 => (b = true → we e2 fun t e3 => acc.length < sizeLine ∧ wLcL g wt we own chk ds (acc ++ [t.fr]) k (clsE e3 own)) ∧ (b = false → wLcL g wt we own chk ds acc k (clsE e2 own))
def wLc (own : List Nat) (wi : WI) (g : WG) (wt : WT) (we : WE) : WE := fun env P => wi env fun items chk e1 => wLcL g wt we own chk items [] (fun ds e => P (.lst ds) e) (clsE e1 own)
section
variable {X : Cx} {pm : List Bool} {elt tg iter : Expr} {ifs : List Expr} {scope : Scope} {own : List (Str × Nat)} {pos : Pos} {wi : WI} {g : WG} {wt : WT} {we : WE} {ws : List Nat}
theorem zts_nil : PTs X [] (TTz X pm wYes) := ⟨fun pins s σ H Q I ⟨pv, F, B, env, P, m, rel, hw, hq⟩ => pts_nil.run pins s σ H Q I (hq true env hw F H B .refl rel)⟩
theorem zts_one {c : Expr} (h : ZT X pm c wt) : PTs X [c] (TTz X pm wt) := pts_one h
theorem tz_lc (hm : ∀ i ∈ own.map (·.2), pm[i]? ≠ some true) (hws : ∀ i ∈ ws, i ∈ own.map (·.2)) {σ H Q} : TZ X pm (wLc (own.map (·.2)) wi g wt we) σ H Q → tLc (TIz X pm wi) (TGz X pm ws g) (TTz X pm wt) (TZ X pm we) (own.map (·.2)) σ H Q := fun ⟨pv, F, B, env, P, m, rel, hw, hq⟩ => by
  generalize hvs : own.map (·.2) = vs at *
  refine ⟨pv, F, B, env, _, m, rel, hw, fun items chk e1 h1 F1 H1 B1 J s1 r1 fd D hD => ?_⟩
  -- the turn's state
  let Wz : Nat → Hp → Prop := fun i H' => ∃ F' B' env' acc accV, Step F1 H1 (U B1) F' H' (Ru (U B') (fun a => a = D)) ∧ Same F1 F' ∧ Rel X.K pv F' H' (wipe σ vs) env' B' ∧ Aside F' H' (U B') D (.lst accV) ∧ IsDs X.K F' accV acc ∧
    wLcL g wt we vs chk (items.drop i) acc (fun ds e => P (.lst ds) e) env'
  refine ⟨fun i k H' => k = items.length - i ∧ i ≤ items.length ∧ Wz i H', ⟨_, rfl, Nat.zero_le _, ?_⟩, fun i k H' ⟨ek, hi, F', B', env', acc, accV, s', le', r', as', hacc, h'⟩ => ?_⟩
  · have al := Alloc.own (o := .lst []) r1.sub hD
    obtain ⟨r2, s2, d2⟩ := r1.alloc al
    exact ⟨F1, B1, clsE e1 vs, [], [], s2, Same.refl _, r2.wipe m hm, ⟨upd_same, fun ⟨i, z⟩ => d2 i D rfl z, r1.none_of hD⟩, .nil, h1⟩
  · by_cases hl : i < items.length
    · have ed : items.drop i = items[i] :: items.drop (i + 1) := List.drop_eq_getElem_cons hl
      have hx : items[i]? = some items[i] := List.getElem?_eq_getElem hl
      rw [ed] at h'
      obtain ⟨hc', h'⟩ := h'
      refine .inr ⟨fd.go i _ F' H' _ env' B' r' le' hc' hx, Wz (i + 1), fun H2 q => ⟨items.length - (i + 1), by omega, rfl, by omega, q⟩, fun x H2 y => ?_⟩
      obtain ⟨F2, al, hd⟩ := fd.yld i _ F' H' _ env' B' x H2 r' le' hc' hx y
      obtain ⟨r2, s2, _⟩ := r'.alloc al
      have s2 := s2.l
      have as2 := as'.on s2
      refine ⟨pv, F2, B', env', _, _, m, r2, hd, h', fun e3 h3 F3 H3 σ3 B3 w3 s3 r3 => ⟨wipe_wr w3 hws |>.trans ?_, ?_⟩⟩
      · -- wiping twice
        apply List.ext_getElem?
        intro j
        by_cases z : j ∈ vs
        · rw [wipe_in z, wipe_in z, wipe_length]
        · rw [wipe_get z]
      · have as3 := as2.on s3
        have wσ : wipe σ3 vs = wipe σ vs := by
          rw [wipe_wr w3 hws]
          apply List.ext_getElem?
          intro j
          by_cases z : j ∈ vs
          · rw [wipe_in z, wipe_in z, wipe_length]
          · rw [wipe_get z]
        -- what a state behind the turn comes to
        have comp : ∀ {F5 H5 H6 : Hp} {B5 : Nat → Rg} {o5 : HO}, Step F' H' (U B') F5 H5 (U B5) → Aside F5 H5 (U B5) D o5 → H6 = upd H5 D o5 ∨ (∃ o6, H6 = upd H5 D o6) → Step F1 H1 (U B1) F5 H6 (Ru (U B5) (fun a => a = D)) := fun {F5 H5 H6 B5 o5} st a5 hh => by
          have hk : ∀ a o, a ≠ D → H5 a = some o → H6 a = some o := fun a o n q => by
            rcases hh with rfl | ⟨o6, rfl⟩ <;> (rw [upd_ne n]; exact q)
          refine ⟨s'.le.trans st.le, fun a o q n => ?_, fun a h => ?_, fun a h => ?_⟩
          · have nD : a ≠ D := fun z => by rw [z, hD] at q; cases q
            have q' := s'.keep a o q n
            refine hk a o nD (st.keep a o q' fun z => ?_)
            rcases s'.fresh a (.inl z) with y | y
            · exact n y
            · rw [q] at y; cases y
          · rcases h with h | h
            · rcases st.fresh a h with z | z
              · exact s'.fresh a (.inl z)
              · exact s'.gone z
            · exact .inr (by rw [h]; exact hD)
          · rcases st.newF a h with z | z | z
            · exact s'.newF a z
            · exact .inr (s'.fresh a (.inl z))
            · exact .inr (s'.gone z)
        refine ⟨pv, F3, B3, e3, _, m, r3, h3, fun b e4 h4 F4 H4 B4 s4 r4 => ?_⟩
        have as4 := as3.on s4
        have st4 := (s2.trans s3).trans s4
        cases b with
        | false =>
          refine iteF ?_
          refine ⟨F4, B4, clsE e4 vs, acc, accV, ?_, (le'.trans st4.le), by rw [← wσ]; exact r4.wipe m hm, as4, hacc.mono st4.le, h4.2 rfl⟩
          have := comp (H6 := upd H4 D (.lst accV)) st4 as4 (.inl rfl)
          have e : upd H4 D (.lst accV) = H4 := by
            funext a
            by_cases z : a = D
            · rw [z, upd_same, as4.at_]
            · rw [upd_ne z]
          rwa [e] at this
        | true =>
          refine iteT ?_
          refine ⟨pv, F4, B4, e4, _, m, r4, h4.1 rfl, fun t e5 h5 F5 H5 B5 R5 v s5 r5 o5 => ?_⟩
          have as5 := as4.on s5
          obtain ⟨F6, r6, s6, d6⟩ := r5.freezeV o5
          have as6 := as5.on s6
          have st6 := (st4.trans s5).trans s6
          refine ⟨accV, as6.at_, by rw [hacc.length]; exact h5.1, F6, B5, clsE e5 vs, acc ++ [t.fr], accV ++ [v], comp st6 as6 (.inr ⟨_, rfl⟩), le'.trans st6.le, ?_, (r6.aside as6).2, (hacc.mono st6.le).append (.cons d6 .nil), h5.2⟩
          rw [← wσ]
          exact (r6.aside as6).1.wipe m hm
    · have ei : i = items.length := by omega
      subst ei
      rw [List.drop_length] at h'
      obtain ⟨hc', h'⟩ := h'
      refine .inl ⟨fd.stop _ F' H' _ env' B' r' le' hc' (Nat.le_refl _), ?_⟩
      refine hq _ _ h' F' H' B' (fun a => a = D) _ (s1.trans s') r'.unwipe ⟨.lst rfl as'.at_ hacc, fun i a e z => as'.out ⟨i, by rw [← e]; exact z⟩, fun a e => by rw [e]; exact as'.off, fun a e => by rw [e, as'.at_]; simp⟩
theorem ze_lc (hc : X.calm = true) (hN : X.N.Nodup) (hi : ZI X pm tg iter wi) (ok : BlkOk X.N X.env.scope scope own)
    (hg : ∀ (s : Shared) (H : Hp) (C : Addr) (cl : List (Str × Addr)) (fp : List Addr), PG (X.blk s H scope (compEnvC scope cl C X.env) fp) tg (TGz X pm ws g)) (ht : ∀ (s : Shared) (H : Hp) (C : Addr) (cl : List (Str × Addr)) (fp : List Addr), PTs (X.blk s H scope (compEnvC scope cl C X.env) fp) ifs (TTz X pm wt))
    (he : ∀ (s : Shared) (H : Hp) (C : Addr) (cl : List (Str × Addr)) (fp : List Addr), PE (X.blk s H scope (compEnvC scope cl C X.env) fp) elt (TZ X pm we)) (hm : ∀ i ∈ own.map (·.2), pm[i]? ≠ some true) (hws : ∀ i ∈ ws, i ∈ own.map (·.2)) (hs : ∀ x, foldedSetIterable iter X.env x = pure x := by intro _; rfl) :
    ZE X pm (.ListComp elt [⟨tg, iter, ifs, 0⟩] scope pos) (wLc (own.map (·.2)) wi g wt we) := pe_imp (pe_lc hc hN hi ok hg ht he hs) fun _ _ _ => tz_lc hm hws
end
theorem zs_setLc {X : Cx} {pm : List Bool} {elt tg iter : Expr} {ifs : List Expr} {scope : Scope} {own : List (Str × Nat)} {pos spos : Pos} {wi : WI} {g : WG} {wt : WT} {we : WE} {ws : List Nat} {i : Nat} {y : Str} {py : Pos}
    (hc : X.calm = true) (hN : X.N.Nodup) (hy : X.N[i]? = some y) (hl : X.env.scope.names.lookup y = some .local) (hmi : pm[i]? ≠ some true)
    (hsw : swapsWith (.ListComp elt [⟨tg, iter, ifs, 0⟩] scope pos) (some (.Name y py)) spos.line X.env = pure true) (hi : ZI X pm tg iter wi) (ok : BlkOk X.N X.env.scope scope own)
    (hg : ∀ (s : Shared) (H : Hp) (C : Addr) (cl : List (Str × Addr)) (fp : List Addr), PG (X.blk s H scope (compEnvC scope cl C X.env) fp) tg (TGz X pm ws g)) (ht : ∀ (s : Shared) (H : Hp) (C : Addr) (cl : List (Str × Addr)) (fp : List Addr), PTs (X.blk s H scope (compEnvC scope cl C X.env) fp) ifs (TTz X pm wt))
    (he : ∀ (s : Shared) (H : Hp) (C : Addr) (cl : List (Str × Addr)) (fp : List Addr), PE (X.blk s H scope (compEnvC scope cl C X.env) fp) elt (TZ X pm we)) (hm : ∀ i ∈ own.map (·.2), pm[i]? ≠ some true) (hws : ∀ i ∈ ws, i ∈ own.map (·.2)) (hs : ∀ x, foldedSetIterable iter X.env x = pure x := by intro _; rfl) :
    ZS X pm (.Assign [.Name y py] (.ListComp elt [⟨tg, iter, ifs, 0⟩] scope pos) spos) (wSet i (wLc (own.map (·.2)) wi g wt we)) := ps_imp (ps_setLc hc hN hy hl hsw hi ok hg ht he hs) fun D σ H ⟨pv, F, B, env, E, m, rel, hw, cn⟩ =>
  tz_lc hm hws ⟨pv, F, B, env, _, m, rel, hw, fun t e1 h1 F1 H1 B1 R1 v s1 r1 o1 => by
    obtain ⟨B2, r2, s2⟩ := r1.store o1 m hmi
    exact cn.nx _ F1 H1 _ B2 h1 (s1.less s2) r2⟩
/-- a name that stays through an expression -/
def wPinE (j : Nat) (w : WE) : WE := fun env P => (gt env j).isSome = true ∧ w env P
theorem ze_pin {X : Cx} {pm : List Bool} {e : Expr} {w : WE} (j : Nat) (h : ZE X (pinL pm j) e w) : ZE X pm e (wPinE j w) := pe_imp h fun σ H Q ⟨pv, F, B, env, P, m, rel, hw, hq⟩ => by
  obtain ⟨hs, hw⟩ := hw
  obtain ⟨t, q⟩ := Option.isSome_iff_exists.mp hs
  obtain ⟨v, e1, e2⟩ := rel.at_ j t (gt_some q)
  have hk : ∀ (i : Nat) (u : V), pv[i]? = some (some u) → (pinV pv j v)[i]? = some (some u) := fun i u hu => by
    by_cases z : i = j
    · subst z
      have := rel.fix i u hu
      rw [e1] at this; cases this
      exact pinV_at pv i v
    · exact pinV_ne pv j v i u z hu
  exact ⟨pinV pv j v, F, B, env, P, m.pin j v, rel.pin e1, hw, fun t e ht F' H' B' R v st r o => hq t e ht F' H' B' R v st (r.unpin hk) o⟩
end Zl

namespace Zl
open PySem PySem.Spec PyProof.Rows L2

/-! ### isinstance -/
def tyN : D → Option String
  | .non => some "NoneType"
  | .bl _ => some "bool"
  | .int _ => some "int"
  | .str _ => some "str"
  | .lst _ => some "list"
  | .rol _ => some "list"
  | .tup _ => some "tuple"
  | _ => none
def isiT (a n : String) : Bool := a == n || (a == "bool" && n == "int")
def isiNames : List String := ["int", "str", "bool", "list", "tuple", "dict"]
def gIsi : List D → (T → Prop) → Prop
  | [x, .ty n], k => match tyN x with
    | some a => isiNames.contains n = true ∧ k (.fz (.bl (isiT a n)))
    | none => False
  | _, _ => False
theorem kit_all : ∀ a ∈ ["NoneType", "bool", "int", "str", "list", "tuple"], ∀ n ∈ isiNames, kitB a n = some (isiT a n) := by decide +kernel
section
variable {X : Cx} {K : PySem.W.Frag} {F H : Hp}
theorem tyx_of {x : D} {v : V} {a : String} (s : Same F H) (h : Pk K F H v x) (e : tyN x = some a) : TyX K H v (.type a) ∧ a ∈ ["NoneType", "bool", "int", "str", "list", "tuple"] := by
  cases x <;> cases e
  · rw [h.non]; exact ⟨.base .non, by decide⟩
  · rw [h.bl]; exact ⟨.base (.bl _), by decide⟩
  · rw [h.int]; exact ⟨.base (.int _), by decide⟩
  · rw [h.str]; exact ⟨.base (.str _), by decide⟩
  · obtain ⟨p, vs, rfl, hq, _⟩ := h.tup1 s
    refine ⟨?_, by decide⟩
    rcases hq with (hq | ⟨o, hq⟩) | ⟨o, its, n, hq, hc, _⟩
    · exact .base (.tup hq)
    · exact .fTuple hq
    · exact .kTuple hq hc
  · obtain ⟨p, vs, rfl, hq, _⟩ := h.lst1 s
    exact ⟨.base (.lst hq), by decide⟩
  · obtain ⟨p, vs, rfl, hq, _⟩ := h.rol1 s
    refine ⟨?_, by decide⟩
    rcases hq with (hq | ⟨o, hq⟩) | ⟨o, its, n, hq, hc, _⟩
    · exact .base (.lst hq)
    · exact .base (.frz hq)
    · exact .kList hq hc
theorem opn_isi : OpN K (rIsi K) gIsi := ⟨fun F H vs ds P Q s hv h hq => by
  match ds, hv, h with
  | [], _, h => exact h.elim
  | [_], _, h => exact h.elim
  | [x, y], hv', h =>
    obtain ⟨v, u, rfl, k1, k2⟩ := hv'.two
    cases y <;> first
      | exact h.elim
      | skip
    rename_i n
    have h : (match tyN x with | some a => isiNames.contains n = true ∧ P (.fz (.bl (isiT a n))) | none => False) := h
    cases e : tyN x with
    | none => rw [e] at h; exact h.elim
    | some a =>
      rw [e] at h
      obtain ⟨t1, t2⟩ := tyx_of s k1 e
      have hn : n ∈ isiNames := by simpa using h.1
      have ku : u = .ty n := by
        cases k2 with
        | d h => cases h; rfl
      rw [ku]
      exact ⟨v, .ty n, .type a, .type n, isiT a n, rfl, .ty n, t1, kit_ty (kit_all a t2 n hn), hq _ _ F H Rg0 h.2 (.refl s) (.fz (.bl _))⟩
  | x :: y :: _ :: _, _, h => exact absurd h (by cases y <;> exact fun z => z)⟩
/-- isinstance(x, C) of an instance of C -/
def gIsiC (c : Cd) : List D → (T → Prop) → Prop
  | [.ins c' _, .cls C], k => (c' = c ∧ C = c.C) ∧ k (.fz (.bl true))
  | _, _ => False
def rIsiC (C : Addr) : List V → Hp → VK → Prop := fun xs H Q => ∃ a dx fs, xs = [.ref a, .ref C] ∧ H a = some (.ins C dx fs) ∧ Q (.bl true) H
theorem opn_isiC {c : Cd} : OpN K (rIsiC c.C) (gIsiC c) := ⟨fun F H vs ds P Q s hv h hq => by
  match ds, hv, h with
  | [], _, h => exact h.elim
  | [_], _, h => exact absurd h (by cases ‹D› <;> exact fun z => z)
  | [x, y], hv', h =>
    obtain ⟨v, u, rfl, k1, k2⟩ := hv'.two
    cases x <;> cases y <;> first
      | exact h.elim
      | skip
    obtain ⟨⟨e1, e2⟩, h9⟩ := h
    subst e1 e2
    obtain ⟨C0, ku⟩ : ∃ C0, u = .ref C0 ∧ C0 = (_ : Cd).C := by
      cases k2 with
      | d h => cases h; exact ⟨_, rfl, rfl⟩
    obtain ⟨ku, ku2⟩ := ku
    subst ku ku2
    cases k1 with
    | d k =>
      cases k with
      | ins hh l hs => exact ⟨_, _, _, rfl, s _ _ hh, hq _ _ F H Rg0 h9 (.refl s) (.fz (.bl _))⟩
    | ins hh l => exact ⟨_, _, _, rfl, hh, hq _ _ F H Rg0 h9 (.refl s) (.fz (.bl _))⟩
  | x :: y :: _ :: _, _, h => exact absurd h (by cases x <;> cases y <;> exact fun z => z)⟩
/-- a built-in type, a class of the text, as a value -/
theorem ze_ty {pm : List Bool} {x : Str} {n : String} {pos : Pos} (hg : Gl X x) (hm : X.mg x = none) (hv : bootBuiltins x = some (.type n)) (hn : x ≠ "__name__" := by decide) (hd : (x == ("__debug__" : Str)) = false := by decide) : ZE X pm (.Name x pos) (wC (.ty n)) :=
  ze_c (pe_bltn (v := .ty n) hg hm hv rfl hn hd) fun _ _ => .ty n
theorem ze_cls {pm : List Bool} {x : Str} {C : Addr} {pos : Pos} (hg : Gl X x) (hm : X.mg x = some (.ref C)) (hd : (x == ("__debug__" : Str)) = false := by decide) : ZE X pm (.Name x pos) (wC (.cls C)) :=
  ze_c (pe_glob (v := .ref C) hg hm rfl hd) fun _ _ => .cls C
end

/-! ### in, not in: flat things in a list or tuple -/
def flatD : D → Bool
  | .non => true
  | .bl _ => true
  | .int _ => true
  | .str _ => true
  | _ => false
end Zl

/-! A def's promise where no repr is under way (repr of lists and tuples asks for it). -/
namespace Zl
open PySem PySem.Spec PyProof.Rows L2

/-- no repr is under way -/
abbrev NoG (A : Around) : Prop := A.guards = some []
theorem NoG.deeper {A : Around} (g : NoG A) (e : Env) : NoG (A.deeper e) := by
  first | exact g | (unfold NoG at *; simp [Around.deeper, g])
theorem NoG.make {A : Around} (g : NoG A) (C : Addr) (us : List Value) : NoG (A.under (.builtin "type.__call__" ⟨.ref C :: us, []⟩)) := by
  unfold NoG at *
  first | exact g | simp [Around.under, Code.guards, Code.isGuard, guardIds, pushGuards, g]
structure FnG (P : Program) (w : World) (K : PySem.W.Frag) (mg : Str → Option Value) (base : Heap) (k : Nat) (f : Addr) (fd : FuncData) (ps : List Str) (sp : Sp) : Prop where
  len : ∀ vs H Q E, sp vs H Q E → vs.length = ps.length
  run : ∀ (A : Around) (outer : List Env) (s : Shared) (H : Hp) (args : Args) (us : List Value) (vs : List V) (Q : VK) (E : XK), NoG A → Room k A → Env0 P w K mg base A outer s H →
    BindsTo s fd args (ps.zip us) → Vals vs us → sp vs H Q E → codeAny (model P w) A (.call (.ref f) args) (CR CX0 outer P w H s Q E) s
section
variable {P : Program} {w : World} {K : PySem.W.Frag} {mg : Str → Option Value} {base : Heap}
/-- a def's promise by its body -/
theorem fnG_body {x qual : Str} {st : Stmt} {f : Addr} {fd : FuncData} {N ps : List Str} {k : Nat} {sp : Sp} (Fn : Fun K x qual st f fd) (S : FnScope N ps (defScope st)) (len : ∀ vs H Q E, sp vs H Q E → vs.length = ps.length)
    (hbody : ∀ (cdv : Value) (A : Around) (outer : List Env) (s : Shared) (H : Hp) (vs : List V) (Q : VK) (E : XK), NoG A → Room k (A.deeper (envOfC qual (defScope st) s.heap.objs.size f cdv)) → sp vs H Q E →
      ∃ t, PSs (cxOf CX0 P w K mg base N qual (defScope st) f cdv A outer s H E).nox (defBody st) t ∧ t { nx := fun _ H' => Q .non H', rt := Q } (start N vs) H) : FnG P w K mg base (k + 1) f fd ps sp := by
  obtain ⟨oc, od, kV, doc, pm, an, cdv, ct, osl, efd, lk, hcd⟩ := Fn.ex
  subst efd
  constructor
  · exact len
  intro A outer s H args us vs Q E ng hr e0 hb rv hsp
  have inS := fun b o (z : base.get? b = some o) => (e0.bs b o z).1
  have kin : K.In s.heap := e0.mod.kin.keeps inS
  have nl : s.heap.NoLimit := e0.mod.nolimit.keeps inS
  have hk : ∀ y ∈ ps.zip us, (defScope st).names.lookup y.1 = some .local ∨ ((defScope st).names.lookup y.1 = some .cell ∧ ((cellsFrom (s.heap.objs.size + 1) (defScope st).names []).lookup y.1).isSome = true) := by
    rintro ⟨n, v⟩ hy
    cases S.par n (List.of_mem_zip hy).1 with
    | inl q => exact Or.inl q
    | inr q => exact Or.inr ⟨q, PySem.W.cellsFrom_some _ _ _ (Or.inl q)⟩
  refine codeAny_call_function hr.depth (kin _ _ lk) rfl S.co S.gen rfl (PySem.W.codeRec_of kin hcd) (hb _ _ _ _ (wpAny_newFunctionEnv_cells S.kind hk ?_))
  intro env he s1 inC
  subst he
  refine ⟨nl.keeps inC.toInCall.keep, codeAny_func ?_⟩
  obtain ⟨t, ht, hq⟩ := hbody cdv A outer s H vs Q E ng (hr.deeper _) hsp
  have I := inv_start (CX := CX0) (P := P) (w := w) (N := N) (qual := qual) (f := f) (cd := cdv) (E := E) S hr.hd e0 (len _ _ _ _ hsp) rv inC
  refine wpAny_mono (ht.nox.run [] s1 (start N vs) H _ I hq) ?_ fun _ _ z => z
  intro fl s' hs
  match fl, hs with
  | .ret u, ⟨v, _, H', J, r, q⟩ => exact ⟨v, H', J.os, J.bare, J.base, J.hok, r, q⟩
  | .next, ⟨_, H', J, q⟩ => exact ⟨V.non, H', J.os, J.bare, J.base, J.hok, (rfl : Value.none = Value.none), q⟩
  | .brk, ⟨_, _, _, q⟩ => exact q.elim
  | .cont, ⟨_, _, _, q⟩ => exact q.elim
/-- THE RULE for a def -/
theorem z_funG {x qual : Str} {st : Stmt} {f : Addr} {fd : FuncData} {N ps : List Str} {k : Nat} {sp : DSp} (pm : List Bool) (Fn : Fun K x qual st f fd) (S : FnScope N ps (defScope st)) (hpm : pm.length = ps.length) (len : ∀ ts P, sp ts P → ts.length = ps.length)
    (hbody : ∀ (cdv : Value) (A : Around) (outer : List Env) (s : Shared) (H : Hp) (E : XK), NoG (A.deeper (envOfC qual (defScope st) s.heap.objs.size f cdv)) → Room k (A.deeper (envOfC qual (defScope st) s.heap.objs.size f cdv)) →
      ∃ w0, ZSs (cxOf CX0 P w K mg base N qual (defScope st) f cdv A outer s H E).nox pm (defBody st) w0 ∧ ∀ ts P, sp ts P → w0 (fin pm ts P) (Zl.entry N.length ts)) : FnG P w K mg base (k + 1) f fd ps (spOf K sp) := by
  refine fnG_body Fn S (fun vs H Q E ⟨F, B, ts, P, r, h, _⟩ => ?_) fun cdv A outer s H vs Q E ng hr ⟨F, B, ts, P, r0, h, hq⟩ => ?_
  · have := r.len
    rw [List.length_map, List.length_map] at this
    rw [this]; exact len ts P h
  · obtain ⟨w0, hw, hb⟩ := hbody cdv A outer s H E (ng.deeper _) hr
    have hvl : vs.length = ts.length := by have := r0.len; rwa [List.length_map, List.length_map] at this
    have hpv : pm.length = vs.length := by rw [hpm, hvl, len ts P h]
    obtain ⟨B2, r1, s1, m1⟩ := Rel.entry (N := N) hpv r0
    refine ⟨_, hw, pinned pm vs, F, B2, _, fin pm ts P, m1, r1, hb ts P h, ?_⟩
    have go : ∀ (t : T) (env' : Ev) (F' H' : Hp) (σ' : L2.St) (B' : Nat → Rg) (R' : Rg) (v : V), (match aft pm ts env' with | some ts' => P t ts' | none => False) → Step F H (U B2) F' H' (Ru (U B') R') → Rel K (pinned pm vs) F' H' σ' env' B' → OwnV K F' H' B' R' v t → Q v H' := fun t env' F' H' σ' B' R' v hp s2 r2 o2 => by
      cases q : aft pm ts env' with
      | none => rw [q] at hp; exact hp.elim
      | some ts' =>
        rw [q] at hp
        obtain ⟨B3, r3, s3, o3⟩ := Rel.out hpv r0 s2.le r2 q o2 (s2.more s1)
        exact hq t ts' hp F' H' B3 R' v s3 r3 o3
    exact ⟨fun env' F' H' σ' B' hp s2 r2 => go (.fz .non) env' F' H' σ' B' Rg0 .non hp s2.r0 r2 (OwnV.fz .non), fun t env' F' H' σ' B' R' v hp s2 r2 o2 => go t env' F' H' σ' B' R' v hp s2 r2 o2, fun env' F' H' σ' B' hp s2 r2 => hp.elim, fun env' F' H' σ' B' hp s2 r2 => hp.elim⟩
end
section
variable {X : Cx} {k : Nat} {f C : Addr} {fd : FuncData} {ps : List Str} {sp : Sp} {dvs : List V} {ds : List Value} {x m : Str} {p pos apos : Pos} {e o : Expr} {es : List Expr} {ta : TE} {t : TA}
  {pins : List (Addr × Obj)} {σ : L2.St} {H : Hp} {s : Shared} {Q : VK} {us : List Value} {vs : List V}
/-- the callee runs -/
theorem runG (Fn : FnG X.prog X.w X.K X.mg X.base k f fd ps sp) (g : NoG X.A) (hr : Room k X.A) (hb : Binds X.K fd ps ds) (hd : Vals dvs ds) (I : Inv X pins σ H s) (r : Vals vs us) (h : sp (vs ++ dvs) H Q E0) :
    wpAny (model X.prog X.w) X.A (call (.ref f) us) (EP X pins σ Q) X.xe s := by
  have rr := r.append hd
  have hl : (us ++ ds).length = ps.length := rr.length ▸ Fn.len _ _ _ _ h
  refine wpAny_call (codeAny_mono (Fn.run X.A X.stack s H ⟨us, []⟩ (us ++ ds) (vs ++ dvs) Q E0 g hr I.env0 (hb s us I.kIn hl) rr h) ?_)
  intro r s' hq
  match r, hq with
  | .ok (.ret _), hq => exact I.after hq
  | .error _, hq => exact hq.elim
theorem runMG (M : Mk X.K C f) (Fn : FnG X.prog X.w X.K X.mg X.base k f fd ps sp) (g : NoG X.A) (hr : Room (k + 1) X.A) (hb : Binds X.K fd ps ds) (hd : Vals dvs ds) (I : Inv X pins σ H s) (r : Vals vs us)
    (h : ∀ x dx, H x = none → H dx = none → dx ≠ x → sp (.ref x :: (vs ++ dvs)) (upd (upd H dx (.own x)) x (.ins C dx [])) (fun v H2 => v = .non ∧ Q (.ref x) H2) E0) :
    wpAny (model X.prog X.w) X.A (call (.ref C) us) (EP X pins σ Q) X.xe s := by
  -- the new object's place is n + 1, its dict's n
  generalize en : s.heap.objs.size = n
  have f1 : H (n + 1) = none := I.hok.fresh (en ▸ Nat.le_succ _)
  have f0 : H n = none := I.hok.fresh (en ▸ Nat.le_refl _)
  have hq := h (n + 1) n f1 f0 (Nat.ne_of_lt (Nat.lt_succ_self _))
  have J := Inv.made (C := C) I
  rw [en] at J
  have rr : Vals (.ref (n + 1) :: (vs ++ dvs)) (.ref (n + 1) :: (us ++ ds)) := .cons rfl (r.append hd)
  have hl : (.ref (n + 1) :: us ++ ds).length = ps.length := rr.length ▸ Fn.len _ _ _ _ hq
  have body := Fn.run _ X.stack _ _ ⟨.ref (n + 1) :: us, []⟩ _ _ _ E0 (g.make C us) (hr.make C us []) (J.env0.make C us []) (hb _ (.ref (n + 1) :: us) J.kIn hl) rr hq
  refine wpAny_call (make_map (f := f) I.kIn M.makes M.init (beq_iff_eq.mp M.fn) ?_)
  rw [en]
  refine codeAny_mono body ?_
  intro r s' hq'
  match r, hq' with
  | .ok (.ret _), hq' =>
    obtain ⟨v, H', I3, rv, ev, q3⟩ := J.after hq'
    subst ev
    exact ⟨rv, ⟨V.ref (n + 1), H', I3, rfl, q3⟩⟩
  | .error _, hq' => exact hq'.elim
theorem pe_callG (Fn : FnG X.prog X.w X.K X.mg X.base k f fd ps sp) (g : NoG X.A) (hr : Room k X.A) (hg : Gl X x) (hm : X.mg x = some (.ref f)) (hk : PySem.W.keepIn X.K (.ref f) = true) (hb : Binds X.K fd ps ds) (hd : Vals dvs ds)
    (ha : PA X (e :: es) t) (hdb : (x == ("__debug__" : Str)) = false) (he : starEach (e :: es) X.env = (false, eval e X.env) :: starEach es X.env) (hpl : (backTo pos (starEach es X.env)).any (·.1) = false) :
    PE X (.Call (.Name x p) (e :: es) [] pos) (tCall sp dvs E0 t) where
  run := fun pins s σ H Q I h => wpAny_Call_Name_kw (ld_glob I hg hm (PySem.W.callWith_K (h₀ := X.base) I.ok.mod.kin hk (thn (ha.run pos pins s σ H _ I h) fun us s1 ⟨vs, H1, I1, r, q⟩ => ⟨I1.kIn, runG Fn g hr hb hd I1 r q⟩) he hpl) hdb)
theorem pe_call0G (Fn : FnG X.prog X.w X.K X.mg X.base k f fd ps sp) (g : NoG X.A) (hr : Room k X.A) (hg : Gl X x) (hm : X.mg x = some (.ref f)) (hk : PySem.W.keepIn X.K (.ref f) = true) (hb : Binds X.K fd ps ds) (hd : Vals dvs ds)
    (hdb : (x == ("__debug__" : Str)) = false) : PE X (.Call (.Name x p) [] [] pos) (tCall sp dvs E0 tNil) where
  run := fun pins s σ H Q I h => wpAny_Call_Name_kw (ld_glob I hg hm (PySem.W.callWith_K0 I.kIn hk (runG (us := []) Fn g hr hb hd I .nil h)) hdb)
theorem pe_methG {pl : Sem Bool} (he : PE X o ta) (c : Cls X.K C) (hm : Meth X.K C m f) (Fn : FnG X.prog X.w X.K X.mg X.base k f fd ps sp) (g : NoG X.A) (hr : Room k X.A) (hb : Binds X.K fd ps ds) (hd : Vals dvs ds) (ha : PA X (e :: es) t)
    (hst : starEach (e :: es) X.env = (false, eval e X.env) :: starEach es X.env) (hpl : (backTo pos (starEach es X.env)).any (·.1) = false)
    (ht : eval (.Call (.Attribute o m apos) (e :: es) [] pos) X.env = (do
      let ov ← eval o X.env
      standAt apos.atName
      let (f, first) ← holding [ov] (getMethod ov m pl)
      callWith pos f first (backTo pos (starEach (e :: es) X.env)) (backToKw pos (keywordEach [] X.env)))) : PE X (.Call (.Attribute o m apos) (e :: es) [] pos) (tMeth C m sp dvs E0 ta t) where
  run := fun pins s σ H Q I h => PySem.W.methodCall_KW (pl := pl) (thn (he.run pins s σ H _ I h) fun u s1 ⟨x, H1, I1, rx, a, dx, fs, ex, ea, l, q⟩ => by
    subst ex
    cases (show u = Value.ref a from rx)
    exact getmeth_ok I1 ea c hm l (PySem.W.callWith_K (first := [.ref a]) (h₀ := X.base) I.ok.mod.kin hm.kp (thn (ha.run pos pins s1 σ H1 _ I1 q) fun us s2 ⟨vs, H2, I2, r, q2⟩ => ⟨I2.kIn, runG (us := .ref a :: us) (vs := .ref a :: vs) Fn g hr hb hd I2 (.cons rfl r) q2⟩) hst hpl)) ht
theorem pe_meth0G {pl : Sem Bool} (he : PE X o ta) (c : Cls X.K C) (hm : Meth X.K C m f) (Fn : FnG X.prog X.w X.K X.mg X.base k f fd ps sp) (g : NoG X.A) (hr : Room k X.A) (hb : Binds X.K fd ps ds) (hd : Vals dvs ds)
    (ht : eval (.Call (.Attribute o m apos) [] [] pos) X.env = (do
      let ov ← eval o X.env
      standAt apos.atName
      let (f, first) ← holding [ov] (getMethod ov m pl)
      callWith pos f first (backTo pos (starEach [] X.env)) (backToKw pos (keywordEach [] X.env)))) : PE X (.Call (.Attribute o m apos) [] [] pos) (tMeth C m sp dvs E0 ta tNil) where
  run := fun pins s σ H Q I h => PySem.W.methodCall_KW (pl := pl) (thn (he.run pins s σ H _ I h) fun u s1 ⟨x, H1, I1, rx, a, dx, fs, ex, ea, l, q⟩ => by
    subst ex
    cases (show u = Value.ref a from rx)
    exact getmeth_ok I1 ea c hm l (PySem.W.callWith_K0 (first := [.ref a]) I1.kIn hm.kp (runG (us := [.ref a]) (vs := [.ref a]) Fn g hr hb hd I1 (.cons rfl .nil) q))) ht
theorem pe_makeG (M : Mk X.K C f) (Fn : FnG X.prog X.w X.K X.mg X.base k f fd ps sp) (g : NoG X.A) (hr : Room (k + 1) X.A) (hg : Gl X x) (hm : X.mg x = some (.ref C)) (hb : Binds X.K fd ps ds) (hd : Vals dvs ds)
    (ha : PA X (e :: es) t) (hdb : (x == ("__debug__" : Str)) = false) (he : starEach (e :: es) X.env = (false, eval e X.env) :: starEach es X.env) (hpl : (backTo pos (starEach es X.env)).any (·.1) = false) :
    PE X (.Call (.Name x p) (e :: es) [] pos) (tMake C sp dvs E0 t) where
  run := fun pins s σ H Q I h => wpAny_Call_Name_kw (ld_glob I hg hm (PySem.W.callWith_K (h₀ := X.base) I.ok.mod.kin M.kp (thn (ha.run pos pins s σ H _ I h) fun us s1 ⟨vs, H1, I1, r, q⟩ => ⟨I1.kIn, runMG M Fn g hr hb hd I1 r q⟩) he hpl) hdb)
theorem pe_make0G (M : Mk X.K C f) (Fn : FnG X.prog X.w X.K X.mg X.base k f fd ps sp) (g : NoG X.A) (hr : Room (k + 1) X.A) (hg : Gl X x) (hm : X.mg x = some (.ref C)) (hb : Binds X.K fd ps ds) (hd : Vals dvs ds)
    (hdb : (x == ("__debug__" : Str)) = false) : PE X (.Call (.Name x p) [] [] pos) (tMake C sp dvs E0 tNil) where
  run := fun pins s σ H Q I h => wpAny_Call_Name_kw (ld_glob I hg hm (PySem.W.callWith_K0 I.kIn M.kp (runMG (us := []) M Fn g hr hb hd I .nil h)) hdb)
end
end Zl

/-! The law's call at the top, by a promise that asks for no repr under way. -/
namespace Zl
open PySem PySem.Spec PyProof.Rows L2
section
variable {P : Program} {w : World} {K : PySem.W.Frag} {mg mb : Str → Option Value} {k : Nat} {fa a : Addr} {fd : FuncData} {x : Str} {sp : Sp} {s : Shared} {vs : List Value} {ns : List Int}
/-- what is asked behind the law's call -/
def EndOk (s : Shared) (r : Result) (s' : Shared) : Prop := r = .ok (.ret (.bool true)) ∧ OldK s.heap s'.heap ∧ s'.os = s.os ∧ AllBare s'.gens
/-- from an abstract heap that tracks the script at most -/
theorem callG_at {H : Hp} (KX : K.In s.heap) (hns : s.heap.Ns mainGlobals mg) (hb : s.heap.Ns builtinsNs mb) (hbb : ∀ x : Str, x ≠ "__name__" → mb x = bootBuiltins x) (hlim : s.heap.NoLimit) (hg : s.gens = #[])
    (ha : s.heap.get? a = some { cls := .type "list", data := .seq vs.toArray }) (hr : Room k callerA) (Fn : ∀ base : Heap, K.In base → base.Ns mainGlobals mg → FnG P w K mg base k fa fd [x] sp)
    (hbind : ∀ (s : Shared) (u : Value), BindsTo s fd ⟨[u], []⟩ [(x, u)]) (hO : Only H) (hsp : sp [.ref a] H (fun v _ => v = .bl true) E0) (hok : HOk P w H s.heap) (hA : ∀ b, H b ≠ none → b = a) (hK : H a ≠ none → K.lookup a = none) :
    codeAny (model P w) callerA (.call (.ref fa) ⟨[.ref a], []⟩) (EndOk s) s := by
  -- what is no dict of the heap's is tracked at most
  have free : ∀ {b : Addr} {o : Obj}, s.heap.get? b = some o → (∀ c, o.data ≠ .seq c 0) → H b = none := fun {b o} e d => by
    by_cases z : H b = none
    · exact z
    · have := hA b z
      subst this
      rw [ha] at e
      cases e
      exact absurd rfl (d vs.toArray)
  have nsH : ∀ {b : Addr} {m : Str → Option Value}, s.heap.Ns b m → (hidT s.heap H).Ns b m := fun ⟨o, es, ep, e, d, q⟩ => ⟨o, es, ep, hidT_get e (free e fun c z => by rw [d] at z; cases z), d, q⟩
  have kH : K.In (hidT s.heap H) := fun b o e => hidT_get (KX b o e) (by
    by_cases z : H b = none
    · exact z
    · have z2 := hA b z
      subst z2
      rw [hK z] at e
      cases e)
  obtain ⟨mc, c1, c2⟩ := hlim
  have M : Mod K mg (hidT s.heap H) := ⟨kH, nsH hns, ⟨mb, nsH hb, hbb⟩, ⟨mc, nsH c1, c2⟩⟩
  have none_in : ∀ {b : Addr}, b ∉ ([] : List Addr) := fun z => by cases z
  have e0 : Env0 P w K mg (hidT s.heap H) callerA [] s H := ⟨rfl, M, fun b o e => of_hidT e, Nat.le_of_eq (hidT_size _ _), trivial, fun b z => (none_in z).elim, hok, .of_eq hg⟩
  refine codeAny_mono ((Fn _ kH (nsH hns)).run callerA [] s H ⟨[.ref a], []⟩ [.ref a] [.ref a] _ E0 rfl hr e0 (hbind s (.ref a)) (.cons rfl .nil) hsp) ?_
  intro r s' h
  match r, h with
  | .error _, h => exact h.elim
  | .ok (.ret u), ⟨v, H', os, bare, un, hok', rv, q⟩ =>
    replace q : v = .bl true := q
    subst q
    cases (show u = Value.bool true from rv)
    refine ⟨rfl, OldK.of_keep ?_, os, bare⟩
    intro b o e
    rcases hO b with z | ⟨ob, xs, z⟩
    · exact un.keep b o e z (fun y => none_in (show b ∈ ([] : List Addr) from y)) none_in
    · have e1 := (hok b _ z).1
      have e2 := (hok' b _ (un.frzs b ob _ z)).1
      rw [e1] at e
      rw [← e]
      exact e2
/-- THE HEAD -/
theorem callG (KX : K.In s.heap) (hns : s.heap.Ns mainGlobals mg) (hb : s.heap.Ns builtinsNs mb) (hbb : ∀ x : Str, x ≠ "__name__" → mb x = bootBuiltins x) (hlim : s.heap.NoLimit) (hg : s.gens = #[])
    (ha : s.heap.get? a = some { cls := .type "list", data := .seq vs.toArray }) (hi : IntsAre vs ns) (hl : ns.length ≤ sizeLine) (hr : Room k callerA) (Fn : ∀ base : Heap, K.In base → base.Ns mainGlobals mg → FnG P w K mg base k fa fd [x] sp)
    (hbind : ∀ (s : Shared) (u : Value), BindsTo s fd ⟨[u], []⟩ [(x, u)]) (hsp : ∀ H : Hp, SqL K H a (ns.map V.int) → sp [.ref a] H (fun v _ => v = .bl true) E0) :
    codeAny (model P w) callerA (.call (.ref fa) ⟨[.ref a], []⟩) (EndOk s) s := by
  have rv := vals_ints hi
  by_cases q : K.lookup a = none
  · -- tracked, known to the object
    let H : Hp := fun b => if b = a then some (.frz { cls := .type "list", data := .seq vs.toArray } (.lst (ns.map V.int))) else none
    have at_a : H a = some (.frz { cls := .type "list", data := .seq vs.toArray } (.lst (ns.map V.int))) := if_pos rfl
    have off_a : ∀ {b : Addr}, b ≠ a → H b = none := fun z => if_neg z
    refine callG_at (H := H) KX hns hb hbb hlim hg ha hr Fn hbind (fun b => ?_) (hsp H (.inl (.inr ⟨_, at_a⟩))) (fun b u z => ?_) (fun b z => ?_) fun _ => q
    · rcases Classical.em (b = a) with y | y
      · subst y; exact .inr ⟨_, _, at_a⟩
      · exact .inl (off_a y)
    · rcases Classical.em (b = a) with y | y
      · subst y
        rw [at_a] at z
        cases z
        exact ⟨ha, by rw [List.length_map]; exact hl, vs, _, rv, ha⟩
      · rw [off_a y] at z; cases z
    · rcases Classical.em (b = a) with y | y
      · exact y
      · exact (z (off_a y)).elim
  · -- an object of the module
    obtain ⟨o, ho⟩ := Option.ne_none_iff_exists'.mp q
    have e := KX a o ho
    rw [ha] at e
    cases e
    exact callG_at (H := fun _ => none) KX hns hb hbb hlim hg ha hr Fn hbind (fun _ => .inl rfl) (hsp _ (.inr ⟨_, vs.toArray, _, ho, rfl, rfl, rfl, by rw [List.size_toArray, hi.length]; exact hl, by simpa using rv⟩)) (fun b u z => by cases z) (fun b z => (z rfl).elim) fun z => (z rfl).elim
end
theorem walk_ofG {l : PySem.W.OpenLaw} {n k : Nat} {q : Program} {loose : List Str} {XP : (Str → Option Value) → Heap → Prop} {YP : World → Heap → Prop} {d : DefRec} {K : Params → PySem.W.Frag} {sp : World → Sp} {x : Str}
    (hn : l.most = some n) (hn2 : n ≤ sizeLine) (hdf : d.params.defaults = []) (hr : Room k callerA) (hY : ∀ (w : World) (h : Heap), YP w h → (K w.params).In h)
    (F : ∀ (w : World) (mg : Str → Option Value) (fa : Addr) (h : Heap), (K w.params).In h → h.Ns mainGlobals mg → mg d.name = some (.ref fa) → ∃ fd : FuncData, (∀ (s : Shared) (u : Value), BindsTo s fd ⟨[u], []⟩ [(x, u)]) ∧
      ∀ base : Heap, (K w.params).In base → base.Ns mainGlobals mg → FnG l.prog w (K w.params) mg base k fa fd [x] (sp w))
    (hsp : ∀ (w : World) (H : Hp) (a : Addr) (ns : List Int), ns.length ≤ n → SqL (K w.params) H a (ns.map V.int) → sp w [.ref a] H (fun v _ => v = .bl true) E0) :
    PySem.W.WalkO q loose XP YP l.row.toRowW d [] (fun f vs => PySem.call f vs) := by
  refine Att.attach_call hn hdf ?_
  intro w s₀ s₁ mg mb fa o pm cd doc a vs ns G Y ho hd hcd hmg hobj hints hlen hg
  have KX := hY w _ Y
  obtain ⟨fd, hb, hF⟩ := F w mg fa _ KX G.T.g hmg
  exact callG KX G.T.g G.T.b G.T.builtins G.T.nolimit hg hobj hints (Nat.le_trans hlen hn2) hr hF hb fun H hS => hsp w H a ns hlen hS
end Zl

/-! repr of data. -/
namespace Zl
open PySem PySem.Spec PyProof.Rows L2

/-- data of at most that depth that repr can show -/
def D.rp : Nat → D → Bool
  | _, .non => true
  | _, .bl _ => true
  | _, .int i => decide (i.natAbs < 2 ^ 200)
  | _, .str s => PyData.strOk s
  | n + 1, .tup ds => ds.all (D.rp n)
  | n + 1, .lst ds => ds.all (D.rp n)
  | n + 1, .rol ds => ds.all (D.rp n)
  | _, _ => false
mutual
/-- its text is at most that long -/
def D.sz : D → Nat
  | .str s => 10 * s.length + 2
  | .tup ds => D.szs ds + 3
  | .lst ds => D.szs ds + 3
  | .rol ds => D.szs ds + 3
  | _ => 210
def D.szs : List D → Nat
  | [] => 0
  | d :: ds => d.sz + 2 + D.szs ds
end
theorem D.rp_ok : ∀ (n : Nat) (d : D), D.rp n d = true → D.ok n d = true
  | _, .non, _ => by simp [D.ok]
  | _, .bl _, _ => by simp [D.ok]
  | _, .int _, _ => by simp [D.ok]
  | n, .str _, h => by cases n <;> exact h
  | 0, .tup ds, h => by cases h
  | 0, .lst ds, h => by cases h
  | 0, .rol ds, h => by cases h
  | n + 1, .tup ds, h => List.all_eq_true.mpr fun d hd => D.rp_ok n d (List.all_eq_true.mp h d hd)
  | n + 1, .lst ds, h => List.all_eq_true.mpr fun d hd => D.rp_ok n d (List.all_eq_true.mp h d hd)
  | n + 1, .rol ds, h => List.all_eq_true.mpr fun d hd => D.rp_ok n d (List.all_eq_true.mp h d hd)
  | 0, .ins _ _, h => by cases h
  | 0, .ty _, h => by cases h
  | 0, .cls _, h => by cases h
  | _ + 1, .ins _ _, h => by cases h
  | _ + 1, .ty _, h => by cases h
  | _ + 1, .cls _, h => by cases h
theorem log_small {i : Int} (h : i.natAbs < 2 ^ 200) : i.natAbs.log2 < 200 := by
  by_cases z : i.natAbs = 0
  · rw [z]; decide
  · exact (Nat.log2_lt z).mpr h
theorem pys_len : ∀ ds : List D, (PyData.shownAll (D.pys ds)).length = ds.length
  | [] => by simp [D.pys, PyData.shownAll]
  | d :: ds => by simp only [D.pys, PyData.shownAll, List.length_cons, pys_len ds]
theorem shows {n : Nat} (ih : ∀ d : D, D.rp n d = true → d.py.showable = true ∧ d.py.shown.length ≤ d.sz) : ∀ ds : List D, ds.all (D.rp n) = true → PyData.showableAll (D.pys ds) = true ∧ ((PyData.shownAll (D.pys ds)).map (·.length)).sum + 2 * ds.length ≤ D.szs ds
  | [], _ => by simp [D.pys, PyData.showableAll, PyData.shownAll, D.szs]
  | d :: ds, h => by
    rw [List.all_cons, Bool.and_eq_true] at h
    obtain ⟨a, b⟩ := ih d h.1
    obtain ⟨c, e⟩ := shows ih ds h.2
    simp only [D.pys, PyData.showableAll, PyData.shownAll, D.szs, List.map_cons, List.sum_cons, List.length_cons, a, c, Bool.and_self, true_and]
    omega
theorem D.rp_py : ∀ (n : Nat) (d : D), D.rp n d = true → d.py.showable = true ∧ d.py.shown.length ≤ d.sz
  | n, .non, _ => by simp only [D.py, PyData.showable, PyData.shown, D.sz, true_and]; decide +kernel
  | n, .bl b, _ => by simp only [D.py, PyData.showable, PyData.shown, D.sz, true_and]; cases b <;> decide +kernel
  | n, .int i, h => by
    have h : decide (i.natAbs < 2 ^ 200) = true := by cases n <;> exact h
    have h := of_decide_eq_true h
    have l := log_small h
    simp only [D.py, PyData.showable, PyData.shown, D.sz]
    refine ⟨decide_eq_true (by omega), ?_⟩
    have := int_text_length_le (a := i) (k := 200) (by decide) l
    rw [PySem.ofString_length]
    omega
  | n, .str x, h => by
    have h : PyData.strOk x = true := by cases n <;> exact h
    simp only [D.py, PyData.showable, PyData.shown, D.sz, true_and]
    refine StrLaws.reprText_len x fun c hc => ?_
    have := (Array.all_eq_true_iff_forall_mem.mp h) c (by simpa using hc)
    have := of_decide_eq_true this
    omega
  | 0, .tup ds, h => by cases h
  | 0, .lst ds, h => by cases h
  | 0, .rol ds, h => by cases h
  | n + 1, .tup ds, h => by
    obtain ⟨a, b⟩ := shows (D.rp_py n) ds h
    simp only [D.py, PyData.showable, PyData.shown, D.sz]
    have := tupleText_len_le (PyData.shownAll (D.pys ds))
    rw [pys_len] at this
    exact ⟨a, by omega⟩
  | n + 1, .lst ds, h => by
    obtain ⟨a, b⟩ := shows (D.rp_py n) ds h
    simp only [D.py, PyData.showable, PyData.shown, D.sz]
    have := listText_len_le (PyData.shownAll (D.pys ds))
    rw [pys_len] at this
    exact ⟨a, by omega⟩
  | n + 1, .rol ds, h => by
    obtain ⟨a, b⟩ := shows (D.rp_py n) ds h
    simp only [D.py, PyData.showable, PyData.shown, D.sz]
    have := listText_len_le (PyData.shownAll (D.pys ds))
    rw [pys_len] at this
    exact ⟨a, by omega⟩
  | 0, .ins _ _, h => by cases h
  | 0, .ty _, h => by cases h
  | 0, .cls _, h => by cases h
  | _ + 1, .ins _ _, h => by cases h
  | _ + 1, .ty _, h => by cases h
  | _ + 1, .cls _, h => by cases h
/-- the text that repr gives -/
def D.rpr (d : D) : Str := d.py.shown
def gRepr : List D → (T → Prop) → Prop
  | [x], k => (D.rp 60 x = true ∧ D.sz x ≤ sizeLine) ∧ k (.fz (.str (D.rpr x)))
  | _, _ => False
def rRepr (K : PySem.W.Frag) : List V → Hp → VK → Prop := fun vs H Q => ∃ v d, vs = [v] ∧ Dp K H v d ∧ d.canLay0 = true ∧ d.depth ≤ 60 ∧ d.showable = true ∧ d.shown.length ≤ sizeLine ∧ Q (.str d.shown) H
theorem cr_repr {X : Cx} (g : NoG X.A) (hu : X.A.units + 64 < cLine) : CallR X (.builtin "repr") (rRepr X.K) := by
  intro pins s σ H xs us Q I r h
  obtain ⟨v, d, rfl, hd, hl, hdp, hs, hz, q⟩ := h
  obtain ⟨u, rfl, rx⟩ := vals1 r
  obtain ⟨as, rd⟩ := hd.reads I _ _ _ rx
  cases rd with
  | none => exact P.repr_of_none ⟨.str _, H, I.tok _, ⟨_, by simp only [PyData.shown]; rfl⟩, q⟩
  | bool b => exact P.repr_of_bool ⟨.str _, H, I.tok _, ⟨_, by simp only [PyData.shown]; cases b <;> rfl⟩, q⟩
  | int i t => exact P.repr_of_int (of_decide_eq_true (by simpa only [PyData.showable] using hs)) ⟨.str _, H, I.tok _, ⟨_, by simp only [PyData.shown]; rfl⟩, q⟩
  | str x t => exact P.repr_of_str ⟨.str _, H, I.tok _, ⟨_, by simp only [PyData.shown]; rfl⟩, q⟩ (by simpa only [PyData.shown] using hz)
  | list h1 h2 h3 h4 => exact repr_of_reads' (.list h1 h2 h3 h4) hs (PyData.noDict_hsm (PyData.hasDict_of_canLay _ hl)) g (by omega) (fun _ _ e => e) (fun h' u tk kp => ⟨.str _, H, I.kept (t' := tk) kp, ⟨_, rfl⟩, q⟩) hz
  | tuple h1 h2 h3 h4 => exact repr_of_reads' (.tuple h1 h2 h3 h4) hs (PyData.noDict_hsm (PyData.hasDict_of_canLay _ hl)) g (by omega) (fun _ _ e => e) (fun h' u tk kp => ⟨.str _, H, I.kept (t' := tk) kp, ⟨_, rfl⟩, q⟩) hz
  | dict h1 h2 h3 h4 h5 => cases hl
theorem opn_repr {K : PySem.W.Frag} : OpN K (rRepr K) gRepr := ⟨fun F H vs ds P Q s hv h hq => by
  match ds, hv, h with
  | [], _, h => exact h.elim
  | _ :: _ :: _, _, h => exact h.elim
  | [d], hv, h =>
    obtain ⟨v, rfl, kv⟩ := hv.one
    obtain ⟨⟨h1, h2⟩, h3⟩ := h
    obtain ⟨a, b⟩ := D.ok_py 60 d (D.rp_ok 60 d h1)
    obtain ⟨c, e⟩ := D.rp_py 60 d h1
    exact ⟨v, d.py, rfl, kv.dp s (D.rp_ok 60 d h1), a, b, c, by omega, hq _ _ F H Rg0 h3 (.refl s) (.fz (.str _))⟩⟩
end Zl

namespace Zl
open PySem PySem.Spec PyProof.Rows L2

/-! ### what the printer names -/
def wQ (m : WQ) : WE := fun env P => m env fun d => P (.fz d) env
section
variable {X : Cx} {pm : List Bool} {e : Expr} {w : WQ} {o : WO}
theorem ze_vq (h : ZV X pm e w) : ZE X pm e (wQ w) := ze_v h
theorem pz_none : PO X none (TPz X pm none) := po_none
theorem pz_some (h : ZO X pm e o) : PO X (some e) (TPz X pm (some o)) := po_some h
theorem zgn_nil : ∀ ds env P, zgNil ds env P → ds.length = 0 := fun _ _ _ h => zgNil_len h
theorem zgn_len {gs : WGs} {i n : Nat} (h : ∀ ds env P, gs ds env P → ds.length = n) : ∀ ds env P, zgCons (zgName i) gs ds env P → ds.length = n + 1 := fun _ _ _ q => zgCons_len (g := zgName i) h (fun _ _ _ _ g k => k _ g) (fun _ _ _ g => g) q
end

/-! ### callees -/
structure Cal (P : Program) (w : World) (K : PySem.W.Frag) (mg : Str → Option Value) (base : Heap) (x : Str) (k : Nat) (ps : List Str) (sp : DSp) : Prop where
  ex : ∃ f fd, FnG P w K mg base k f fd ps (spOf K sp) ∧ mg x = some (.ref f) ∧ PySem.W.keepIn K (.ref f) = true ∧ Binds K fd ps []
structure CalM (P : Program) (w : World) (K : PySem.W.Frag) (mg : Str → Option Value) (base : Heap) (x : Str) (c : Cd) (k : Nat) (ps : List Str) (sp : DSp) : Prop where
  ex : ∃ f fd, FnG P w K mg base k f fd ps (spOf K sp) ∧ mg x = some (.ref c.C) ∧ Mk K c.C f ∧ Binds K fd ps []
structure CalT (P : Program) (w : World) (K : PySem.W.Frag) (mg : Str → Option Value) (base : Heap) (m : Str) (c : Cd) (k : Nat) (ps : List Str) (sp : DSp) : Prop where
  ex : ∃ f fd, FnG P w K mg base k f fd ps (spOf K sp) ∧ Meth K c.C m f ∧ m ∉ c.ns ∧ Binds K fd ps []
section
variable {X : Cx} {pm : List Bool} {k : Nat} {ps : List Str} {sp : DSp} {x m : Str} {p pos apos : Pos} {o e : Expr} {es : List Expr} {wo : WO} {wa : WA} {c : Cd}
theorem ze_callC (h : Cal X.prog X.w X.K X.mg X.base x k ps sp) (g : NoG X.A) (hr : Room k X.A) (hg : Gl X x) (ha : ZA X pm (e :: es) wa) (hdb : (x == ("__debug__" : Str)) = false := by decide) (he : starEach (e :: es) X.env = (false, eval e X.env) :: starEach es X.env := by rfl) (hpl : (backTo pos (starEach es X.env)).any (·.1) = false := by rfl) :
    ZE X pm (.Call (.Name x p) (e :: es) [] pos) (wCall sp [] wa) := by
  obtain ⟨f, fd, Fn, hm, hk, hb⟩ := h.ex
  exact pe_imp (pe_callG Fn g hr hg hm hk hb .nil ha hdb he hpl) fun σ H Q h => ta_call (dvs := []) (fun _ => .nil) h
theorem ze_callC0 (h : Cal X.prog X.w X.K X.mg X.base x k ps sp) (g : NoG X.A) (hr : Room k X.A) (hg : Gl X x) (hdb : (x == ("__debug__" : Str)) = false := by decide) :
    ZE X pm (.Call (.Name x p) [] [] pos) (wCall sp [] aNil) := by
  obtain ⟨f, fd, Fn, hm, hk, hb⟩ := h.ex
  refine pe_imp (pe_call0G Fn g hr hg hm hk hb .nil hdb) fun σ H Q h => ?_
  obtain ⟨pv, F, B, env, P, m, rel, hw, hq⟩ := ta_call (E := E0) (dvs := []) (fun _ => .nil) h
  exact hq _ _ hw F H B [] .refl rel .nil
theorem ze_makeC (h : CalM X.prog X.w X.K X.mg X.base x c k ps sp) (g : NoG X.A) (hr : Room (k + 1) X.A) (hg : Gl X x) (ha : ZA X pm (e :: es) wa) (hdb : (x == ("__debug__" : Str)) = false := by decide) (he : starEach (e :: es) X.env = (false, eval e X.env) :: starEach es X.env := by rfl) (hpl : (backTo pos (starEach es X.env)).any (·.1) = false := by rfl) :
    ZE X pm (.Call (.Name x p) (e :: es) [] pos) (wMake c sp [] wa) := by
  obtain ⟨f, fd, Fn, hm, M, hb⟩ := h.ex
  exact pe_imp (pe_makeG M Fn g hr hg hm hb .nil ha hdb he hpl) fun σ H Q h => tm_make (dvs := []) (fun _ => .nil) h
theorem ze_makeC0 (h : CalM X.prog X.w X.K X.mg X.base x c k ps sp) (g : NoG X.A) (hr : Room (k + 1) X.A) (hg : Gl X x) (hdb : (x == ("__debug__" : Str)) = false := by decide) :
    ZE X pm (.Call (.Name x p) [] [] pos) (wMake c sp [] aNil) := by
  obtain ⟨f, fd, Fn, hm, M, hb⟩ := h.ex
  refine pe_imp (pe_make0G M Fn g hr hg hm hb .nil hdb) fun σ H Q h => ?_
  obtain ⟨pv, F, B, env, P, mk, rel, hw, hq⟩ := tm_make (E := E0) (dvs := []) (fun _ => .nil) h
  exact hq _ _ hw F H B [] .refl rel .nil
theorem ze_methC {pl : Sem Bool} (h : CalT X.prog X.w X.K X.mg X.base m c k ps sp) (g : NoG X.A) (hr : Room k X.A) (hc : ClsOk X.K c) (he : ZO X pm o wo) (ha : ZA X pm (e :: es) wa)
    (hst : starEach (e :: es) X.env = (false, eval e X.env) :: starEach es X.env := by rfl) (hpl : (backTo pos (starEach es X.env)).any (·.1) = false := by rfl)
    (ht : eval (.Call (.Attribute o m apos) (e :: es) [] pos) X.env = (do
      let ov ← eval o X.env
      standAt apos.atName
      let (f, first) ← holding [ov] (getMethod ov m pl)
      callWith pos f first (backTo pos (starEach (e :: es) X.env)) (backToKw pos (keywordEach [] X.env))) := by rfl) :
    ZE X pm (.Call (.Attribute o m apos) (e :: es) [] pos) (wMeth c sp [] wo wa) := by
  obtain ⟨f, fd, Fn, me, hn, hb⟩ := h.ex
  exact pe_imp (pe_methG he hc.cls me Fn g hr hb .nil ha hst hpl ht) fun σ H Q h => tm_meth (dvs := []) (fun _ => .nil) hn h
theorem ze_methC0 {pl : Sem Bool} (h : CalT X.prog X.w X.K X.mg X.base m c k ps sp) (g : NoG X.A) (hr : Room k X.A) (hc : ClsOk X.K c) (he : ZO X pm o wo)
    (ht : eval (.Call (.Attribute o m apos) [] [] pos) X.env = (do
      let ov ← eval o X.env
      standAt apos.atName
      let (f, first) ← holding [ov] (getMethod ov m pl)
      callWith pos f first (backTo pos (starEach [] X.env)) (backToKw pos (keywordEach [] X.env))) := by rfl) :
    ZE X pm (.Call (.Attribute o m apos) [] [] pos) (wMeth c sp [] wo aNil) := by
  obtain ⟨f, fd, Fn, me, hn, hb⟩ := h.ex
  refine pe_imp (pe_meth0G he hc.cls me Fn g hr hb .nil ht) fun σ H Q h => ?_
  obtain ⟨pv, F, B, env, P, mk, rel, hw, hq⟩ := tm_meth (E := E0) (dvs := []) (fun _ => .nil) hn h
  exact ⟨pv, F, B, env, P, mk, rel, hw, fun s e0 h0 F1 H1 B1 v s1 r1 i1 => by
    obtain ⟨a, dx, fs, ev, hh, hl, pv', F', B', env', P', mk', rel', hw', hq'⟩ := hq s e0 h0 F1 H1 B1 v s1 r1 i1
    exact ⟨a, dx, fs, ev, hh, hl, hq' _ _ hw' F' H1 B' [] .refl rel' .nil⟩⟩
end

/-! ### more operators -/
def gAddI : D → D → (T → Prop) → Prop
  | .int i, .int j, k => k (.fz (.int (i + j)))
  | _, _, _ => False
def gAddA : D → D → (T → Prop) → Prop
  | .int i, .int j, k => k (.fz (.int (i + j)))
  | .str x, .str y, k => x.length + y.length ≤ sizeLine ∧ k (.fz (.str (x ++ y)))
  | _, _, _ => False
def gMulI : D → D → (T → Prop) → Prop
  | .int i, .int j, k => CMul i j ∧ k (.fz (.int (i * j)))
  | _, _, _ => False
section
variable {X : Cx} {K : PySem.W.Frag}
theorem op2_inadd : Op2 K rAdd gAddI := ⟨fun F H v u x y P Q s hv hu h hq => by
  cases x <;> cases y <;> first
    | exact h.elim
    | exact ⟨_, _, hv.int, hu.int, hq _ _ F H Rg0 h (.refl s) (.fz (.int _))⟩⟩
theorem op2_insub : Op2 K rSub gSub := ⟨fun F H v u x y P Q s hv hu h hq => by
  cases x <;> cases y <;> first
    | exact h.elim
    | exact ⟨_, _, hv.int, hu.int, hq _ _ F H Rg0 h (.refl s) (.fz (.int _))⟩⟩
theorem ip_addZ : PIp X .Add (fun x y H Q => rI0 (fun i j => V.int (i + j)) x y H Q ∨ ∃ i j, x = .str i ∧ y = .str j ∧ i.length + j.length ≤ sizeLine ∧ Q (.str (i ++ j)) H) := ip_of (iop_add.or iop_add_str)
theorem op2_ipadd : Op2 K (fun x y H Q => rI0 (fun i j => V.int (i + j)) x y H Q ∨ ∃ i j, x = .str i ∧ y = .str j ∧ i.length + j.length ≤ sizeLine ∧ Q (.str (i ++ j)) H) gAddA := ⟨fun F H v u x y P Q s hv hu h hq => by
  cases x <;> cases y <;> first
    | exact h.elim
    | exact .inl ⟨_, _, hv.int, hu.int, hq _ _ F H Rg0 h (.refl s) (.fz (.int _))⟩
    | exact .inr ⟨_, _, hv.str, hu.str, h.1, hq _ _ F H Rg0 h.2 (.refl s) (.fz (.str _))⟩⟩
theorem ip_subZ : PIp X .Sub (rI0 fun i j => V.int (i - j)) := ip_of iop_sub
theorem ip_mulZ : PIp X .Mult (rI CMul fun i j => V.int (i * j)) := ip_of iop_mul
theorem op2_ipmul : Op2 K (rI CMul fun i j => V.int (i * j)) gMulI := ⟨fun F H v u x y P Q s hv hu h hq => by
  cases x <;> cases y <;> first
    | exact h.elim
    | exact ⟨_, _, hv.int, hu.int, h.1, hq _ _ F H Rg0 h.2 (.refl s) (.fz (.int _))⟩⟩
end

/-! ### pop(i), insert -/
def mPopAll (ds es : List D) (k : D → List D → Prop) : Prop := match es with
  | [] => match ds.getLast? with
    | some d => k d ds.dropLast
    | none => False
  | [.int i] => (-(2 ^ 63) ≤ i ∧ i < 2 ^ 63) ∧ match seqIndex? i ds.length with
    | some n => match ds[n]? with
      | some d => k d (ds.eraseIdx n)
      | none => False
    | none => False
  | _ => False
def mInsert (ds es : List D) (k : D → List D → Prop) : Prop := match es with
  | [.int i, d] => (ds.length < sizeLine ∧ 0 ≤ i ∧ i < 2 ^ 63) ∧ k .non (ds.take i.toNat ++ [d] ++ ds.drop i.toNat)
  | _ => False
section
variable {X : Cx} {K : PySem.W.Frag}
theorem mt_popAll : MtR X "list.pop" (fun x vs H Q => rPop x vs H Q ∨ rPopAt x vs H Q) := MtR.or mt_pop mt_popAt
theorem mut_popAll : MutL K (fun x vs H Q => rPop x vs H Q ∨ rPopAt x vs H Q) mPopAll := ⟨fun F H a vs ds as es P Q s ha hd he h hq => by
  match es, he, h with
  | [], .nil, h => exact .inl (mut_pop.run F H a vs ds [] [] P Q s ha hd .nil h hq)
  | [.int i], .cons (.int _) .nil, h =>
    obtain ⟨⟨h1, h2⟩, h⟩ := h
    cases q : seqIndex? i ds.length with
    | none => simp only [q] at h
    | some n =>
      simp only [q] at h
      cases e : ds[n]? with
      | none => simp only [e] at h
      | some d =>
        simp only [e] at h
        obtain ⟨v, e1, e2⟩ := hd.get e
        exact .inr ⟨a, vs, i, n, v, rfl, rfl, ha, h1, h2, by rw [hd.length]; exact q, e1, hq _ _ _ _ h e2 (hd.eraseIdx n)⟩
  | [.non], _, h => exact h.elim
  | [.bl _], _, h => exact h.elim
  | [.str _], _, h => exact h.elim
  | [.tup _], _, h => exact h.elim
  | [.lst _], _, h => exact h.elim
  | [.rol _], _, h => exact h.elim
  | [.ins _ _], _, h => exact h.elim
  | [.ty _], _, h => exact h.elim
  | [.cls _], _, h => exact h.elim
  | x :: _ :: _, _, h => exact absurd h (by cases x <;> exact fun z => z)⟩
theorem mut_insert : MutL K (fun x vs H Q => ∃ (l : Addr) (xs : List V) (i : Int) (y : V), x = .ref l ∧ vs = [.int i, y] ∧ H l = some (.lst xs) ∧ xs.length < sizeLine ∧ 0 ≤ i ∧ i < 2 ^ 63 ∧
    Q .non (upd H l (.lst (xs.take i.toNat ++ [y] ++ xs.drop i.toNat)))) mInsert := ⟨fun F H a vs ds as es P Q s ha hd he h hq => by
  match es, he, h with
  | [.int i, d], .cons (.int _) (.cons hd' .nil), h =>
    exact ⟨a, vs, i, _, rfl, rfl, ha, by rw [hd.length]; exact h.1.1, h.1.2.1, h.1.2.2, hq _ _ _ _ h.2 .non (((hd.take _).append (.cons hd' .nil)).append (hd.drop _))⟩
  | [], _, h => exact h.elim
  | [x], _, h => exact absurd h (by cases x <;> exact fun z => z)
  | x :: _ :: _ :: _, _, h => exact absurd h (by cases x <;> exact fun z => z)
  | [.non, _], _, h => exact h.elim
  | [.bl _, _], _, h => exact h.elim
  | [.str _, _], _, h => exact h.elim
  | [.tup _, _], _, h => exact h.elim
  | [.lst _, _], _, h => exact h.elim
  | [.rol _, _], _, h => exact h.elim
  | [.ins _ _, _], _, h => exact h.elim
  | [.ty _, _], _, h => exact h.elim
  | [.cls _, _], _, h => exact h.elim⟩
end

/-! ### abs, sum, tuple, str -/
def gAbs : List D → (T → Prop) → Prop
  | [.int i], k => k (.fz (.int (if i < 0 then -i else i)))
  | _, _ => False
section
variable {X : Cx} {K : PySem.W.Frag}
theorem opn_abs : OpN K (fun xs H Q => ∃ i, xs = [.int i] ∧ Q (.int (if i < 0 then -i else i)) H) gAbs := ⟨fun F H vs ds P Q s hv h hq => by
  match ds, hv, h with
  | [], _, h => exact h.elim
  | _ :: _ :: _, _, h => (first | exact h.elim | (rename_i d _ _ _; cases d <;> exact h.elim))
  | [d], hv, h =>
    obtain ⟨v, rfl, kv⟩ := hv.one
    cases d <;> first
      | exact h.elim
      | exact ⟨_, by rw [kv.int], hq _ _ F H Rg0 h (.refl s) (.fz (.int _))⟩⟩
end
/-- the items of a list or tuple -/
def seqD : D → Option (List D)
  | .lst ds => some ds
  | .rol ds => some ds
  | .tup ds => some ds
  | _ => none
theorem seq_of {K : PySem.W.Frag} {F H : Hp} {v : V} {d : D} {ds : List D} (s : Same F H) (h : Pk K F H v d) (e : seqD d = some ds) : ∃ a vs, v = .ref a ∧ (SqL K H a vs ∨ SqT K H a vs) ∧ IsDs K F vs ds := by
  cases d <;> cases e
  · obtain ⟨a, vs, e, h1, h2⟩ := h.tup1 s; exact ⟨a, vs, e, .inr h1, h2⟩
  · obtain ⟨a, vs, e, h1, h2⟩ := h.lst1 s; exact ⟨a, vs, e, .inl (SqL.of h1), h2⟩
  · obtain ⟨a, vs, e, h1, h2⟩ := h.rol1 s; exact ⟨a, vs, e, .inl h1, h2⟩
def gTuple : List D → (T → Prop) → Prop
  | [.lst xs], k => k (.fz (.tup xs))
  | [.tup xs], k => k (.fz (.tup xs))
  | [.rol xs], k => k (.fz (.tup xs))
  | _, _ => False
section
variable {X : Cx} {K : PySem.W.Frag}
theorem cr_tuple : CallR X (.type "tuple") (fun xs H Q => ∃ p ys, xs = [.ref p] ∧ ((SqL X.K H p ys ∧ ∀ l, H l = none → Q (.ref l) (upd H l (.tup ys))) ∨ (SqT X.K H p ys ∧ Q (.ref p) H))) := call_tuple_of
theorem opn_tuple : OpN K (fun xs H Q => ∃ p ys, xs = [V.ref p] ∧ ((SqL K H p ys ∧ ∀ l, H l = none → Q (.ref l) (upd H l (.tup ys))) ∨ (SqT K H p ys ∧ Q (.ref p) H))) gTuple := ⟨fun F H vs ds P Q s hv h hq => by
  match ds, hv, h with
  | [], _, h => exact h.elim
  | _ :: _ :: _, _, h => (first | exact h.elim | (rename_i d _ _ _; cases d <;> exact h.elim))
  | [d], hv, h =>
    obtain ⟨v, rfl, kv⟩ := hv.one
    have mk : ∀ {a : Addr} {us : List V} {xs : List D}, SqL K H a us → IsDs K F us xs → P (.fz (.tup xs)) → ∃ p ys, [V.ref a] = [V.ref p] ∧ ((SqL K H p ys ∧ ∀ l, H l = none → Q (.ref l) (upd H l (.tup ys))) ∨ (SqT K H p ys ∧ Q (.ref p) H)) := fun {a us xs} h1 d1 h =>
      ⟨a, us, rfl, .inl ⟨h1, fun p hp => by
        have al := Alloc.frz (o := .tup us) s hp
        exact hq _ _ _ _ Rg0 h al (.fz (.tup (.of upd_same) (d1.mono al.le)))⟩⟩
    cases d <;> first
      | exact h.elim
      | skip
    · obtain ⟨a, us, e, h1, d1⟩ := kv.tup1 s
      refine ⟨a, us, by rw [e], .inr ⟨h1, ?_⟩⟩
      exact hq _ _ F H Rg0 h (.refl s) (.fz (by rw [← e]; exact match kv with | .d q => q))
    · obtain ⟨a, us, rfl, h1, d1⟩ := kv.lst1 s
      exact mk (SqL.of h1) d1 h
    · obtain ⟨a, us, rfl, h1, d1⟩ := kv.rol1 s
      exact mk h1 d1 h⟩
end
def intsD : List D → Option (List Int)
  | [] => some []
  | .int i :: r => match intsD r with
    | some is => some (i :: is)
    | none => none
  | _ :: _ => none
theorem intsD_of : ∀ {ds : List D} {ns : List Int}, intsD ds = some ns → ds = ns.map D.int
  | [], ns, h => by cases h; rfl
  | d :: r, ns, h => by
    cases d <;> first
      | (cases h; done)
      | skip
    rename_i i
    have h : (match intsD r with | some is => some (i :: is) | none => none) = some ns := h
    cases q : intsD r with
    | none => rw [q] at h; cases h
    | some is => rw [q] at h; cases h; rw [List.map_cons, intsD_of q]
theorem intsD_map (ns : List Int) : intsD (ns.map D.int) = some ns := by
  induction ns with
  | nil => rfl
  | cons i r ih => show (match intsD (r.map D.int) with | some is => some (i :: is) | none => none) = _; rw [ih]
def gSum : List D → (T → Prop) → Prop
  | [.lst xs], k => match intsD xs with
    | some ns => k (.fz (.int ns.sum))
    | none => False
  | [.rol xs], k => match intsD xs with
    | some ns => k (.fz (.int ns.sum))
    | none => False
  | _, _ => False
section
variable {X : Cx} {K : PySem.W.Frag}
theorem opn_sum : OpN K (rSum K) gSum := ⟨fun F H vs ds P Q s hv h hq => by
  match ds, hv, h with
  | [], _, h => exact h.elim
  | _ :: _ :: _, _, h => (first | exact h.elim | (rename_i d _ _ _; cases d <;> exact h.elim))
  | [d], hv, h =>
    obtain ⟨v, rfl, kv⟩ := hv.one
    cases d <;> first
      | exact h.elim
      | skip
    · rename_i xs
      have h : (match intsD xs with | some ns => P (.fz (.int ns.sum)) | none => False) := h
      cases q : intsD xs with
      | none => rw [q] at h; exact h.elim
      | some ns =>
        rw [q] at h
        obtain ⟨a, us, rfl, h1, d1⟩ := kv.lst1 s
        rw [intsD_of q] at d1
        exact ⟨a, ns, rfl, by rw [← d1.ints]; exact SqL.of h1, hq _ _ F H Rg0 h (.refl s) (.fz (.int _))⟩
    · rename_i xs
      have h : (match intsD xs with | some ns => P (.fz (.int ns.sum)) | none => False) := h
      cases q : intsD xs with
      | none => rw [q] at h; exact h.elim
      | some ns =>
        rw [q] at h
        obtain ⟨a, us, rfl, h1, d1⟩ := kv.rol1 s
        rw [intsD_of q] at d1
        exact ⟨a, ns, rfl, by rw [← d1.ints]; exact h1, hq _ _ F H Rg0 h (.refl s) (.fz (.int _))⟩⟩
end
end Zl

namespace Zl
open PySem PySem.Spec PyProof.Rows L2

/-! ### rules for the plain part -/
theorem wSeq_cut {a b : WS} {E : DE} {env : Ev} (Mid : Ev → Prop) (h1 : ∀ K : Ev → Prop, (∀ e, Mid e → K e) → a { E with nx := K } env) (h2 : ∀ e, Mid e → b E e) : wSeq a b E env := h1 _ h2
theorem wForL_inv {g : WG} {wb : WS} {chk : Ev → Prop} {E : DE} (I : Nat → Ev → Prop) : ∀ {items : List D} {n : Nat} {env : Ev}, I n env →
    (∀ i e, n ≤ i → I i e → chk e) →
    (∀ (i : Nat) d e, items[i]? = some d → I (n + i) e → ∀ K : Ev → Prop, (∀ e', I (n + i + 1) e' → K e') → g d e fun e1 => wb { nx := K, rt := E.rt, bk := E.nx, ct := K } e1) →
    (∀ e, I (n + items.length) e → E.nx e) → wForL g wb chk items E env
  | [], n, env, h0, hc, hs, he => ⟨hc n env (Nat.le_refl _) h0, he env h0⟩
  | d :: ds, n, env, h0, hc, hs, he => ⟨hc n env (Nat.le_refl _) h0, hs 0 d env rfl h0 _ fun e' h' => wForL_inv (n := n + 1) I h' (fun i e hi => hc i e (by omega))
      (fun i d' e hd hi K hk => hs (i + 1) d' e (by simpa using hd) (by rw [show n + (i + 1) = n + 1 + i by omega]; exact hi) K (by rw [show n + (i + 1) + 1 = n + 1 + i + 1 by omega]; exact hk))
      (fun e h => he e (by rw [List.length_cons, show n + (ds.length + 1) = n + 1 + ds.length by omega]; exact h))⟩
/-- THE RULE for a for loop -/
theorem for_inv {g : WG} {wb : WS} {chk : Ev → Prop} {E : DE} {items : List D} {env : Ev} (I : Nat → Ev → Prop) (h0 : I 0 env) (hc : ∀ i e, I i e → chk e)
    (hs : ∀ (i : Nat) d e, items[i]? = some d → I i e → ∀ K : Ev → Prop, (∀ e', I (i + 1) e' → K e') → g d e fun e1 => wb { nx := K, rt := E.rt, bk := E.nx, ct := K } e1)
    (he : ∀ e, I items.length e → E.nx e) : wForL g wb chk items E env :=
  wForL_inv (n := 0) I h0 (fun i e _ => hc i e) (fun i d e hd hi K hk => hs i d e hd (by rwa [Nat.zero_add] at hi) K (by rwa [Nat.zero_add] at hk)) (fun e h => he e (by rwa [Nat.zero_add] at h))
theorem while_inv {c : WT} {wb : WS} {E : DE} {env : Ev} (I : Nat → Ev → Prop) (n : Nat) (h0 : I n env)
    (hs : ∀ (n : Nat) e, I n e → ∀ K : Ev → Prop, (∀ m e', m < n → I m e' → K e') → c e fun k e1 => (k = true → wb { nx := K, rt := E.rt, bk := E.nx, ct := K } e1) ∧ (k = false → E.nx e1)) : wWhile c wb E env := by
  have mono : ∀ n m, n ≤ m → ∀ e, wWh c wb n E e → wWh c wb n E e := fun _ _ _ _ h => h
  refine ⟨n + 1, ?_⟩
  suffices h : ∀ b n e, n < b → I n e → wWh c wb b E e from h (n + 1) n env (Nat.lt_succ_self _) h0
  intro b
  induction b with
  | zero => intro n e h; omega
  | succ b ih => intro n e hb hi; exact hs n e hi _ fun m e' hm h' => ih m e' (by omega) h'
/-- a list comprehension -/
theorem lc_inv {g : WG} {wt : WT} {we : WE} {own : List Nat} {chk : Ev → Prop} {k : List D → Ev → Prop} (I : Nat → List D → Ev → Prop) : ∀ {items : List D} {n : Nat} {acc : List D} {env : Ev}, I n acc env →
    (∀ i a e, n ≤ i → I i a e → chk e) →
    (∀ (i : Nat) d a e, items[i]? = some d → I (n + i) a e → ∀ K : List D → Ev → Prop, (∀ a' e', I (n + i + 1) a' e' → K a' e') → g d e fun e1 => wt e1 fun b e2 => (b = true → we e2 fun t e3 => a.length < sizeLine ∧ K (a ++ [t.fr]) (clsE e3 own)) ∧ (b = false → K a (clsE e2 own))) →
    (∀ a e, I (n + items.length) a e → k a e) → wLcL g wt we own chk items acc k env
  | [], n, acc, env, h0, hc, hs, he => ⟨hc n acc env (Nat.le_refl _) h0, he acc env h0⟩
  | d :: ds, n, acc, env, h0, hc, hs, he => ⟨hc n acc env (Nat.le_refl _) h0, hs 0 d acc env rfl h0 (fun a e => wLcL g wt we own chk ds a k e) fun a' e' h' => lc_inv (n := n + 1) I h' (fun i a e hi => hc i a e (by omega))
      (fun i d' a e hd hi K hk => hs (i + 1) d' a e (by simpa using hd) (by rw [show n + (i + 1) = n + 1 + i by omega]; exact hi) K (by rw [show n + (i + 1) + 1 = n + 1 + i + 1 by omega]; exact hk))
      (fun a e h => he a e (by rw [List.length_cons, show n + (ds.length + 1) = n + 1 + ds.length by omega]; exact h))⟩
theorem lc_inv0 {g : WG} {wt : WT} {we : WE} {own : List Nat} {chk : Ev → Prop} {k : List D → Ev → Prop} {items : List D} {env : Ev} (I : Nat → List D → Ev → Prop) (h0 : I 0 [] env) (hc : ∀ i a e, I i a e → chk e)
    (hs : ∀ (i : Nat) d a e, items[i]? = some d → I i a e → ∀ K : List D → Ev → Prop, (∀ a' e', I (i + 1) a' e' → K a' e') → g d e fun e1 => wt e1 fun b e2 => (b = true → we e2 fun t e3 => a.length < sizeLine ∧ K (a ++ [t.fr]) (clsE e3 own)) ∧ (b = false → K a (clsE e2 own)))
    (he : ∀ a e, I items.length a e → k a e) : wLcL g wt we own chk items [] k env :=
  lc_inv (n := 0) I h0 (fun i a e _ => hc i a e) (fun i d a e hd hi K hk => hs i d a e hd (by rwa [Nat.zero_add] at hi) K (by rwa [Nat.zero_add] at hk)) (fun a e h => he a e (by rwa [Nat.zero_add] at h))

theorem noF {P : Prop} (h : true = false) : P := Bool.noConfusion h
theorem noT {P : Prop} (h : false = true) : P := Bool.noConfusion h
theorem le_b {a b : Nat} (h : Nat.ble a b = true) : a ≤ b := Nat.le_of_ble_eq_true h
theorem cmR {i j : Int} (h : decide (-(2 ^ 64) < j ∧ j < 2 ^ 64) = true) : CMul i j := .inr (of_decide_eq_true h)
theorem cmL {i j : Int} (h : decide (-(2 ^ 64) < i ∧ i < 2 ^ 64) = true) : CMul i j := .inl (of_decide_eq_true h)
/-- all of them ints -/
def AllI (ds : List D) : Prop := ∃ rs : List Int, ds = rs.map D.int
theorem AllI.nil : AllI [] := ⟨[], rfl⟩
theorem AllI.of (rs : List Int) : AllI (rs.map D.int) := ⟨rs, rfl⟩
theorem AllI.add {ds : List D} {x : Int} : AllI ds → AllI (ds ++ [D.int x])
  | ⟨rs, h⟩ => ⟨rs ++ [x], by rw [h, List.map_append]; rfl⟩
theorem len_add {α : Type} {xs : List α} {x : α} {n : Nat} (h : xs.length ≤ n) : (xs ++ [x]).length ≤ n + 1 := by rw [List.length_append, List.length_singleton]; omega
theorem len_addE {α : Type} {xs : List α} {x : α} {n : Nat} (h : xs.length = n) : (xs ++ [x]).length = n + 1 := by rw [List.length_append, List.length_singleton]; omega
theorem szl {n : Nat} (h : n ≤ 10000) : n < sizeLine := Nat.lt_of_le_of_lt h (by decide)
mutual
theorem eqv_self : ∀ d : D, PyData.eqv d.py d.py = true
  | .non => by simp [D.py, PyData.eqv]
  | .bl _ => by simp [D.py, PyData.eqv]
  | .int _ => by simp [D.py, PyData.eqv]
  | .str _ => by simp [D.py, PyData.eqv]
  | .tup ds => by simp only [D.py, PyData.eqv]; exact eqv_selfs ds
  | .lst ds => by simp only [D.py, PyData.eqv]; exact eqv_selfs ds
  | .rol ds => by simp only [D.py, PyData.eqv]; exact eqv_selfs ds
  | .ins _ _ => by simp [D.py, PyData.eqv]
  | .ty _ => by simp [D.py, PyData.eqv]
  | .cls _ => by simp [D.py, PyData.eqv]
theorem eqv_selfs : ∀ ds : List D, PyData.eqvAll (D.pys ds) (D.pys ds) = true
  | [] => by simp [D.pys, PyData.eqvAll]
  | d :: ds => by simp only [D.pys, PyData.eqvAll, Bool.and_eq_true]; exact ⟨eqv_self d, eqv_selfs ds⟩
end
theorem eqb_self (d : D) : D.eqb d d = true := eqv_self d
theorem ok_ints {n : Nat} (rs : List Int) : (rs.map D.int).all (D.ok n) = true := by
  rw [List.all_eq_true]
  intro d hd
  obtain ⟨i, _, rfl⟩ := List.mem_map.mp hd
  cases n <;> rfl
theorem ok_lst {ds : List D} (h : ds.all (D.ok 59) = true) : D.ok 60 (.lst ds) = true := h
theorem cut_to (xs : List D) (k : Nat) : cutD xs none (some (k : Int)) = xs.take k := by
  unfold cutD
  rw [HT.sIx_nat, HT.sIx_none, List.drop_zero, Nat.sub_zero]
  by_cases h : k ≤ xs.length
  · rw [Nat.min_eq_left h]
  · rw [Nat.min_eq_right (by omega), List.take_length, List.take_of_length_le (by omega)]
theorem cut_from (xs : List D) (k : Nat) : cutD xs (some (k : Int)) none = xs.drop k := by
  unfold cutD
  rw [HT.sIx_nat, HT.sIx_none]
  by_cases h : k ≤ xs.length
  · rw [Nat.min_eq_left h, List.take_of_length_le (by simp)]
  · rw [Nat.min_eq_right (by omega), List.drop_length, List.drop_of_length_le (by omega), List.take_nil]
theorem noE {k : Bool} (h : (!k) = true) (e : k = true) {P : Prop} : P := by rw [e] at h; cases h
theorem ixN_nat {n j : Nat} (hj : j < n) : ixN n (j : Int) = some j := by
  unfold ixN
  rw [if_pos (by omega), if_pos (by omega), Int.toNat_natCast]
theorem gIx_l {xs : List D} {i : Int} {d : D} {k : T → Prop} (h : atI xs i = some d) (q : k (.fz d)) : gIx (.lst xs) (.int i) k := by
  show (match atI xs i with | some d => k (.fz d) | none => False)
  rw [h]; exact q
theorem gIx_r {xs : List D} {i : Int} {d : D} {k : T → Prop} (h : atI xs i = some d) (q : k (.fz d)) : gIx (.rol xs) (.int i) k := by
  show (match atI xs i with | some d => k (.fz d) | none => False)
  rw [h]; exact q
theorem gIx_t {xs : List D} {i : Int} {d : D} {k : T → Prop} (h : atI xs i = some d) (q : k (.fz d)) : gIx (.tup xs) (.int i) k := by
  show (match atI xs i with | some d => k (.fz d) | none => False)
  rw [h]; exact q
/-- a match on something known -/
theorem m_some {α : Type} {o : Option α} {x : α} {f : α → Prop} (h : o = some x) (q : f x) : (match (generalizing := false) o with | some y => f y | none => False) := by
  rw [h]; exact q
theorem eq_tt {k : Bool → Prop} {x y : D} (h : eqS x y = some true) (q : k true) : eqK x y k := by
  unfold eqK; rw [h]; exact q
theorem eq_ff {k : Bool → Prop} {x y : D} (h : eqS x y = some false) (q : k false) : eqK x y k := by
  unfold eqK; rw [h]; exact q
end Zl

namespace Zl
open PySem PySem.Spec PyProof.Rows L2
abbrev cRingPlay (a : Addr) : Cd := ⟨a, ["taken", "p", "q", "at", "slots"]⟩

/-! ### the ring played with the count first, in plain data -/
def sd (s : Bool) : D := .str (if s then "takes" else "puts")
def ply (a : Addr) (tk : List D) (p q at_ : Nat) (sl : List D) : T := .ins (cRingPlay a) [.lst tk, .fz (.int p), .fz (.int q), .fz (.int at_), .lst sl]
abbrev iL (ws : List Int) : List D := ws.map D.int
abbrev nL (bs : List Nat) : List D := bs.map fun b : Nat => D.int b
structure Pl where
  tk : List D
  p : Nat
  q : Nat
  at_ : Nat
  sl : List D
abbrev plS (a : Addr) (m : Pl) : T := ply a m.tk m.p m.q m.at_ m.sl
/-- word number k, slot of number k -/
def wd (ws : List Int) (k : Nat) : D := .int (ws.getD k 0)
def so (sl : List D) (k : Nat) : D := sl.getD (k % sl.length) .non
def pl0 (pl : Nat) : Pl := ⟨[], 0, 0, 0, List.replicate pl .non⟩
def hnd (s : Bool) (ws : List Int) (m : Pl) : Pl :=
  if s then (if m.p < m.q + m.sl.length ∧ m.p < ws.length then { m with p := m.p + 1, sl := m.sl.set (m.p % m.sl.length) (wd ws m.p) } else m)
  else if m.q < m.p then { m with q := m.q + 1, tk := m.tk ++ [so m.sl m.q] } else m
def rdy (s : Bool) (ws : List Int) (m : Pl) : Prop := if s then m.q < m.p else m.p < m.q + m.sl.length ∧ m.p < ws.length
instance (s : Bool) (ws : List Int) (m : Pl) : Decidable (rdy s ws m) := by unfold rdy; infer_instance
def word (s : Bool) (ws : List Int) (m : Pl) : Pl := if s then { m with tk := m.tk ++ [so m.sl (m.q - 1)] } else { m with sl := m.sl.set ((m.p - 1) % m.sl.length) (wd ws (m.p - 1)) }
def stp (s : Bool) (ws : List Int) (m : Pl) : Pl :=
  if m.at_ = 0 then { m with at_ := if rdy s ws m then 1 else 0 }
  else if m.at_ = 1 then (if s then { m with q := m.q + 1, at_ := 2 } else { m with p := m.p + 1, at_ := 2 })
  else { word s ws m with at_ := 0 }
def hnds (s : Bool) (ws : List Int) : Nat → Pl → Pl
  | 0, m => m
  | k + 1, m => hnds s ws k (hnd s ws m)
def runB (s : Bool) (pl : Nat) (ws : List Int) (bs : List Nat) : Pl := bs.foldl (fun m b => stp s ws (hnds s ws b m)) (pl0 pl)
/-- an int or None -/
def isW : D → Bool
  | .int _ => true
  | .non => true
  | _ => false
structure Good (s : Bool) (pl : Nat) (ws : List Int) (m : Pl) : Prop where
  sl : m.sl.length = pl
  slW : m.sl.all isW = true
  tkW : m.tk.all isW = true
  tkl : m.tk.length ≤ m.q
  qp : m.q ≤ m.p
  pn : m.p ≤ ws.length
  at_ : m.at_ ≤ 2
  rd1 : m.at_ = 1 → rdy s ws m
  rd2 : m.at_ = 2 → if s then m.tk.length + 1 ≤ m.q else 1 ≤ m.p
structure Fits (pl : Nat) (ws : List Int) : Prop where
  pos : 0 < pl
  few : pl ≤ 1000
  wfew : ws.length ≤ 1000
def duD (m : Pl) : List D := [.int m.p, .int m.q, .int m.at_, .lst m.tk, .lst m.sl]

abbrev sp_RingPlay_init (a : Addr) : DSp := fun ts P => ∃ n : Nat, ts = [.ins (cRingPlay a) [], .fz (.int n)] ∧ n ≤ 1000 ∧ P (.fz .non) [plS a (pl0 n), .fz (.int n)]
abbrev sp_may_put (a : Addr) : DSp := fun ts P => ∃ tk p q at_ sl ws, ts = [ply a tk p q at_ sl, .fz (.lst ws)] ∧ ∀ b : Bool, (b = true ↔ p < q + sl.length ∧ p < ws.length) → P (.fz (.bl b)) [ply a tk p q at_ sl, .fz (.lst ws)]
abbrev sp_may_take (a : Addr) : DSp := fun ts P => ∃ tk p q at_ sl, ts = [ply a tk p q at_ sl] ∧ ∀ b : Bool, (b = true ↔ q < p) → P (.fz (.bl b)) [ply a tk p q at_ sl]
abbrev sp_put_word (a : Addr) : DSp := fun ts P => ∃ tk p q at_ sl ws, ∃ n : Nat, ∃ w, ts = [ply a tk p q at_ sl, .fz (.int n), .fz (.lst ws)] ∧ 0 < sl.length ∧ ws[n]? = some w ∧ P (.fz .non) [ply a tk p q at_ (sl.set (n % sl.length) w), .fz (.int n), .fz (.lst ws)]
abbrev sp_take_word (a : Addr) : DSp := fun ts P => ∃ tk p q at_ sl, ∃ n : Nat, ∃ w, ts = [ply a tk p q at_ sl, .fz (.int n)] ∧ 0 < sl.length ∧ sl[n % sl.length]? = some w ∧ tk.length < sizeLine ∧ P (.fz .non) [ply a (tk ++ [w]) p q at_ sl, .fz (.int n)]
abbrev sp_handler_block (a : Addr) : DSp := fun ts P => ∃ s pl ws m, ts = [plS a m, .fz (sd s), .fz (.lst (iL ws))] ∧ Fits pl ws ∧ Good s pl ws m ∧ P (.fz .non) [plS a (hnd s ws m), .fz (sd s), .fz (.lst (iL ws))]
abbrev sp_word_step (a : Addr) : DSp := fun ts P => ∃ s pl ws m, ts = [plS a m, .fz (sd s), .fz (.str "count"), .fz (.lst (iL ws))] ∧ Fits pl ws ∧ Good s pl ws m ∧ m.at_ = 2 ∧ P (.fz .non) [plS a (word s ws m), .fz (sd s), .fz (.str "count"), .fz (.lst (iL ws))]
abbrev sp_main_step (a : Addr) : DSp := fun ts P => ∃ s pl ws m, ts = [plS a m, .fz (sd s), .fz (.str "count"), .fz (.lst (iL ws))] ∧ Fits pl ws ∧ Good s pl ws m ∧ P (.fz .non) [plS a (stp s ws m), .fz (sd s), .fz (.str "count"), .fz (.lst (iL ws))]
abbrev sp_ring_played (a : Addr) : DSp := fun ts P => ∃ (s : Bool) (pl : Nat) (bs : List Nat) (ws : List Int), ts = [.fz (.int pl), .fz (sd s), .fz (.str "count"), .fz (.lst (nL bs)), .fz (.lst (iL ws))] ∧ Fits pl ws ∧ (∀ b ∈ bs, b ≤ 1000) ∧
  P (plS a (runB s pl ws bs)) [.fz (.int pl), .fz (sd s), .fz (.str "count"), .fz (.lst (nL bs)), .fz (.lst (iL ws))]
structure Astray (ws : List Int) (tk : List D) (i : Nat) : Prop where
  le : i ≤ tk.length
  same : ∀ j, j < i → ∃ w, ws[j]? = some w ∧ tk[j]? = some (.int w)
  off : ∀ d, tk[i]? = some d → (d = .non ∨ ∃ v, d = .int v) ∧ (ws.length ≤ i ∨ ∃ w, ws[i]? = some w ∧ (d = .non ∨ ∃ v, d = .int v ∧ v ≠ w))
def ixD (tk : List D) (i : Nat) : D := if i < tk.length then .int i else .non
abbrev sp_ring_fault : DSp := fun ts P => ∃ ws tk i, ts = [.fz (.lst (iL ws)), .fz (.lst tk)] ∧ Astray ws tk i ∧ P (.fz (ixD tk i)) [.fz (.lst (iL ws)), .fz (.lst tk)]
abbrev sp_wrong_blocks : DSp := fun ts P => ∃ (s : Bool) (pl : Nat), ts = [.fz (.int pl), .fz (sd s)] ∧ P (.lst (nL [if s then pl else 0, 0, 1])) [.fz (.int pl), .fz (sd s)]
/-! the law's own defs -/
abbrev sp_law_tape : DSp := fun ts P => ∃ sc : List Int, ts = [.fz (.rol (iL sc))] ∧ sc.length ≤ 63 ∧ ∀ rs : List Int, rs.length ≤ 4000 → P (.lst (iL rs)) [.fz (.rol (iL sc))]
abbrev sp_law_draw : DSp := fun ts P => ∃ rs : List Int, ∃ n : Int, ts = [.lst (iL rs), .fz (.int n)] ∧ rs.length ≤ 4000 ∧ 0 < n ∧ ∀ (r : Int) (rs' : List Int), 0 ≤ r → r < n → rs'.length ≤ 4000 → P (.fz (.int r)) [.lst (iL rs'), .fz (.int n)]
abbrev sp_law_cells : DSp := fun ts P => ∃ rs : List Int, ∃ n : Nat, ts = [.lst (iL rs), .fz (.int n)] ∧ rs.length ≤ 4000 ∧ n ≤ 1000 ∧ ∀ cs rs' : List Int, cs.length = n → rs'.length ≤ 4000 → P (.lst (iL cs)) [.lst (iL rs'), .fz (.int n)]
abbrev sp_law_words : DSp := fun ts P => ∃ rs : List Int, ts = [.lst (iL rs)] ∧ rs.length ≤ 4000 ∧ ∀ ws rs' : List Int, ws.length ≤ 1000 → rs'.length ≤ 4000 → P (.lst (iL ws)) [.lst (iL rs')]
abbrev sp_law_blocks : DSp := fun ts P => ∃ rs : List Int, ∃ pl : Nat, ts = [.lst (iL rs), .fz (.int pl)] ∧ rs.length ≤ 4000 ∧ pl ≤ 60 ∧ ∀ (bs : List Nat) (rs' : List Int), bs.length ≤ 1000 → (∀ b ∈ bs, b ≤ 1000) → rs'.length ≤ 4000 → P (.lst (nL bs)) [.lst (iL rs'), .fz (.int pl)]
abbrev sp_law_is : DSp := fun ts P => ∃ i j : Int, ts = [.fz (.int i), .fz (.int j)] ∧ P (.fz (.bl (decide (i = j)))) [.fz (.int i), .fz (.int j)]
abbrev sp_law_same : DSp := fun ts P => ∃ xs : List D, ts = [.fz (.lst xs), .fz (.lst xs)] ∧ xs.length ≤ 1000 ∧ xs.all isW = true ∧ P (.fz (.bl true)) [.fz (.lst xs), .fz (.lst xs)]
abbrev sp_law_play : DSp := fun ts P => ∃ (s : Bool) (pl : Nat) (bs : List Nat) (ws : List Int), ts = [.fz (.int pl), .fz (sd s), .lst (nL bs), .lst (iL ws)] ∧ Fits pl ws ∧ (∀ b ∈ bs, b ≤ 1000) ∧
  P (.lst (duD (runB s pl ws bs))) [.fz (.int pl), .fz (sd s), .lst (nL bs), .lst (iL ws)]
abbrev sp_law_fault : DSp := fun ts P => ∃ ws tk i, ts = [.lst (iL ws), .fz (.lst tk)] ∧ tk.length ≤ 2000 ∧ Astray ws tk i ∧ P (.fz (ixD tk i)) [.lst (iL ws), .fz (.lst tk)]
abbrev sp_law_told : DSp := fun ts P => ∃ d : D, ts = [.fz d, .fz d] ∧ isW d = true ∧ P (.fz (.bl true)) [.fz d, .fz d]
abbrev sp_law_right (a : Addr) : DSp := fun ts P => ∃ (s : Bool) (pl : Nat) (ws : List Int) (m : Pl), ts = [.fz (plS a m).fr, .fz (.lst (duD m)), .lst (iL ws)] ∧ Fits pl ws ∧ Good s pl ws m ∧
  P (.fz (.bl true)) [.fz (plS a m).fr, .fz (.lst (duD m)), .lst (iL ws)]
abbrev sp_law_few : DSp := fun ts P => ∃ (rs : List Int) (pl : Nat) (s : Bool), ts = [.lst (iL rs), .fz (.int pl), .fz (sd s)] ∧ rs.length ≤ 4000 ∧ 0 < pl ∧ pl ≤ 60 ∧
  ∀ (bs : List Nat) (rs' : List Int), bs.length ≤ 1000 → bs.sum ≤ (if s then pl else 0) → rs'.length ≤ 4000 → P (.lst (nL bs)) [.lst (iL rs'), .fz (.int pl), .fz (sd s)]
abbrev sp_law_list : DSp := fun ts P => ∃ (rs ws : List Int), ts = [.lst (iL rs), .lst (iL ws)] ∧ rs.length ≤ 4000 ∧ ∀ (tk : List D) (rs' : List Int), tk.all isW = true → tk.length ≤ 1000 → rs'.length ≤ 4000 → P (.lst tk) [.lst (iL rs'), .lst (iL ws)]
abbrev sp_law (_a : Addr) : DSp := fun ts P => ∃ sc : List Int, ts = [.fz (.rol (iL sc))] ∧ sc.length ≤ 63 ∧ P (.fz (.bl true)) [.fz (.rol (iL sc))]

def w_RingPlay_init (aRingPlay : Addr) : WS :=
 (wSeq (wSetF (cRingPlay aRingPlay) 0 0 (wLst aNil))
 (wSeq (wSetF (cRingPlay aRingPlay) 0 1 (wC (.int 0)))
 (wSeq (wSetF (cRingPlay aRingPlay) 0 2 (wC (.int 0)))
 (wSeq (wSetF (cRingPlay aRingPlay) 0 3 (wC (.int 0)))
 (wSetF (cRingPlay aRingPlay) 0 4 (wOp2 gMul (oV (wLst (aCons (oV (wC .non)) aNil))) (oS 1)))))))
abbrev pm_RingPlay_init : List Bool := [true, true]
def w_may_put (aRingPlay : Addr) : WS :=
 (wRet (wAndV (wQ (q2 gLt (q2 gSub (qPv 0 [(cRingPlay aRingPlay, 1)]) (qPv 0 [(cRingPlay aRingPlay, 2)])) (qN gLen (qCons (qP 0 [(cRingPlay aRingPlay, 4)]) qNil)))) (wOp2 gLt (oV (wFld (cRingPlay aRingPlay) 1 (oS 0))) (oV (wOpN gLen (aCons (oS 1) aNil))))))
abbrev pm_may_put : List Bool := [true, true]
def w_may_take (aRingPlay : Addr) : WS :=
 (wRet (wOp2 gLt (oV (wFld (cRingPlay aRingPlay) 2 (oS 0))) (oV (wFld (cRingPlay aRingPlay) 1 (oS 0)))))
abbrev pm_may_take : List Bool := [true]
def w_put_word (aRingPlay : Addr) : WS :=
 (wSetIxP 0 [(cRingPlay aRingPlay, 4)] (q2 gIx (qS 2) (qS 1)) (q2 gMod (qS 1) (qN gLen (qCons (qP 0 [(cRingPlay aRingPlay, 4)]) qNil))))
abbrev pm_put_word : List Bool := [true, true, true]
def w_take_word (aRingPlay : Addr) : WS :=
 (wDrop (wMutP mAppend 0 [(cRingPlay aRingPlay, 0)] (qCons (q2 gIx (qP 0 [(cRingPlay aRingPlay, 4)]) (q2 gMod (qS 1) (qN gLen (qCons (qP 0 [(cRingPlay aRingPlay, 4)]) qNil)))) qNil)))
abbrev pm_take_word : List Bool := [true, true]
def w_handler_block (aRingPlay : Addr) : WS :=
 (wIf (wB (wOp2 gEq (oS 1) (oV (wC (.str "takes")))))
 (wIf (wB (wCall (sp_may_put aRingPlay) [] (aCons (oS 0) (aCons (oS 2) aNil))))
 (wSeq (wDrop (wCall (sp_put_word aRingPlay) [] (aCons (oS 0) (aCons (oV (wFld (cRingPlay aRingPlay) 1 (oS 0))) (aCons (oS 2) aNil)))))
 (wAugF (cRingPlay aRingPlay) 0 1 gAddI (qC (.int 1))))
 wNil)
 (wIf (wB (wCall (sp_may_take aRingPlay) [] (aCons (oS 0) aNil)))
 (wSeq (wDrop (wCall (sp_take_word aRingPlay) [] (aCons (oS 0) (aCons (oV (wFld (cRingPlay aRingPlay) 2 (oS 0))) aNil))))
 (wAugF (cRingPlay aRingPlay) 0 2 gAddI (qC (.int 1))))
 wNil))
abbrev pm_handler_block : List Bool := [true, true, true]
def w_word_step (aRingPlay : Addr) : WS :=
 (wSeq (wSet 4 (wIfE (wB (wOp2 gEq (oS 2) (oV (wC (.str "count"))))) (wC (.int 1)) (wC (.int 0))))
 (wIf (wB (wOp2 gEq (oS 1) (oV (wC (.str "takes")))))
 (wDrop (wCall (sp_take_word aRingPlay) [] (aCons (oS 0) (aCons (oV (wOp2 gSub (oV (wFld (cRingPlay aRingPlay) 2 (oS 0))) (oS 4))) aNil))))
 (wDrop (wCall (sp_put_word aRingPlay) [] (aCons (oS 0) (aCons (oV (wOp2 gSub (oV (wFld (cRingPlay aRingPlay) 1 (oS 0))) (oS 4))) (aCons (oS 3) aNil)))))))
abbrev pm_word_step : List Bool := [true, true, true, true]
def w_main_step (aRingPlay : Addr) : WS :=
 (wSeq (wIf (wB (wOp2 gEq (oV (wFld (cRingPlay aRingPlay) 3 (oS 0))) (oV (wC (.int 0)))))
 (wSeq (wSet 4 (wIfE (wB (wOp2 gEq (oS 1) (oV (wC (.str "takes"))))) (wCall (sp_may_take aRingPlay) [] (aCons (oS 0) aNil)) (wCall (sp_may_put aRingPlay) [] (aCons (oS 0) (aCons (oS 3) aNil)))))
 (wSeq (wSetF (cRingPlay aRingPlay) 0 3 (wIfE (wTru (oS 4)) (wC (.int 1)) (wC (.int 0))))
 wRetN))
 wNil)
 (wSeq (wIf (wB (wOp2 gEq (oV (wOp2 gEq (oV (wFld (cRingPlay aRingPlay) 3 (oS 0))) (oV (wC (.int 1))))) (oV (wOp2 gEq (oS 2) (oV (wC (.str "word")))))))
 (wDrop (wCall (sp_word_step aRingPlay) [] (aCons (oS 0) (aCons (oS 1) (aCons (oS 2) (aCons (oS 3) aNil))))))
 (wIf (wB (wOp2 gEq (oS 1) (oV (wC (.str "takes")))))
 (wAugF (cRingPlay aRingPlay) 0 2 gAddI (qC (.int 1)))
 (wAugF (cRingPlay aRingPlay) 0 1 gAddI (qC (.int 1)))))
 (wSetF (cRingPlay aRingPlay) 0 3 (wIfE (wB (wOp2 gEq (oV (wFld (cRingPlay aRingPlay) 3 (oS 0))) (oV (wC (.int 1))))) (wC (.int 2)) (wC (.int 0))))))
abbrev pm_main_step : List Bool := [true, true, true, true]
def w_ring_played (aRingPlay : Addr) : WS :=
 (wSeq (wSet 5 (wMake (cRingPlay aRingPlay) (sp_RingPlay_init aRingPlay) [] (aCons (oS 0) aNil)))
 (wSeq (wFor (wiV (oS 3)) (zgName 6)
 (wSeq (wFor (wiR1 (aCons (oS 6) aNil)) (zgName 7)
 (wDrop (wCall (sp_handler_block aRingPlay) [] (aCons (oS 5) (aCons (oS 1) (aCons (oS 4) aNil))))))
 (wDrop (wCall (sp_main_step aRingPlay) [] (aCons (oS 5) (aCons (oS 1) (aCons (oS 2) (aCons (oS 4) aNil))))))))
 (wRet (wMov 5))))
abbrev pm_ring_played : List Bool := [true, true, true, true, true]
def w_ring_fault : WS :=
 (wSeq (wFor (wiEnS 1) (zgTup (zgCons (zgName 2) (zgCons (zgName 3) zgNil)))
 (wIf (wOr (wB (wOp2 gGe (oS 2) (oV (wOpN gLen (aCons (oS 0) aNil))))) (wB (wOp2 gNe (oS 3) (oV (wOp2 gIx (oS 0) (oS 2))))))
 (wRet (wMov 2))
 wNil))
 (wRet (wC .non)))
abbrev pm_ring_fault : List Bool := [true, true]
def w_wrong_blocks : WS :=
 (wSeq (wIf (wB (wOp2 gEq (oS 1) (oV (wC (.str "takes")))))
 (wRet (wLst (aCons (oV (wVar 0)) (aCons (oV (wC (.int 0))) (aCons (oV (wC (.int 1))) aNil)))))
 wNil)
 (wRet (wLst (aCons (oV (wC (.int 0))) (aCons (oV (wC (.int 0))) (aCons (oV (wC (.int 1))) aNil))))))
abbrev pm_wrong_blocks : List Bool := [true, true]
def w_law_tape : WS :=
 (wSeq (wSet 1 (wLst aNil))
 (wSeq (wSet 2 (wOp2 gAdd (oV (wOp2 gMul (oV (wOpN gLen (aCons (oS 0) aNil))) (oV (wC (.int 977))))) (oV (wC (.int 1)))))
 (wSeq (wFor (wiR1 (aCons (oV (wC (.int 63))) aNil)) (zgName 3)
 (wIf (wB (wOp2 gLt (oS 3) (oV (wOpN gLen (aCons (oS 0) aNil)))))
 (wSet 2 (wOp2 gMod (oV (wOpN gInt (aCons (oV (wOp2 gAdd (oV (wOp2 gMul (oS 2) (oV (wC (.int 31))))) (oV (wOp2 gIx (oS 0) (oS 3))))) aNil))) (oV (wC (.int 2147483647)))))
 wNil))
 (wSeq (wFor (wiR1 (aCons (oV (wC (.int 420))) aNil)) (zgName 3)
 (wSeq (wSet 2 (wOp2 gMod (oV (wOpN gInt (aCons (oV (wOp2 gAdd (oV (wOp2 gAdd (oV (wOp2 gMul (oS 2) (oV (wC (.int 48271))))) (oV (wOp2 gMul (oV (wC (.int 7))) (oS 3))))) (oV (wC (.int 3))))) aNil))) (oV (wC (.int 2147483647)))))
 (wDrop (wMut mAppend 1 (aCons (oV (wOp2 gDiv (oS 2) (oV (wC (.int 13))))) aNil)))))
 (wSeq (wFor (wiR1 (aCons (oV (wC (.int 63))) aNil)) (zgName 3)
 (wIf (wB (wOp2 gLt (oS 3) (oV (wOpN gLen (aCons (oS 0) aNil)))))
 (wSeq (wSet 4 (wOp2 gIx (oS 0) (oS 3)))
 (wIf (wB (wOp2 gGe (oS 4) (oV (wOp2 gPow (oV (wC (.int 10))) (oV (wC (.int 18)))))))
 (wFor (wiR1 (aCons (oV (wC (.int 24))) aNil)) (zgName 5)
 (wIf (wB (wOp2 gGt (oS 4) (oV (wC (.int 0)))))
 (wSeq (wDrop (wMut mAppend 1 (aCons (oV (wOp2 gMod (oV (wOpN gInt (aCons (oS 4) aNil))) (oV (wC (.int 5040))))) aNil)))
 (wSet 4 (wOp2 gDiv (oS 4) (oV (wC (.int 5040))))))
 wNil))
 (wSeq (wSet 6 (wOp2 gMod (oV (wOpN gInt (aCons (oV (wOp2 gAdd (oV (wOp2 gAdd (oV (wOp2 gMul (oS 4) (oV (wC (.int 48271))))) (oV (wOp2 gMul (oS 3) (oV (wC (.int 69621))))))) (oV (wC (.int 11))))) aNil))) (oV (wC (.int 2147483647)))))
 (wSeq (wDrop (wMut mAppend 1 (aCons (oV (wOp2 gDiv (oV (wOp2 gMod (oV (wOpN gInt (aCons (oV (wOp2 gAdd (oV (wOp2 gMul (oS 6) (oV (wC (.int 16807))))) (oS 3))) aNil))) (oV (wC (.int 2147483629))))) (oV (wC (.int 7))))) aNil)))
 (wDrop (wMut mAppend 1 (aCons (oV (wOp2 gDiv (oV (wOp2 gMod (oV (wOpN gInt (aCons (oV (wOp2 gAdd (oV (wOp2 gMul (oS 6) (oV (wC (.int 39373))))) (oV (wC (.int 5))))) aNil))) (oV (wC (.int 2147483587))))) (oV (wC (.int 11))))) aNil)))))))
 wNil))
 (wRet (wMov 1)))))))
abbrev pm_law_tape : List Bool := [true]
def w_law_draw : WS :=
 (wSeq (wIf (wB (wOp2 gEq (oV (wOpN gLen (aCons (oS 0) aNil))) (oV (wC (.int 0)))))
 (wRet (wC (.int 0)))
 wNil)
 (wRet (wOp2 gMod (oV (wOpN gInt (aCons (oV (wMut mPopAll 0 aNil)) aNil))) (oS 1))))
abbrev pm_law_draw : List Bool := [true, true]
def w_law_cells : WS :=
 (wSeq (wIf (wB (wOp2 gGe (oV (wOpN gLen (aCons (oS 0) aNil))) (oV (wOp2 gAdd (oS 1) (oV (wC (.int 40)))))))
 (wRet (wLc [2] (wiR1 (aCons (oS 1) aNil)) (zgName 2) wYes (wCall sp_law_draw [] (aCons (oS 0) (aCons (oV (wC (.int 5040))) aNil)))))
 wNil)
 (wSeq (wSet 3 (wCall sp_law_draw [] (aCons (oS 0) (aCons (oV (wC (.int 2147483647))) aNil))))
 (wSeq (wSet 4 (wLst aNil))
 (wSeq (wFor (wiR1 (aCons (oS 1) aNil)) (zgName 2)
 (wSeq (wSet 3 (wOp2 gMod (oV (wOpN gInt (aCons (oV (wOp2 gAdd (oV (wOp2 gAdd (oV (wOp2 gMul (oS 3) (oV (wC (.int 48271))))) (oV (wOp2 gMul (oV (wC (.int 11))) (oS 2))))) (oV (wC (.int 5))))) aNil))) (oV (wC (.int 2147483647)))))
 (wDrop (wMut mAppend 4 (aCons (oV (wOp2 gDiv (oS 3) (oV (wC (.int 7))))) aNil)))))
 (wRet (wMov 4))))))
abbrev pm_law_cells : List Bool := [true, true]
def w_law_words : WS :=
 (wSeq (wSet 1 (wCall sp_law_cells [] (aCons (oS 0) (aCons (oV (wCall sp_law_draw [] (aCons (oS 0) (aCons (oV (wOp2 gIx (oV (wLst (aCons (oV (wC (.int 13))) (aCons (oV (wC (.int 201))) aNil)))) (oV (wCall sp_law_draw [] (aCons (oS 0) (aCons (oV (wC (.int 2))) aNil)))))) aNil)))) aNil))))
 (wSeq (wSet 2 (wCall sp_law_draw [] (aCons (oS 0) (aCons (oV (wC (.int 3))) aNil))))
 (wSeq (wSet 3 (wLst aNil))
 (wSeq (wFor (wiR1 (aCons (oV (wOpN gLen (aCons (oS 1) aNil))) aNil)) (zgName 4)
 (wIf (wB (wOp2 gEq (oS 2) (oV (wC (.int 0)))))
 (wDrop (wMut mAppend 3 (aCons (oV (wOp2 gSub (oV (wOp2 gMod (oV (wOpN gInt (aCons (oV (wOp2 gIx (oS 1) (oS 4))) aNil))) (oV (wC (.int 5))))) (oV (wC (.int 2))))) aNil)))
 (wIf (wB (wOp2 gEq (oS 2) (oV (wC (.int 1)))))
 (wDrop (wMut mAppend 3 (aCons (oV (wOp2 gAdd (oV (wOp2 gMul (oV (wC (.int 1000))) (oS 4))) (oV (wOp2 gMod (oV (wOpN gInt (aCons (oV (wOp2 gIx (oS 1) (oS 4))) aNil))) (oV (wC (.int 1000))))))) aNil)))
 (wDrop (wMut mAppend 3 (aCons (oV (wOp2 gAdd (oV (wOp2 gMul (oV (wOp2 gSub (oV (wOp2 gMod (oV (wOpN gInt (aCons (oV (wOp2 gIx (oS 1) (oS 4))) aNil))) (oV (wC (.int 5040))))) (oV (wC (.int 2520))))) (oV (wOp2 gPow (oV (wC (.int 10))) (oV (wC (.int 18))))))) (oS 4))) aNil))))))
 (wRet (wMov 3))))))
abbrev pm_law_words : List Bool := [true]
def w_law_blocks : WS :=
 (wSeq (wSet 2 (wCall sp_law_cells [] (aCons (oS 0) (aCons (oV (wCall sp_law_draw [] (aCons (oS 0) (aCons (oV (wOp2 gIx (oV (wLst (aCons (oV (wC (.int 13))) (aCons (oV (wC (.int 41))) (aCons (oV (wC (.int 201))) aNil))))) (oV (wCall sp_law_draw [] (aCons (oS 0) (aCons (oV (wC (.int 3))) aNil)))))) aNil)))) aNil))))
 (wSeq (wSet 3 (wLst aNil))
 (wSeq (wPin 2 (wFor (wiV (oS 2)) (zgName 4)
 (wSeq (wSet 5 (wOp2 gIx (oV (wLst (aCons (oV (wC (.int 2))) (aCons (oV (wC (.int 2))) (aCons (oV (wC (.int 2))) (aCons (oV (wC (.int 4))) (aCons (oV (wC (.int 4))) (aCons (oV (wOp2 gAdd (oS 1) (oV (wC (.int 3))))) (aCons (oV (wOp2 gAdd (oS 1) (oV (wC (.int 3))))) (aCons (oV (wC (.int 201))) aNil)))))))))) (oV (wOp2 gMod (oV (wOpN gInt (aCons (oV (wOp2 gDiv (oS 4) (oV (wC (.int 16))))) aNil))) (oV (wC (.int 8)))))))
 (wDrop (wMut mAppend 3 (aCons (oV (wOp2 gMod (oV (wOpN gInt (aCons (oS 4) aNil))) (oS 5))) aNil))))))
 (wRet (wMov 3)))))
abbrev pm_law_blocks : List Bool := [true, true]
def w_law_is : WS :=
 (wRet (wAndV (wOpN gIsi (aCons (oS 0) (aCons (oV (wC (.ty "int"))) aNil))) (wAndV (wNotV (wOpN gIsi (aCons (oS 0) (aCons (oV (wC (.ty "bool"))) aNil)))) (wOp2 gEq (oS 0) (oS 1)))))
abbrev pm_law_is : List Bool := [true, true]
def w_law_same : WS :=
 (wSeq (wIf (wOr (wNot (wB (wOpN gIsi (aCons (oS 0) (aCons (oV (wC (.ty "list"))) aNil))))) (wB (wOp2 gNe (oV (wOpN gLen (aCons (oS 0) aNil))) (oV (wOpN gLen (aCons (oS 1) aNil))))))
 (wRet (wC (.bl false)))
 wNil)
 (wSeq (wFor (wiR1 (aCons (oV (wOpN gLen (aCons (oS 1) aNil))) aNil)) (zgName 2)
 (wSeq (wIf (wAnd (wB (wOp2 gIs (oV (wOp2 gIx (oS 1) (oS 2))) (oV (wC .non)))) (wB (wOp2 gIsNot (oV (wOp2 gIx (oS 0) (oS 2))) (oV (wC .non)))))
 (wRet (wC (.bl false)))
 wNil)
 (wIf (wAnd (wB (wOp2 gIsNot (oV (wOp2 gIx (oS 1) (oS 2))) (oV (wC .non)))) (wNot (wB (wCall sp_law_is [] (aCons (oV (wOp2 gIx (oS 0) (oS 2))) (aCons (oV (wOp2 gIx (oS 1) (oS 2))) aNil))))))
 (wRet (wC (.bl false)))
 wNil)))
 (wRet (wC (.bl true)))))
abbrev pm_law_same : List Bool := [true, true]
def w_law_play : WS :=
 (wSeq (wSet 4 (wC (.int 0)))
 (wSeq (wSet 5 (wC (.int 0)))
 (wSeq (wSet 6 (wC (.int 0)))
 (wSeq (wSet 7 (wC (.int 0)))
 (wSeq (wSet 8 (wOp2 gMul (oV (wLst (aCons (oV (wC .non)) aNil))) (oS 0)))
 (wSeq (wSet 9 (wLst aNil))
 (wSeq (wFor (wiV (oS 2)) (zgName 10)
 (wSeq (wFor (wiR1 (aCons (oS 10) aNil)) (zgName 11)
 (wSeq (wIf (wAnd (wB (wOp2 gEq (oS 1) (oV (wC (.str "takes"))))) (wAnd (wB (wOp2 gLt (oV (wOp2 gSub (oS 4) (oS 5))) (oS 0))) (wB (wOp2 gLt (oS 4) (oV (wOpN gLen (aCons (oS 3) aNil)))))))
 (wSeq (wSetIx 8 (wOp2 gIx (oS 3) (oS 4)) (oV (wOp2 gMod (oV (wOpN gInt (aCons (oS 4) aNil))) (oS 0))))
 (wSet 4 (wOp2 gAdd (oS 4) (oV (wC (.int 1))))))
 wNil)
 (wIf (wAnd (wB (wOp2 gEq (oS 1) (oV (wC (.str "puts"))))) (wB (wOp2 gLt (oS 5) (oS 4))))
 (wSeq (wDrop (wMut mAppend 9 (aCons (oV (wOp2 gIx (oS 8) (oV (wOp2 gMod (oV (wOpN gInt (aCons (oS 5) aNil))) (oS 0))))) aNil)))
 (wSet 5 (wOp2 gAdd (oS 5) (oV (wC (.int 1))))))
 wNil)))
 (wIf (wAnd (wB (wOp2 gEq (oS 6) (oV (wC (.int 0))))) (wAnd (wB (wOp2 gEq (oS 1) (oV (wC (.str "takes"))))) (wB (wOp2 gLt (oS 5) (oS 4)))))
 (wSeq (wSet 7 (wVar 5))
 (wSet 6 (wC (.int 1))))
 (wIf (wAnd (wB (wOp2 gEq (oS 6) (oV (wC (.int 0))))) (wAnd (wB (wOp2 gEq (oS 1) (oV (wC (.str "puts"))))) (wAnd (wB (wOp2 gLt (oV (wOp2 gSub (oS 4) (oS 5))) (oS 0))) (wB (wOp2 gLt (oS 4) (oV (wOpN gLen (aCons (oS 3) aNil))))))))
 (wSeq (wSet 7 (wVar 4))
 (wSet 6 (wC (.int 1))))
 (wIf (wB (wOp2 gEq (oS 6) (oV (wC (.int 1)))))
 (wSeq (wSet 6 (wC (.int 2)))
 (wIf (wB (wOp2 gEq (oS 1) (oV (wC (.str "takes")))))
 (wSet 5 (wOp2 gAdd (oS 5) (oV (wC (.int 1)))))
 (wSet 4 (wOp2 gAdd (oS 4) (oV (wC (.int 1)))))))
 (wIf (wB (wOp2 gEq (oS 6) (oV (wC (.int 2)))))
 (wSeq (wSet 6 (wC (.int 0)))
 (wIf (wB (wOp2 gEq (oS 1) (oV (wC (.str "takes")))))
 (wDrop (wMut mAppend 9 (aCons (oV (wOp2 gIx (oS 8) (oV (wOp2 gMod (oV (wOpN gInt (aCons (oS 7) aNil))) (oS 0))))) aNil)))
 (wSetIx 8 (wOp2 gIx (oS 3) (oS 7)) (oV (wOp2 gMod (oV (wOpN gInt (aCons (oS 7) aNil))) (oS 0))))))
 wNil))))))
 (wRet (wLst (aCons (oV (wVar 4)) (aCons (oV (wVar 5)) (aCons (oV (wVar 6)) (aCons (oV (wVar 9)) (aCons (oV (wVar 8)) aNil))))))))))))))
abbrev pm_law_play : List Bool := [true, true, true, true]
def w_law_fault : WS :=
 (wSeq (wFor (wiR1 (aCons (oV (wOpN gLen (aCons (oS 1) aNil))) aNil)) (zgName 2)
 (wIf (wOr (wB (wOp2 gGe (oS 2) (oV (wOpN gLen (aCons (oS 0) aNil))))) (wOr (wB (wOp2 gIs (oV (wOp2 gIx (oS 1) (oS 2))) (oV (wC .non)))) (wB (wOp2 gNe (oV (wOp2 gIx (oS 1) (oS 2))) (oV (wOp2 gIx (oS 0) (oS 2)))))))
 (wRet (wMov 2))
 wNil))
 (wRet (wC .non)))
abbrev pm_law_fault : List Bool := [true, true]
def w_law_told : WS :=
 (wSeq (wIf (wB (wOp2 gIs (oS 1) (oV (wC .non))))
 (wRet (wOp2 gIs (oS 0) (oV (wC .non))))
 wNil)
 (wRet (wCall sp_law_is [] (aCons (oS 0) (aCons (oS 1) aNil)))))
abbrev pm_law_told : List Bool := [true, true]
def w_law_right (aRingPlay : Addr) : WS :=
 (wSeq (wIf (wOr (wNot (wB (wOpN (gIsiC (cRingPlay aRingPlay)) (aCons (oS 0) (aCons (oV (wC (.cls (cRingPlay aRingPlay).C))) aNil))))) (wOr (wNot (wB (wCall sp_law_is [] (aCons (oV (wFld (cRingPlay aRingPlay) 1 (oS 0))) (aCons (oV (wOp2 gIx (oS 1) (oV (wC (.int 0))))) aNil))))) (wNot (wB (wCall sp_law_is [] (aCons (oV (wFld (cRingPlay aRingPlay) 2 (oS 0))) (aCons (oV (wOp2 gIx (oS 1) (oV (wC (.int 1))))) aNil)))))))
 (wRet (wC (.bl false)))
 wNil)
 (wSeq (wIf (wOr (wNot (wB (wCall sp_law_is [] (aCons (oV (wFld (cRingPlay aRingPlay) 3 (oS 0))) (aCons (oV (wOp2 gIx (oS 1) (oV (wC (.int 2))))) aNil))))) (wOr (wNot (wB (wCall sp_law_same [] (aCons (oV (wFld (cRingPlay aRingPlay) 0 (oS 0))) (aCons (oV (wOp2 gIx (oS 1) (oV (wC (.int 3))))) aNil))))) (wNot (wB (wCall sp_law_same [] (aCons (oV (wFld (cRingPlay aRingPlay) 4 (oS 0))) (aCons (oV (wOp2 gIx (oS 1) (oV (wC (.int 4))))) aNil)))))))
 (wRet (wC (.bl false)))
 wNil)
 (wRet (wCall sp_law_told [] (aCons (oV (wCall sp_ring_fault [] (aCons (oV (wOpN gList (aCons (oS 2) aNil))) (aCons (oV (wOpN gList (aCons (oV (wFld (cRingPlay aRingPlay) 0 (oS 0))) aNil))) aNil)))) (aCons (oV (wCall sp_law_fault [] (aCons (oS 2) (aCons (oV (wOp2 gIx (oS 1) (oV (wC (.int 3))))) aNil)))) aNil))))))
abbrev pm_law_right : List Bool := [true, true, true]
def w_law_few : WS :=
 (wSeq (wSet 3 (wLc [4] (wiR1 (aCons (oV (wOp2 gAdd (oV (wC (.int 1))) (oV (wCall sp_law_draw [] (aCons (oS 0) (aCons (oV (wC (.int 20))) aNil)))))) aNil)) (zgName 4) wYes (wC (.int 0))))
 (wSeq (wSet 5 (wC (.int 0)))
 (wSeq (wIf (wB (wOp2 gEq (oS 2) (oV (wC (.str "takes")))))
 (wSet 5 (wOp2 gIx (oV (wLst (aCons (oV (wVar 1)) (aCons (oV (wVar 1)) (aCons (oV (wCall sp_law_draw [] (aCons (oS 0) (aCons (oV (wOp2 gAdd (oS 1) (oV (wC (.int 1))))) aNil)))) aNil))))) (oV (wCall sp_law_draw [] (aCons (oS 0) (aCons (oV (wC (.int 3))) aNil))))))
 wNil)
 (wSeq (wFor (wiR1 (aCons (oV (wC (.int 6))) aNil)) (zgName 6)
 (wIf (wB (wOp2 gGt (oS 5) (oV (wC (.int 0)))))
 (wSeq (wSet 7 (wVar 5))
 (wSeq (wIf (wB (wOp2 gLt (oS 6) (oV (wC (.int 5)))))
 (wSet 7 (wOp2 gAdd (oV (wC (.int 1))) (oV (wCall sp_law_draw [] (aCons (oS 0) (aCons (oS 5) aNil))))))
 wNil)
 (wSeq (wSet 8 (wCall sp_law_draw [] (aCons (oS 0) (aCons (oV (wOpN gLen (aCons (oS 3) aNil))) aNil))))
 (wSeq (wSetIx 3 (wOp2 gAdd (oV (wOp2 gIx (oS 3) (oS 8))) (oS 7)) (oS 8))
 (wSet 5 (wOp2 gSub (oS 5) (oS 7)))))))
 wNil))
 (wRet (wMov 3))))))
abbrev pm_law_few : List Bool := [true, true, true]
def w_law_list : WS :=
 (wSeq (wSet 2 (wOpN gList (aCons (oV (wSl gSl (oS 1) none (some (oV (wCall sp_law_draw [] (aCons (oS 0) (aCons (oV (wC (.int 13))) aNil))))))) aNil)))
 (wSeq (wIf (wB (wOp2 gEq (oV (wCall sp_law_draw [] (aCons (oS 0) (aCons (oV (wC (.int 4))) aNil)))) (oV (wC (.int 0)))))
 (wSeq (wSet 2 (wOpN gList (aCons (oV (wSl gSl (oS 1) none (some (oV (wC (.int 12)))))) aNil)))
 (wDrop (wMut mAppend 2 (aCons (oV (wOp2 gIx (oV (wLst (aCons (oV (wC .non)) (aCons (oV (wC (.int 0))) (aCons (oV (wC (.int 3))) aNil))))) (oV (wCall sp_law_draw [] (aCons (oS 0) (aCons (oV (wC (.int 3))) aNil)))))) aNil))))
 wNil)
 (wSeq (wFor (wiR1 (aCons (oV (wCall sp_law_draw [] (aCons (oS 0) (aCons (oV (wC (.int 3))) aNil)))) aNil)) (zgName 3)
 (wIf (wB (wOp2 gGt (oV (wOpN gLen (aCons (oS 2) aNil))) (oV (wC (.int 0)))))
 (wSeq (wSet 4 (wCall sp_law_draw [] (aCons (oS 0) (aCons (oV (wOpN gLen (aCons (oS 2) aNil))) aNil))))
 (wIf (wOr (wB (wOp2 gEq (oV (wCall sp_law_draw [] (aCons (oS 0) (aCons (oV (wC (.int 2))) aNil)))) (oV (wC (.int 0))))) (wB (wOp2 gIs (oV (wOp2 gIx (oS 2) (oS 4))) (oV (wC .non)))))
 (wSetIx 2 (wC .non) (oS 4))
 (wSetIx 2 (wOp2 gAdd (oV (wOp2 gIx (oS 2) (oS 4))) (oV (wOp2 gIx (oV (wLst (aCons (oV (wC (.int 1))) (aCons (oV (wOp1 gNeg (oV (wC (.int 1))))) aNil)))) (oV (wCall sp_law_draw [] (aCons (oS 0) (aCons (oV (wC (.int 2))) aNil))))))) (oS 4))))
 wNil))
 (wRet (wMov 2)))))
abbrev pm_law_list : List Bool := [true, true]
def w_law (aRingPlay : Addr) : WS :=
 (wSeq (wSet 1 (wCall sp_law_tape [] (aCons (oS 0) aNil)))
 (wSeq (wSet 2 (wOp2 gIx (oV (wLst (aCons (oV (wC (.int 1))) (aCons (oV (wC (.int 2))) (aCons (oV (wC (.int 3))) (aCons (oV (wC (.int 7))) (aCons (oV (wC (.int 60))) (aCons (oV (wOp2 gAdd (oV (wC (.int 1))) (oV (wCall sp_law_draw [] (aCons (oS 1) (aCons (oV (wC (.int 60))) aNil)))))) aNil)))))))) (oV (wCall sp_law_draw [] (aCons (oS 1) (aCons (oV (wC (.int 6))) aNil))))))
 (wSeq (wSet 3 (wOp2 gIx (oV (wLst (aCons (oV (wC (.str "puts"))) (aCons (oV (wC (.str "takes"))) aNil)))) (oV (wCall sp_law_draw [] (aCons (oS 1) (aCons (oV (wC (.int 2))) aNil))))))
 (wSeq (wSet 4 (wOp2 gMul (oV (wCall sp_law_draw [] (aCons (oS 1) (aCons (oV (wC (.int 4))) aNil)))) (oV (wOpN gInt (aCons (oV (wOp2 gEq (oS 3) (oV (wC (.str "takes"))))) aNil)))))
 (wSeq (wSet 5 (wCall sp_law_few [] (aCons (oS 1) (aCons (oS 2) (aCons (oS 3) aNil)))))
 (wSeq (wSet 6 (wOp2 gSub (oV (wCall sp_law_draw [] (aCons (oS 1) (aCons (oV (wC (.int 2000))) aNil)))) (oV (wC (.int 1000)))))
 (wSeq (wSet 7 (wOp2 gAdd (oV (wC (.int 1))) (oV (wCall sp_law_draw [] (aCons (oS 1) (aCons (oV (wC (.int 9))) aNil))))))
 (wSeq (wSet 8 (wLc [9] (wiR1 (aCons (oV (wOp2 gAdd (oV (wOp2 gAdd (oS 2) (oV (wC (.int 1))))) (oV (wCall sp_law_draw [] (aCons (oS 1) (aCons (oV (wC (.int 5))) aNil)))))) aNil)) (zgName 9) wYes (wOp2 gAdd (oS 6) (oV (wOp2 gMul (oS 7) (oS 9))))))
 (wSeq (wSet 10 (wCall sp_law_words [] (aCons (oS 1) aNil)))
 (wSeq (wSet 11 (wCall sp_law_list [] (aCons (oS 1) (aCons (oS 10) aNil))))
 (wSeq (wSet 12 (wCall sp_law_blocks [] (aCons (oS 1) (aCons (oS 2) aNil))))
 (wSeq (wSet 13 (wCall sp_law_play [] (aCons (oS 2) (aCons (oS 3) (aCons (oS 12) (aCons (oS 10) aNil))))))
 (wSeq (wSet 14 (wOpN gList (aCons (oS 10) aNil)))
 (wSeq (wSet 15 (wCall (sp_ring_played aRingPlay) [] (aCons (oS 2) (aCons (oS 3) (aCons (oV (wC (.str "count"))) (aCons (oV (wOpN gList (aCons (oS 12) aNil))) (aCons (oV (wVar 14)) aNil)))))))
 (wSeq (wIf (wOr (wB (wOp2 gNe (oV (wVar 14)) (oS 10))) (wNot (wB (wCall (sp_law_right aRingPlay) [] (aCons (oV (wVar 15)) (aCons (oV (wVar 13)) (aCons (oS 10) aNil)))))))
 (wRet (wC (.bl false)))
 wNil)
 (wSeq (wSet 16 (wLst (aCons (oV (wC (.int 0))) (aCons (oV (wC (.int 0))) (aCons (oV (wC (.int 1))) aNil)))))
 (wSeq (wSet 17 (wC .non))
 (wSeq (wIf (wB (wOp2 gEq (oS 3) (oV (wC (.str "takes")))))
 (wSeq (wSet 16 (wLst (aCons (oV (wVar 2)) (aCons (oV (wC (.int 0))) (aCons (oV (wC (.int 1))) aNil)))))
 (wSet 17 (wOp2 gIx (oS 8) (oS 2))))
 wNil)
 (wSeq (wIf (wB (wOp2 gNe (oV (wOpN gRepr (aCons (oV (wCall sp_wrong_blocks [] (aCons (oS 2) (aCons (oS 3) aNil)))) aNil))) (oV (wOpN gRepr (aCons (oS 16) aNil)))))
 (wRet (wC (.bl false)))
 wNil)
 (wSeq (wSet 15 (wCall (sp_ring_played aRingPlay) [] (aCons (oS 2) (aCons (oS 3) (aCons (oV (wC (.str "count"))) (aCons (oV (wOp2 gAdd (oV (wOp2 gMul (oV (wLst (aCons (oV (wC (.int 0))) aNil))) (oS 4))) (oS 16))) (aCons (oV (wOpN gList (aCons (oS 8) aNil))) aNil)))))))
 (wSeq (wIf (wOr (wNot (wB (wCall sp_law_same [] (aCons (oV (wFld (cRingPlay aRingPlay) 0 (oV (wVar 15)))) (aCons (oV (wLst (aCons (oV (wVar 17)) aNil))) aNil))))) (wNot (wB (wCall sp_law_is [] (aCons (oV (wCall sp_ring_fault [] (aCons (oV (wOpN gList (aCons (oS 8) aNil))) (aCons (oV (wOpN gList (aCons (oV (wFld (cRingPlay aRingPlay) 0 (oV (wVar 15)))) aNil))) aNil)))) (aCons (oV (wC (.int 0))) aNil))))))
 (wRet (wC (.bl false)))
 wNil)
 (wSeq (wSet 15 (wCall (sp_ring_played aRingPlay) [] (aCons (oS 2) (aCons (oS 3) (aCons (oV (wC (.str "count"))) (aCons (oV (wOpN gList (aCons (oS 5) aNil))) (aCons (oV (wOpN gList (aCons (oS 8) aNil))) aNil)))))))
 (wSeq (wIf (wNot (wB (wCall (sp_law_right aRingPlay) [] (aCons (oV (wVar 15)) (aCons (oV (wCall sp_law_play [] (aCons (oS 2) (aCons (oS 3) (aCons (oS 5) (aCons (oS 8) aNil)))))) (aCons (oS 8) aNil))))))
 (wRet (wC (.bl false)))
 wNil)
 (wSeq (wIf (wOr (wNot (wB (wCall sp_law_same [] (aCons (oV (wFld (cRingPlay aRingPlay) 0 (oV (wVar 15)))) (aCons (oV (wSl gSl (oS 8) none (some (oV (wOpN gLen (aCons (oV (wFld (cRingPlay aRingPlay) 0 (oV (wVar 15)))) aNil)))))) aNil))))) (wB (wOp2 gIsNot (oV (wCall sp_ring_fault [] (aCons (oV (wOpN gList (aCons (oS 8) aNil))) (aCons (oV (wOpN gList (aCons (oV (wFld (cRingPlay aRingPlay) 0 (oV (wVar 15)))) aNil))) aNil)))) (oV (wC .non)))))
 (wRet (wC (.bl false)))
 wNil)
 (wRet (wCall sp_law_told [] (aCons (oV (wCall sp_ring_fault [] (aCons (oV (wOpN gList (aCons (oS 10) aNil))) (aCons (oV (wOpN gList (aCons (oV (wVar 11)) aNil))) aNil)))) (aCons (oV (wCall sp_law_fault [] (aCons (oS 10) (aCons (oV (wVar 11)) aNil)))) aNil))))))))))))))))))))))))))))
abbrev pm_law : List Bool := [true]

section
variable {a : Addr}
theorem red_RingPlay_init : ∀ ts P, sp_RingPlay_init a ts P → w_RingPlay_init a (fin pm_RingPlay_init ts P) (Zl.entry 2 ts) := by
  rintro _ P ⟨n, rfl, hn, h⟩
  refine ⟨by decide, rfl, Nat.le_refl _, rfl, Nat.le_refl _, rfl, Nat.le_refl _, rfl, Nat.le_refl _, by decide, ⟨by omega, by omega, ?_⟩, rfl, Nat.le_refl _, ?_⟩
  · show 1 * (n : Int).toNat ≤ 2 ^ 24
    omega
  · have e : (List.replicate (n : Int).toNat [D.non]).flatten = List.replicate n .non := by
      rw [Int.toNat_natCast]
      clear hn h
      induction n with
      | zero => rfl
      | succ n ih => rw [List.replicate_succ, List.flatten_cons, ih]; rfl
    have h' : P (.fz .non) [ply a [] 0 0 0 (List.replicate n .non), .fz (.int n)] := h
    rw [← e] at h'
    exact h'
theorem red_may_put : ∀ ts P, sp_may_put a ts P → w_may_put a (fin pm_may_put ts P) (Zl.entry 2 ts) := by
  rintro _ P ⟨tk, p, q, at_, sl, ws, rfl, h⟩
  refine ⟨rfl, rfl, rfl, fun k => ?_, fun k => ?_⟩
  · have k : (p : Int) - q < sl.length := of_decide_eq_true k
    exact ⟨rfl, h _ (by rw [decide_eq_true_iff]; omega)⟩
  · have k : ¬ (p : Int) - q < sl.length := of_decide_eq_false k
    exact h _ (by constructor
                  · intro z; cases z
                  · intro z; omega)
theorem red_may_take : ∀ ts P, sp_may_take a ts P → w_may_take a (fin pm_may_take ts P) (Zl.entry 1 ts) := by
  rintro _ P ⟨tk, p, q, at_, sl, rfl, h⟩
  exact ⟨rfl, rfl, h _ (by rw [decide_eq_true_iff]; omega)⟩
theorem red_put_word : ∀ ts P, sp_put_word a ts P → w_put_word a (fin pm_put_word ts P) (Zl.entry 3 ts) := by
  rintro _ P ⟨tk, p, q, at_, sl, ws, n, w, rfl, hl, hw, h⟩
  conv => whnf
  rw [atI_nat hw]
  refine ⟨rfl, rfl, by omega, ?_⟩
  have e : (n : Int) % (sl.length : Int) = ((n % sl.length : Nat) : Int) := by omega
  conv => whnf
  rw [show ixN sl.length ((n : Int) % (sl.length : Int)) = some (n % sl.length) by rw [e]; exact ixN_nat (Nat.mod_lt _ hl)]
  exact h
theorem red_take_word : ∀ ts P, sp_take_word a ts P → w_take_word a (fin pm_take_word ts P) (Zl.entry 2 ts) := by
  rintro _ P ⟨tk, p, q, at_, sl, n, w, rfl, hl, hw, ht, h⟩
  refine ⟨rfl, rfl, rfl, by omega, ?_⟩
  have e : (n : Int) % (sl.length : Int) = ((n % sl.length : Nat) : Int) := by omega
  conv => whnf
  rw [show atI sl ((n : Int) % (sl.length : Int)) = some w by rw [e]; exact atI_nat hw]
  exact ⟨ht, h⟩
theorem iL_at {ws : List Int} {k : Nat} (h : k < ws.length) : (iL ws)[k]? = some (wd ws k) := by
  unfold wd
  rw [List.getElem?_map, List.getElem?_eq_getElem h, List.getD_eq_getElem?_getD, List.getElem?_eq_getElem h]; rfl
theorem so_at {sl : List D} {k : Nat} (h : 0 < sl.length) : sl[k % sl.length]? = some (so sl k) := by
  unfold so
  have := Nat.mod_lt k h
  rw [List.getD_eq_getElem?_getD, List.getElem?_eq_getElem this]; rfl
theorem so_W {sl : List D} {k : Nat} (h : 0 < sl.length) (hw : sl.all isW = true) : isW (so sl k) = true := List.all_eq_true.mp hw _ (List.mem_of_getElem? (so_at h))
theorem all_add {xs : List D} {d : D} (h : xs.all isW = true) (hd : isW d = true) : (xs ++ [d]).all isW = true := by
  rw [List.all_append, h, List.all_cons, hd]; rfl
theorem all_set {xs : List D} {d : D} {i : Nat} (h : xs.all isW = true) (hd : isW d = true) : (xs.set i d).all isW = true := by
  rw [List.all_eq_true]
  intro x hx
  rcases List.mem_or_eq_of_mem_set hx with z | z
  · exact List.all_eq_true.mp h x z
  · rw [z]; exact hd
theorem sd_eq (s : Bool) : eqS (sd s) (.str "takes") = some s := by cases s <;> decide
theorem good0 {s : Bool} {pl : Nat} {ws : List Int} : Good s pl ws (pl0 pl) := by
  refine ⟨List.length_replicate, ?_, rfl, Nat.le_refl _, Nat.le_refl _, Nat.zero_le _, Nat.zero_le _, fun z => absurd (show (0 : Nat) = 1 from z) (by decide), fun z => absurd (show (0 : Nat) = 2 from z) (by decide)⟩
  show (List.replicate pl D.non).all isW = true
  rw [List.all_eq_true]
  intro d hd
  rw [List.eq_of_mem_replicate hd]; rfl
theorem good_hnd {s : Bool} {pl : Nat} {ws : List Int} {m : Pl} (hp : 0 < pl) (g : Good s pl ws m) : Good s pl ws (hnd s ws m) := by
  obtain ⟨tk, p, q, at_, sl⟩ := m
  obtain ⟨h1, h2, h3, h4, h5, h6, h7, h8, h9⟩ := g
  simp only at h1 h2 h3 h4 h5 h6 h7 h8 h9
  cases s
  · simp only [hnd, rdy, Bool.false_eq_true, if_false] at h8 h9 ⊢
    split
    · exact ⟨h1, h2, all_add h3 (so_W (by omega) h2), by simp only [List.length_append, List.length_singleton]; omega, by simp only; omega, h6, h7, fun z => by
        have := h8 z
        simp only [rdy, Bool.false_eq_true, if_false]; omega, fun z => by simpa using h9 z⟩
    · exact ⟨h1, h2, h3, h4, h5, h6, h7, fun z => by simpa [rdy] using h8 z, fun z => by simpa using h9 z⟩
  · simp only [hnd, rdy, if_true] at h8 h9 ⊢
    split
    · exact ⟨by simp only [List.length_set]; exact h1, all_set h2 rfl, h3, h4, by simp only; omega, by simp only; omega, h7, fun z => by
        have := h8 z
        simp only [rdy, if_true]; omega, fun z => by simpa using h9 z⟩
    · exact ⟨h1, h2, h3, h4, h5, h6, h7, fun z => by simpa [rdy] using h8 z, fun z => by simpa using h9 z⟩
theorem good_stp {s : Bool} {pl : Nat} {ws : List Int} {m : Pl} (hp : 0 < pl) (g : Good s pl ws m) : Good s pl ws (stp s ws m) := by
  obtain ⟨tk, p, q, at_, sl⟩ := m
  have gd := g
  obtain ⟨h1, h2, h3, h4, h5, h6, h7, h8, h9⟩ := g
  simp only at h1 h2 h3 h4 h5 h6 h7 h8 h9
  unfold stp
  simp only
  by_cases e0 : at_ = 0
  · rw [if_pos e0]
    by_cases r : rdy s ws ⟨tk, p, q, at_, sl⟩
    · rw [if_pos r]
      exact ⟨h1, h2, h3, h4, h5, h6, le_b rfl, fun _ => by unfold rdy at r ⊢; exact r, fun z => absurd (show (1 : Nat) = 2 from z) (by decide)⟩
    · rw [if_neg r]
      exact ⟨h1, h2, h3, h4, h5, h6, le_b rfl, fun z => absurd (show (0 : Nat) = 1 from z) (by decide), fun z => absurd (show (0 : Nat) = 2 from z) (by decide)⟩
  · rw [if_neg e0]
    by_cases e1 : at_ = 1
    · rw [if_pos e1]
      have r := h8 e1
      unfold rdy at r
      cases s
      · simp only [Bool.false_eq_true, if_false] at r ⊢
        exact ⟨h1, h2, h3, h4, by simp only; omega, by simp only; omega, le_b rfl, fun z => absurd (show (2 : Nat) = 1 from z) (by decide), fun _ => by simp⟩
      · simp only [if_true] at r ⊢
        exact ⟨h1, h2, h3, by simp only; omega, by simp only; omega, h6, le_b rfl, fun z => absurd (show (2 : Nat) = 1 from z) (by decide), fun _ => by simp only [if_true]; omega⟩
    · rw [if_neg e1]
      have r := h9 (by omega)
      unfold word
      cases s
      · simp only [Bool.false_eq_true, if_false] at r ⊢
        exact ⟨by simp only [List.length_set]; exact h1, all_set h2 rfl, h3, h4, h5, h6, le_b rfl, fun z => absurd (show (0 : Nat) = 1 from z) (by decide), fun z => absurd (show (0 : Nat) = 2 from z) (by decide)⟩
      · simp only [if_true] at r ⊢
        exact ⟨h1, h2, all_add h3 (so_W (by omega) h2), by simp only [List.length_append, List.length_singleton]; omega, h5, h6, le_b rfl, fun z => absurd (show (0 : Nat) = 1 from z) (by decide), fun z => absurd (show (0 : Nat) = 2 from z) (by decide)⟩
theorem hnds_succ (s : Bool) (ws : List Int) : ∀ (k : Nat) (m : Pl), hnds s ws (k + 1) m = hnd s ws (hnds s ws k m)
  | 0, _ => rfl
  | k + 1, m => hnds_succ s ws k (hnd s ws m)
theorem good_hnds {s : Bool} {pl : Nat} {ws : List Int} (hp : 0 < pl) : ∀ (k : Nat) {m : Pl}, Good s pl ws m → Good s pl ws (hnds s ws k m)
  | 0, _, g => g
  | k + 1, _, g => good_hnds hp k (good_hnd hp g)
theorem good_run {s : Bool} {pl : Nat} {ws : List Int} (hp : 0 < pl) (bs : List Nat) : Good s pl ws (runB s pl ws bs) := by
  unfold runB
  suffices h : ∀ (bs : List Nat) (m : Pl), Good s pl ws m → Good s pl ws (bs.foldl (fun m b => stp s ws (hnds s ws b m)) m) from h bs _ good0
  intro bs
  induction bs with
  | nil => intro m g; exact g
  | cons b r ih => intro m g; exact ih _ (good_stp hp (good_hnds hp b g))
theorem run_succ {s : Bool} {pl : Nat} {ws : List Int} {bs : List Nat} {i b : Nat} (h : bs[i]? = some b) : runB s pl ws (bs.take (i + 1)) = stp s ws (hnds s ws b (runB s pl ws (bs.take i))) := by
  unfold runB
  rw [List.take_add_one, h, List.foldl_append]; rfl
end

section
variable {a : Addr}
theorem red_handler_block : ∀ ts P, sp_handler_block a ts P → w_handler_block a (fin pm_handler_block ts P) (Zl.entry 3 ts) := by
  rintro _ P ⟨s, pl, ws, ⟨tk, p, q, at_, sl⟩, rfl, ft, gd, h⟩
  have hp := ft.pos
  have hw := ft.wfew
  have h0 := gd.sl; have h1 := gd.qp; have h2 := gd.pn; have h3 := gd.tkl
  simp only at h0 h1 h2 h3
  have hs0 : 0 < sl.length := by omega
  have htl : tk.length ≤ 10000 := by omega
  have hwl : (iL ws).length = ws.length := List.length_map ..
  cases s
  · refine ⟨fun k => noT k, fun _ => ?_⟩
    refine ⟨rfl, _, _, _, _, _, rfl, fun b hb => ⟨fun k => ?_, fun k => ?_⟩⟩
    · have hq : q < p := hb.mp k
      refine ⟨rfl, rfl, _, _, _, _, _, q, so sl q, rfl, hs0, so_at hs0, szl htl, rfl, ?_⟩
      have e : hnd false ws ⟨tk, p, q, at_, sl⟩ = ⟨tk ++ [so sl q], p, q + 1, at_, sl⟩ := by
        show (if q < p then _ else _) = _
        rw [if_pos hq]
      rw [e] at h
      exact h
    · have hq : ¬ q < p := fun z => by rw [hb.mpr z] at k; cases k
      have e : hnd false ws ⟨tk, p, q, at_, sl⟩ = ⟨tk, p, q, at_, sl⟩ := by
        show (if q < p then _ else _) = _
        rw [if_neg hq]
      rw [e] at h
      exact h
  · refine ⟨fun _ => ?_, fun k => noF k⟩
    refine ⟨rfl, _, _, _, _, _, _, rfl, fun b hb => ⟨fun k => ?_, fun k => ?_⟩⟩
    · have hq : p < q + sl.length ∧ p < ws.length := by
        have := hb.mp k
        rwa [hwl] at this
      refine ⟨rfl, rfl, _, _, _, _, _, _, p, wd ws p, rfl, hs0, iL_at hq.2, rfl, ?_⟩
      have e : hnd true ws ⟨tk, p, q, at_, sl⟩ = ⟨tk, p + 1, q, at_, sl.set (p % sl.length) (wd ws p)⟩ := by
        show (if p < q + sl.length ∧ p < ws.length then _ else _) = _
        rw [if_pos hq]
      rw [e] at h
      exact h
    · have hq : ¬ (p < q + sl.length ∧ p < ws.length) := fun z => by
        have : b = true := hb.mpr (by rw [hwl]; exact z)
        rw [this] at k; cases k
      have e : hnd true ws ⟨tk, p, q, at_, sl⟩ = ⟨tk, p, q, at_, sl⟩ := by
        show (if p < q + sl.length ∧ p < ws.length then _ else _) = _
        rw [if_neg hq]
      rw [e] at h
      exact h
theorem red_word_step : ∀ ts P, sp_word_step a ts P → w_word_step a (fin pm_word_step ts P) (Zl.entry 5 ts) := by
  rintro _ P ⟨s, pl, ws, ⟨tk, p, q, at_, sl⟩, rfl, ft, gd, e2, h⟩
  have hp := ft.pos
  have hw := ft.wfew
  have h0 := gd.sl; have h1 := gd.qp; have h2 := gd.pn; have h3 := gd.tkl; have h4 := gd.rd2 e2
  simp only at h0 h1 h2 h3 h4
  have hs0 : 0 < sl.length := by omega
  have htl : tk.length ≤ 10000 := by omega
  refine ⟨fun _ => ?_, fun k => noF k⟩
  cases s
  · refine ⟨fun k => noT k, fun _ => ?_⟩
    simp only [Bool.false_eq_true, if_false] at h4
    refine ⟨rfl, rfl, tk, p, q, at_, sl, iL ws, p - 1, wd ws (p - 1), ?_, hs0, iL_at (by omega), ?_⟩
    · show [ply a tk p q at_ sl, T.fz (.int ((p : Int) - 1)), T.fz (.lst (iL ws))] = _
      rw [show (p : Int) - 1 = ((p - 1 : Nat) : Int) by omega]
    · exact h
  · refine ⟨fun _ => ?_, fun k => noF k⟩
    simp only [if_true] at h4
    refine ⟨rfl, rfl, tk, p, q, at_, sl, q - 1, so sl (q - 1), ?_, hs0, so_at hs0, szl htl, ?_⟩
    · show [ply a tk p q at_ sl, T.fz (.int ((q : Int) - 1))] = _
      rw [show (q : Int) - 1 = ((q - 1 : Nat) : Int) by omega]
    · exact h
theorem red_main_step : ∀ ts P, sp_main_step a ts P → w_main_step a (fin pm_main_step ts P) (Zl.entry 5 ts) := by
  rintro _ P ⟨s, pl, ws, ⟨tk, p, q, at_, sl⟩, rfl, ft, gd, h⟩
  have hp := ft.pos
  have hw := ft.wfew
  have h0 := gd.sl; have h5 := gd.at_
  simp only at h0 h5
  have hwl : (iL ws).length = ws.length := List.length_map ..
  have hat : at_ = 0 ∨ at_ = 1 ∨ at_ = 2 := by omega
  rcases hat with e0 | e0 | e0
  · subst e0
    refine ⟨rfl, fun _ => ?_, fun k => noF k⟩
    have fin : ∀ b : Bool, (b = true ↔ rdy s ws ⟨tk, p, q, 0, sl⟩) → P (.fz .non) [ply a tk p q (if b = true then 1 else 0) sl, .fz (sd s), .fz (.str "count"), .fz (.lst (iL ws))] := fun b hb => by
      have e : stp s ws ⟨tk, p, q, 0, sl⟩ = ⟨tk, p, q, if b = true then 1 else 0, sl⟩ := by
        show (⟨tk, p, q, if rdy s ws ⟨tk, p, q, 0, sl⟩ then 1 else 0, sl⟩ : Pl) = _
        by_cases r : rdy s ws ⟨tk, p, q, 0, sl⟩
        · rw [if_pos r, if_pos (hb.mpr r)]
        · rw [if_neg r, if_neg fun z => r (hb.mp z)]
      rw [e] at h
      exact h
    cases s
    · refine ⟨fun k => noT k, fun _ => ?_⟩
      refine ⟨rfl, _, _, _, _, _, _, rfl, fun b hb => ⟨fun k => ⟨rfl, le_b rfl, ?_⟩, fun k => ⟨rfl, le_b rfl, ?_⟩⟩⟩
      · have := fin b (by rw [hb, hwl]; exact Iff.rfl)
        have k : b = true := k
        subst k
        exact this
      · have := fin b (by rw [hb, hwl]; exact Iff.rfl)
        have k : b = false := k
        subst k
        exact this
    · refine ⟨fun _ => ?_, fun k => noF k⟩
      refine ⟨rfl, _, _, _, _, _, rfl, fun b hb => ⟨fun k => ⟨rfl, le_b rfl, ?_⟩, fun k => ⟨rfl, le_b rfl, ?_⟩⟩⟩
      · have := fin b hb
        have k : b = true := k
        subst k
        exact this
      · have := fin b hb
        have k : b = false := k
        subst k
        exact this
  · subst e0
    refine ⟨rfl, fun k => noT k, fun _ => ?_⟩
    refine ⟨rfl, fun k => noT k, fun _ => ?_⟩
    cases s
    · refine ⟨fun k => noT k, fun _ => ?_⟩
      exact ⟨rfl, rfl, fun _ => ⟨rfl, le_b rfl, h⟩, fun k => noF k⟩
    · refine ⟨fun _ => ?_, fun k => noF k⟩
      exact ⟨rfl, rfl, fun _ => ⟨rfl, le_b rfl, h⟩, fun k => noF k⟩
  · subst e0
    refine ⟨rfl, fun k => noT k, fun _ => ?_⟩
    refine ⟨rfl, fun _ => ?_, fun k => noF k⟩
    refine ⟨rfl, s, pl, ws, _, rfl, ft, gd, rfl, ?_⟩
    cases s
    · exact ⟨rfl, fun k => noT k, fun _ => ⟨rfl, le_b rfl, h⟩⟩
    · exact ⟨rfl, fun k => noT k, fun _ => ⟨rfl, le_b rfl, h⟩⟩
theorem rng_get {n i : Nat} {d : D} (h : ((List.range n).map fun i : Nat => D.int i)[i]? = some d) : i < n ∧ d = .int i := by
  rw [List.getElem?_map] at h
  by_cases hi : i < n
  · rw [List.getElem?_range hi] at h; cases h; exact ⟨hi, rfl⟩
  · rw [List.getElem?_eq_none (by simpa using Nat.le_of_not_lt hi)] at h; cases h
theorem nL_get {bs : List Nat} {i : Nat} {d : D} (h : (nL bs)[i]? = some d) : ∃ b, bs[i]? = some b ∧ d = .int b := by
  rw [List.getElem?_map] at h
  cases e : bs[i]? with
  | none => rw [e] at h; cases h
  | some b => rw [e] at h; cases h; exact ⟨b, rfl, rfl⟩
theorem iL_get {bs : List Int} {i : Nat} {d : D} (h : (iL bs)[i]? = some d) : ∃ b, bs[i]? = some b ∧ d = .int b := by
  rw [List.getElem?_map] at h
  cases e : bs[i]? with
  | none => rw [e] at h; cases h
  | some b => rw [e] at h; cases h; exact ⟨b, rfl, rfl⟩
theorem red_ring_played : ∀ ts P, sp_ring_played a ts P → w_ring_played a (fin pm_ring_played ts P) (Zl.entry 8 ts) := by
  rintro _ P ⟨s, pl, bs, ws, rfl, ft, hb, h⟩
  refine ⟨rfl, _, rfl, ft.few, rfl, ?_⟩
  have e0 : plS a (pl0 pl) = plS a (runB s pl ws (bs.take 0)) := rfl
  rw [e0]
  refine for_inv (fun i e => ∃ o o', e = [some (.fz (.int pl)), some (.fz (sd s)), some (.fz (.str "count")), some (.fz (.lst (nL bs))), some (.fz (.lst (iL ws))), some (plS a (runB s pl ws (bs.take i))), o, o']) ?_ ?_ ?_ ?_
  · exact ⟨none, none, rfl⟩
  · rintro i e ⟨o, o', rfl⟩
    rfl
  · rintro i d e hd ⟨o, o', rfl⟩ K hK
    obtain ⟨b, hbs, rfl⟩ := nL_get hd
    have hb1 := hb b (List.mem_of_getElem? hbs)
    refine ⟨⟨by omega, by omega⟩, ?_⟩
    refine for_inv (fun j e => ∃ o', e = [some (.fz (.int pl)), some (.fz (sd s)), some (.fz (.str "count")), some (.fz (.lst (nL bs))), some (.fz (.lst (iL ws))), some (plS a (hnds s ws j (runB s pl ws (bs.take i)))), some (.fz (.int b)), o']) ?_ ?_ ?_ ?_
    · exact ⟨o', rfl⟩
    · intros; trivial
    · rintro j d e hd ⟨o', rfl⟩ K2 hK2
      refine ⟨rfl, s, pl, ws, _, rfl, ft, good_hnds ft.pos _ (good_run ft.pos _), hK2 _ ⟨some (.fz d), ?_⟩⟩
      rw [hnds_succ]
      rfl
    · rintro e ⟨o', rfl⟩
      refine ⟨rfl, s, pl, ws, _, rfl, ft, good_hnds ft.pos _ (good_run ft.pos _), hK _ ⟨some (.fz (.int b)), o', ?_⟩⟩
      rw [run_succ hbs, List.length_map, List.length_range, Int.toNat_natCast]
      rfl
  · rintro e ⟨o, o', rfl⟩
    rw [List.length_map, List.take_length]
    exact h
theorem enum_get {xs : List D} {i : Nat} {d : D} (h : (enumD xs)[i]? = some d) : ∃ x, xs[i]? = some x ∧ d = .tup [.int i, x] := by
  unfold enumD at h
  rw [List.getElem?_mapIdx] at h
  cases e : xs[i]? with
  | none => rw [e] at h; cases h
  | some x => rw [e] at h; cases h; exact ⟨x, rfl, rfl⟩
theorem red_ring_fault : ∀ ts P, sp_ring_fault ts P → w_ring_fault (fin pm_ring_fault ts P) (Zl.entry 4 ts) := by
  rintro _ P ⟨ws, tk, i, rfl, ha, h⟩
  refine for_inv (fun j e => j ≤ i ∧ ∃ o o', e = [some (.fz (.lst (iL ws))), some (.fz (.lst tk)), o, o']) ⟨Nat.zero_le _, none, none, rfl⟩ ?_ ?_ ?_
  · rintro j e ⟨_, o, o', rfl⟩; rfl
  · rintro j d e hd ⟨hj, o, o', rfl⟩ K hK
    obtain ⟨x, hx, rfl⟩ := enum_get hd
    have hlt := (List.getElem?_eq_some_iff.mp hx).1
    by_cases hji : j = i
    · subst hji
      have h2 : P (.fz (.int j)) [.fz (.lst (iL ws)), .fz (.lst tk)] := by
        unfold ixD at h; rw [if_pos hlt] at h; exact h
      refine ⟨fun _ => ⟨fun _ => h2, fun k => noF k⟩, fun k => ?_⟩
      have k : ¬ (((iL ws).length : Int) ≤ (j : Int)) := of_decide_eq_false k
      rw [List.length_map] at k
      rcases (ha.off x hx).2 with z | ⟨w, hw, z⟩
      · omega
      · have hw' : (iL ws)[j]? = some (.int w) := by rw [List.getElem?_map, hw]; rfl
        conv => whnf
        rw [atI_nat hw']
        rcases z with rfl | ⟨v, rfl, hv⟩
        · exact ⟨fun _ => h2, fun k => noF k⟩
        · refine ⟨fun _ => h2, fun k => ?_⟩
          have k : (!decide (v = w)) = false := k
          rw [decide_eq_false hv] at k
          cases k
    · obtain ⟨w, hw, hx'⟩ := ha.same j (by omega)
      rw [hx] at hx'; cases hx'
      have hw' : (iL ws)[j]? = some (.int w) := by rw [List.getElem?_map, hw]; rfl
      have hlt := (List.getElem?_eq_some_iff.mp hw).1
      refine ⟨fun k => ?_, fun k => ?_⟩
      · have k : ((iL ws).length : Int) ≤ (j : Int) := of_decide_eq_true k
        rw [List.length_map] at k
        omega
      · conv => whnf
        rw [atI_nat hw']
        exact ⟨fun k => noE (k := decide (w = w)) k (decide_eq_true rfl), fun _ => hK _ ⟨by omega, _, _, rfl⟩⟩
  · rintro e ⟨hj, o, o', rfl⟩
    have : ¬ i < tk.length := by
      unfold enumD at hj
      rw [List.length_mapIdx] at hj
      omega
    unfold ixD at h
    rw [if_neg this] at h
    exact h
theorem red_wrong_blocks : ∀ ts P, sp_wrong_blocks ts P → w_wrong_blocks (fin pm_wrong_blocks ts P) (Zl.entry 2 ts) := by
  rintro _ P ⟨s, pl, rfl, h⟩
  cases s
  · exact ⟨fun k => noT k, fun _ => ⟨by decide, h⟩⟩
  · exact ⟨fun _ => ⟨le_b rfl, h⟩, fun k => noF k⟩
end

theorem getD_map {ws : List Int} {k : Nat} (h : k < ws.length) : (iL ws)[k]? = some (.int (ws.getD k 0)) := iL_at h

theorem red_law_tape : ∀ ts P, sp_law_tape ts P → w_law_tape (fin pm_law_tape ts P) (Zl.entry 7 ts) := by
  rintro _ P ⟨sc, rfl, hsc, h⟩
  refine ⟨Nat.zero_le _, cmR rfl, ⟨by decide, by decide⟩, ?_⟩
  refine for_inv (fun i e => ∃ (seed : Int) (o : Option T), e = [some (.fz (.rol (iL sc))), some (.lst []), some (.fz (.int seed)), o, none, none, none]) ⟨_, _, rfl⟩ ?_ ?_ ?_
  · intros; trivial
  · rintro i d e hd ⟨seed, o, rfl⟩ K hK
    obtain ⟨hi, rfl⟩ := rng_get hd
    refine ⟨fun k => ?_, fun k => hK _ ⟨_, _, rfl⟩⟩
    have k : (i : Int) < (iL sc).length := of_decide_eq_true k
    rw [List.length_map] at k
    have hx : (iL sc)[i]? = some (.int (sc.getD i 0)) := getD_map (by omega)
    refine ⟨cmR rfl, ?_⟩
    conv => whnf
    rw [atI_nat hx]
    exact ⟨by decide, hK _ ⟨_, _, rfl⟩⟩
  rintro e ⟨seed, o, rfl⟩
  refine ⟨⟨by decide, by decide⟩, ?_⟩
  refine for_inv (fun i e => ∃ (seed : Int) (rs : List D) (o : Option T), AllI rs ∧ rs.length = i ∧ e = [some (.fz (.rol (iL sc))), some (.lst rs), some (.fz (.int seed)), o, none, none, none]) ⟨_, _, _, .nil, rfl, rfl⟩ ?_ ?_ ?_
  · intros; trivial
  · rintro i d e hd ⟨seed, rs, o, ha, hr, rfl⟩ K hK
    obtain ⟨hi, rfl⟩ := rng_get hd
    have hi : i < 420 := hi
    exact ⟨cmR rfl, cmL rfl, by decide, trivial, ⟨by decide, by decide⟩, szl (by omega), hK _ ⟨_, _, _, ha.add, len_addE hr, rfl⟩⟩
  rintro e ⟨seed, rs, o, ha, hr, rfl⟩
  have hr : rs.length = 420 := hr
  refine ⟨⟨by decide, by decide⟩, ?_⟩
  refine for_inv (fun i e => ∃ (rs : List D) (o3 o4 o5 o6 : Option T), AllI rs ∧ rs.length ≤ 420 + i * 24 ∧ e = [some (.fz (.rol (iL sc))), some (.lst rs), some (.fz (.int seed)), o3, o4, o5, o6]) ⟨_, _, _, _, _, ha, by omega, rfl⟩ ?_ ?_ ?_
  · intros; trivial
  · rintro i d e hd ⟨rs, o3, o4, o5, o6, ha, hr, rfl⟩ K hK
    obtain ⟨hi, rfl⟩ := rng_get hd
    have hi : i < 63 := hi
    refine ⟨fun k => ?_, fun k => hK _ ⟨_, _, _, _, _, ha, by omega, rfl⟩⟩
    have k : (i : Int) < (iL sc).length := of_decide_eq_true k
    rw [List.length_map] at k
    have hx : (iL sc)[i]? = some (.int (sc.getD i 0)) := getD_map (by omega)
    conv => whnf
    rw [atI_nat hx]
    refine ⟨⟨by decide, by decide, by decide⟩, fun _ => ?_, fun _ => ?_⟩
    · refine ⟨⟨by decide, by decide⟩, ?_⟩
      refine for_inv (fun j e => ∃ (cell : Int) (rs : List D) (o5 : Option T), AllI rs ∧ rs.length ≤ 420 + i * 24 + j ∧ e = [some (.fz (.rol (iL sc))), some (.lst rs), some (.fz (.int seed)), some (.fz (.int i)), some (.fz (.int cell)), o5, o6]) ⟨_, _, _, ha, by omega, rfl⟩ ?_ ?_ ?_
      · intros; trivial
      · rintro j d e hd ⟨cell, rs, o5, ha, hr, rfl⟩ K2 hK2
        obtain ⟨hj, rfl⟩ := rng_get hd
        have hj : j < 24 := hj
        refine ⟨fun _ => ?_, fun _ => hK2 _ ⟨_, _, _, ha, by omega, rfl⟩⟩
        exact ⟨trivial, by decide, szl (by omega), ⟨by decide, by decide⟩, hK2 _ ⟨_, _, _, ha.add, len_add hr, rfl⟩⟩
      · rintro e ⟨cell, rs, o5, ha, hr, rfl⟩
        have hr : rs.length ≤ 420 + i * 24 + 24 := hr
        exact hK _ ⟨_, _, _, _, _, ha, by omega, rfl⟩
    · have h2 : ∀ x : D, (rs ++ [x]).length ≤ 420 + i * 24 + 1 := fun x => len_add hr
      exact ⟨cmR rfl, cmR rfl, by decide, trivial, cmR rfl, by decide, ⟨by decide, by decide⟩, szl (by omega), trivial, cmR rfl, by decide, ⟨by decide, by decide⟩, szl (Nat.le_trans (h2 _) (by omega)), hK _ ⟨_, _, _, _, _, ha.add.add, Nat.le_trans (len_add (h2 _)) (by omega), rfl⟩⟩
  rintro e ⟨rs, o3, o4, o5, o6, ⟨ns, rfl⟩, hr, rfl⟩
  have hr : (ns.map D.int).length ≤ 420 + 63 * 24 := hr
  rw [List.length_map] at hr
  exact h ns (by omega)

theorem red_law_draw : ∀ ts P, sp_law_draw ts P → w_law_draw (fin pm_law_draw ts P) (Zl.entry 2 ts) := by
  rintro _ P ⟨rs, n, rfl, hr, hn, h⟩
  refine ⟨fun k => h 0 rs (Int.le_refl 0) hn hr, fun k => ?_⟩
  have k : ¬ ((iL rs).length : Int) = 0 := of_decide_eq_false k
  rw [List.length_map] at k
  refine ⟨trivial, ?_⟩
  rcases List.eq_nil_or_concat rs with e | ⟨r0, x, e⟩
  · subst e; exact absurd rfl k
  · rw [List.concat_eq_append] at e
    subst e
    conv => whnf
    rw [show (iL (r0 ++ [x])).getLast? = some (.int x) by simp [iL]]
    refine ⟨hn, ?_⟩
    have := h (x % n) r0 (Int.emod_nonneg _ (by omega)) (Int.emod_lt_of_pos _ hn) (by simp at hr; omega)
    rw [show iL r0 = (iL (r0 ++ [x])).dropLast by simp [iL]] at this
    exact this
theorem red_law_cells : ∀ ts P, sp_law_cells ts P → w_law_cells (fin pm_law_cells ts P) (Zl.entry 5 ts) := by
  rintro _ P ⟨rs, n, rfl, hr, hn, h⟩
  refine ⟨fun k => ⟨⟨by omega, by omega⟩, ?_⟩, fun k => ?_⟩
  · refine lc_inv0 (fun i acc e => AllI acc ∧ acc.length = i ∧ ∃ rs : List Int, rs.length ≤ 4000 ∧ e = [some (.lst (iL rs)), some (.fz (.int n)), none, none, none]) ⟨.nil, rfl, rs, hr, rfl⟩ ?_ ?_ ?_
    · intros; trivial
    · rintro i d acc e hd ⟨ha, hl, rs, hr, rfl⟩ K hK
      obtain ⟨hi, rfl⟩ := rng_get hd
      rw [Int.toNat_natCast] at hi
      refine ⟨fun _ => ⟨rfl, rs, 5040, rfl, hr, by decide, fun r rs' h0 h1 h2 => ⟨szl (by omega), hK _ _ ⟨ha.add, len_addE hl, rs', h2, rfl⟩⟩⟩, fun k => noF k⟩
    · rintro acc e ⟨⟨ns, rfl⟩, hl, rs, hr, rfl⟩
      rw [List.length_map, List.length_map, List.length_range, Int.toNat_natCast] at hl
      exact h ns rs hl hr
  · refine ⟨rfl, rs, 2147483647, rfl, hr, by decide, fun r rs h0 h1 hr => ⟨Nat.zero_le _, ⟨⟨by omega, by omega⟩, ?_⟩⟩⟩
    refine for_inv (fun i e => ∃ (seed : Int) (acc : List D) (o : Option T), AllI acc ∧ acc.length = i ∧ e = [some (.lst (iL rs)), some (.fz (.int n)), o, some (.fz (.int seed)), some (.lst acc)]) ⟨_, _, _, .nil, rfl, rfl⟩ ?_ ?_ ?_
    · intros; trivial
    · rintro i d e hd ⟨seed, acc, o, ha, hl, rfl⟩ K hK
      obtain ⟨hi, rfl⟩ := rng_get hd
      rw [Int.toNat_natCast] at hi
      exact ⟨cmR rfl, cmL rfl, by decide, trivial, ⟨by decide, by decide⟩, szl (by omega), hK _ ⟨_, _, _, ha.add, len_addE hl, rfl⟩⟩
    · rintro e ⟨seed, acc, o, ⟨ns, rfl⟩, hl, rfl⟩
      rw [List.length_map, List.length_map, List.length_range, Int.toNat_natCast] at hl
      exact h ns rs hl hr
/-- one of the items of a list written down, by a draw -/
theorem atI_lt {xs : List D} {r : Int} (h0 : 0 ≤ r) (h1 : r < xs.length) : ∃ d, d ∈ xs ∧ atI xs r = some d := by
  obtain ⟨n, rfl⟩ := Int.eq_ofNat_of_zero_le h0
  have hn : n < xs.length := by omega
  exact ⟨xs[n], List.getElem_mem hn, atI_nat (List.getElem?_eq_getElem hn)⟩
theorem red_law_words : ∀ ts P, sp_law_words ts P → w_law_words (fin pm_law_words ts P) (Zl.entry 5 ts) := by
  rintro _ P ⟨rs, rfl, hr, h⟩
  refine ⟨by decide, rfl, rs, 2, rfl, hr, by decide, fun r rs h0 h1 hr => ?_⟩
  obtain ⟨d, hd, ed⟩ := atI_lt (xs := [.int 13, .int 201]) h0 (by simpa using h1)
  obtain ⟨n, rfl, hn0, hn⟩ : ∃ n : Int, d = .int n ∧ 0 < n ∧ n ≤ 201 := by
    simp only [List.mem_cons, List.not_mem_nil, or_false] at hd
    rcases hd with rfl | rfl
    · exact ⟨_, rfl, by decide, by decide⟩
    · exact ⟨_, rfl, by decide, by decide⟩
  conv => whnf
  rw [show atI [(T.fz (.int 13)).fr, (T.fz (.int 201)).fr] r = _ from ed]
  refine ⟨rfl, rs, n, rfl, hr, hn0, fun r rs h0 h1 hr => ?_⟩
  obtain ⟨c, rfl⟩ := Int.eq_ofNat_of_zero_le h0
  refine ⟨rfl, rs, c, rfl, hr, by omega, fun cs rs hc hr => ?_⟩
  refine ⟨rfl, rs, 3, rfl, hr, by decide, fun way rs h0 h1 hr => ⟨Nat.zero_le _, ?_⟩⟩
  refine ⟨⟨by rw [List.length_map]; omega, by rw [List.length_map]; omega⟩, ?_⟩
  refine for_inv (fun i e => ∃ (acc : List D) (o : Option T), AllI acc ∧ acc.length = i ∧ e = [some (.lst (iL rs)), some (.lst (iL cs)), some (.fz (.int way)), some (.lst acc), o]) ⟨_, _, .nil, rfl, rfl⟩ ?_ ?_ ?_
  · intros; trivial
  · rintro i d e hd ⟨acc, o, ha, hl, rfl⟩ K hK
    obtain ⟨hi, rfl⟩ := rng_get hd
    rw [Int.toNat_natCast, List.length_map] at hi
    have hx : (iL cs)[i]? = some (.int (cs.getD i 0)) := getD_map hi
    refine ⟨fun _ => ?_, fun _ => ⟨fun _ => ?_, fun _ => ?_⟩⟩
    · refine ⟨trivial, ?_⟩
      conv => whnf
      rw [atI_nat hx]
      exact ⟨by decide, szl (by omega), hK _ ⟨_, _, ha.add, len_addE hl, rfl⟩⟩
    · refine ⟨trivial, cmL rfl, ?_⟩
      conv => whnf
      rw [atI_nat hx]
      exact ⟨by decide, szl (by omega), hK _ ⟨_, _, ha.add, len_addE hl, rfl⟩⟩
    · refine ⟨trivial, ?_⟩
      conv => whnf
      rw [atI_nat hx]
      exact ⟨by decide, ⟨by decide, by decide, by decide⟩, cmR rfl, szl (by omega), hK _ ⟨_, _, ha.add, len_addE hl, rfl⟩⟩
  · rintro e ⟨acc, o, ⟨ns, rfl⟩, hl, rfl⟩
    rw [List.length_map, List.length_map, List.length_range, Int.toNat_natCast, List.length_map] at hl
    exact h ns rs (by omega) hr
/-- all of them ints from 0 to 1000 -/
def AllN (ds : List D) : Prop := ∃ rs : List Nat, (∀ b ∈ rs, b ≤ 1000) ∧ ds = nL rs
theorem AllN.add {ds : List D} {x : Int} (h : AllN ds) (h0 : 0 ≤ x) (h1 : x ≤ 1000) : AllN (ds ++ [D.int x]) := by
  obtain ⟨rs, hb, rfl⟩ := h
  obtain ⟨n, rfl⟩ := Int.eq_ofNat_of_zero_le h0
  refine ⟨rs ++ [n], fun b hb' => ?_, by simp [nL]⟩
  rcases List.mem_append.mp hb' with z | z
  · exact hb b z
  · rw [List.mem_singleton.mp z]; omega
theorem red_law_blocks : ∀ ts P, sp_law_blocks ts P → w_law_blocks (fin pm_law_blocks ts P) (Zl.entry 6 ts) := by
  rintro _ P ⟨rs, pl, rfl, hr, hpl, h⟩
  refine ⟨by decide, rfl, rs, 3, rfl, hr, by decide, fun r rs h0 h1 hr => ?_⟩
  obtain ⟨d, hd, ed⟩ := atI_lt (xs := [.int 13, .int 41, .int 201]) h0 (by simpa using h1)
  obtain ⟨n, rfl, hn0, hn⟩ : ∃ n : Int, d = .int n ∧ 0 < n ∧ n ≤ 201 := by
    simp only [List.mem_cons, List.not_mem_nil, or_false] at hd
    rcases hd with rfl | rfl | rfl
    · exact ⟨_, rfl, by decide, by decide⟩
    · exact ⟨_, rfl, by decide, by decide⟩
    · exact ⟨_, rfl, by decide, by decide⟩
  conv => whnf
  rw [show atI [(T.fz (.int 13)).fr, (T.fz (.int 41)).fr, (T.fz (.int 201)).fr] r = _ from ed]
  refine ⟨rfl, rs, n, rfl, hr, hn0, fun r rs h0 h1 hr => ?_⟩
  obtain ⟨c, rfl⟩ := Int.eq_ofNat_of_zero_le h0
  refine ⟨rfl, rs, c, rfl, hr, by omega, fun cs rs hc hr => ⟨Nat.zero_le _, rfl, ?_⟩⟩
  refine for_inv (fun i e => ∃ (acc : List D) (o4 o5 : Option T), AllN acc ∧ acc.length = i ∧ e = [some (.lst (iL rs)), some (.fz (.int pl)), some (.lst (iL cs)), some (.lst acc), o4, o5]) ⟨_, _, _, ⟨[], by simp, rfl⟩, rfl, rfl⟩ ?_ ?_ ?_
  · rintro i e ⟨acc, o4, o5, _, _, rfl⟩; rfl
  · rintro i d e hd ⟨acc, o4, o5, ha, hl, rfl⟩ K hK
    obtain ⟨x, hx, rfl⟩ := iL_get hd
    have hi := (List.getElem?_eq_some_iff.mp hx).1
    obtain ⟨d, hd, ed⟩ := atI_lt (xs := [.int 2, .int 2, .int 2, .int 4, .int 4, .int ((pl : Int) + 3), .int ((pl : Int) + 3), .int 201]) (r := x / 16 % 8) (Int.emod_nonneg _ (by decide)) (Int.emod_lt_of_pos _ (by decide))
    obtain ⟨n, rfl, hn0, hn⟩ : ∃ n : Int, d = .int n ∧ 0 < n ∧ n ≤ 201 := by
      simp only [List.mem_cons, List.not_mem_nil, or_false] at hd
      rcases hd with rfl | rfl | rfl | rfl | rfl | rfl | rfl | rfl
      all_goals exact ⟨_, rfl, by omega, by omega⟩
    refine ⟨le_b rfl, ⟨by decide, by decide⟩, by decide, ?_⟩
    conv => whnf
    rw [show atI [(T.fz (.int 2)).fr, (T.fz (.int 2)).fr, (T.fz (.int 2)).fr, (T.fz (.int 4)).fr, (T.fz (.int 4)).fr, (T.fz (.int ((pl : Int) + 3))).fr, (T.fz (.int ((pl : Int) + 3))).fr, (T.fz (.int 201)).fr] (x / 16 % 8) = _ from ed]
    refine ⟨trivial, hn0, szl (by omega), hK _ ⟨_, _, _, ha.add (Int.emod_nonneg x (by omega)) ?_, len_addE hl, rfl⟩⟩
    have := Int.emod_lt_of_pos x hn0
    omega
  · rintro e ⟨acc, o4, o5, ⟨ns, hb, rfl⟩, hl, rfl⟩
    rw [List.length_map, List.length_map] at hl
    exact h ns rs (by omega) hb hr
theorem red_law_is : ∀ ts P, sp_law_is ts P → w_law_is (fin pm_law_is ts P) (Zl.entry 2 ts) := by
  rintro _ P ⟨i, j, rfl, h⟩
  exact ⟨rfl, fun _ => ⟨rfl, fun _ => h, fun k => noF k⟩, fun k => noF k⟩

theorem red_law_same : ∀ ts P, sp_law_same ts P → w_law_same (fin pm_law_same ts P) (Zl.entry 3 ts) := by
  rintro _ P ⟨xs, rfl, hl, hx, h⟩
  refine ⟨rfl, fun k => noT k, fun _ => ⟨fun k => noE (k := decide ((xs.length : Int) = xs.length)) k (decide_eq_true rfl), fun _ => ⟨⟨by omega, by omega⟩, ?_⟩⟩⟩
  refine for_inv (fun i e => ∃ (o : Option T), e = [some (.fz (.lst xs)), some (.fz (.lst xs)), o]) ⟨_, rfl⟩ ?_ ?_ ?_
  · intros; trivial
  · rintro i d e hd ⟨o, rfl⟩ K hK
    obtain ⟨hi, rfl⟩ := rng_get hd
    rw [Int.toNat_natCast] at hi
    have hx1 := List.getElem?_eq_getElem hi
    have hw : isW xs[i] = true := (List.all_eq_true.mp hx) _ (List.getElem_mem hi)
    generalize xs[i] = d at *
    conv => whnf
    rw [atI_nat hx1]
    cases d <;> cases hw
    · refine ⟨fun _ => ?_, fun k => noF k⟩
      conv => whnf
      rw [atI_nat hx1]
      refine ⟨fun k => noT k, fun _ => ?_⟩
      conv => whnf
      rw [atI_nat hx1]
      exact ⟨fun k => noT k, fun _ => ⟨fun k => noT k, fun _ => hK _ ⟨_, rfl⟩⟩⟩
    · rename_i v
      refine ⟨fun k => noT k, fun _ => ⟨fun k => noT k, fun _ => ?_⟩⟩
      conv => whnf
      rw [atI_nat hx1]
      refine ⟨fun _ => ?_, fun k => noF k⟩
      conv => whnf
      rw [atI_nat hx1]
      conv => whnf
      rw [atI_nat hx1]
      refine ⟨rfl, v, v, rfl, ⟨fun k => noE (k := decide (v = v)) k (decide_eq_true rfl), fun _ => hK _ ⟨_, rfl⟩⟩⟩
  · rintro e ⟨o, rfl⟩
    exact h
theorem red_law_told : ∀ ts P, sp_law_told ts P → w_law_told (fin pm_law_told ts P) (Zl.entry 2 ts) := by
  rintro _ P ⟨d, rfl, hd, h⟩
  cases d <;> cases hd
  · exact ⟨fun _ => h, fun k => noF k⟩
  · rename_i v
    refine ⟨fun k => noT k, fun _ => ⟨rfl, v, v, rfl, ?_⟩⟩
    rw [decide_eq_true rfl]
    exact h
theorem red_law_fault : ∀ ts P, sp_law_fault ts P → w_law_fault (fin pm_law_fault ts P) (Zl.entry 3 ts) := by
  rintro _ P ⟨ws, tk, i, rfl, hl, ha, h⟩
  refine ⟨⟨by omega, by omega⟩, ?_⟩
  refine for_inv (fun j e => j ≤ i ∧ ∃ o, e = [some (.lst (iL ws)), some (.fz (.lst tk)), o]) ⟨Nat.zero_le _, none, rfl⟩ ?_ ?_ ?_
  · intros; trivial
  · rintro j d e hd ⟨hj, o, rfl⟩ K hK
    obtain ⟨hlt, rfl⟩ := rng_get hd
    rw [Int.toNat_natCast] at hlt
    have hx := List.getElem?_eq_getElem hlt
    generalize tk[j] = x at *
    by_cases hji : j = i
    · subst hji
      have h2 : P (.fz (.int j)) [.lst (iL ws), .fz (.lst tk)] := by
        unfold ixD at h; rw [if_pos hlt] at h; exact h
      refine ⟨fun _ => ⟨fun _ => h2, fun k => noF k⟩, fun k => ?_⟩
      have k : ¬ (((iL ws).length : Int) ≤ (j : Int)) := of_decide_eq_false k
      rw [List.length_map] at k
      have hoff := ha.off x hx
      conv => whnf
      rw [atI_nat hx]
      rcases hoff.2 with z | ⟨w, hw, z⟩
      · omega
      · have hw' : (iL ws)[j]? = some (.int w) := by rw [List.getElem?_map, hw]; rfl
        rcases z with rfl | ⟨v, rfl, hv⟩
        · exact ⟨fun _ => ⟨fun _ => h2, fun k => noF k⟩, fun k => noF k⟩
        · refine ⟨fun k => noT k, fun _ => ?_⟩
          conv => whnf
          rw [atI_nat hx]
          conv => whnf
          rw [atI_nat hw']
          refine ⟨fun _ => h2, fun k => ?_⟩
          have k : (!decide (v = w)) = false := k
          rw [decide_eq_false hv] at k
          cases k
    · obtain ⟨w, hw, hx'⟩ := ha.same j (by omega)
      rw [hx] at hx'; cases hx'
      have hw' : (iL ws)[j]? = some (.int w) := by rw [List.getElem?_map, hw]; rfl
      have hlt2 := (List.getElem?_eq_some_iff.mp hw).1
      refine ⟨fun k => ?_, fun k => ?_⟩
      · have k : ((iL ws).length : Int) ≤ (j : Int) := of_decide_eq_true k
        rw [List.length_map] at k
        omega
      · conv => whnf
        rw [atI_nat hx]
        refine ⟨fun k => noT k, fun _ => ?_⟩
        conv => whnf
        rw [atI_nat hx]
        conv => whnf
        rw [atI_nat hw']
        exact ⟨fun k => noE (k := decide (w = w)) k (decide_eq_true rfl), fun _ => hK _ ⟨by omega, _, rfl⟩⟩
  · rintro e ⟨hj, o, rfl⟩
    have : ¬ i < tk.length := by
      rw [List.length_map, List.length_range, Int.toNat_natCast] at hj
      omega
    unfold ixD at h
    rw [if_neg this] at h
    exact h
/-- every row of ints and Nones has a first fault, or none -/
theorem astray_ex (ws : List Int) : ∀ (tk : List D), tk.all isW = true → ∃ i, Astray ws tk i := by
  intro tk htk
  let bad : Nat → Prop := fun i => ∃ d, tk[i]? = some d ∧ (ws.length ≤ i ∨ ∃ w, ws[i]? = some w ∧ (d = .non ∨ ∃ v, d = .int v ∧ v ≠ w))
  have wI : ∀ (i : Nat) (d : D), tk[i]? = some d → d = .non ∨ ∃ v, d = .int v := fun i d h => by
    have := List.all_eq_true.mp htk d (List.mem_of_getElem? h)
    cases d <;> cases this
    · exact .inl rfl
    · exact .inr ⟨_, rfl⟩
  have good : ∀ i, i < tk.length → ¬ bad i → ∃ w, ws[i]? = some w ∧ tk[i]? = some (.int w) := fun i hi hb => by
    have hx := List.getElem?_eq_getElem hi
    by_cases hw : ws.length ≤ i
    · exact absurd ⟨_, hx, .inl hw⟩ hb
    · have hg := List.getElem?_eq_getElem (Nat.lt_of_not_le hw)
      refine ⟨_, hg, ?_⟩
      rcases wI i _ hx with z | ⟨v, z⟩
      · exact absurd ⟨_, hx, .inr ⟨_, hg, .inl z⟩⟩ hb
      · by_cases e : v = ws[i]
        · rw [hx, z, e]
        · exact absurd ⟨_, hx, .inr ⟨_, hg, .inr ⟨v, z, e⟩⟩⟩ hb
  classical
  suffices h : ∀ n i, i + n = tk.length → (∀ j, j < i → ∃ w, ws[j]? = some w ∧ tk[j]? = some (.int w)) → ∃ i, Astray ws tk i from h tk.length 0 (by omega) (fun j hj => absurd hj (Nat.not_lt_zero _))
  intro n
  induction n with
  | zero => intro i e hs; exact ⟨i, by omega, hs, fun d hd => by rw [List.getElem?_eq_none (by omega)] at hd; cases hd⟩
  | succ n ih =>
    intro i e hs
    by_cases b : bad i
    · refine ⟨i, by omega, hs, fun d hd => ?_⟩
      obtain ⟨d', h1, h2⟩ := b
      rw [hd] at h1; cases h1
      exact ⟨wI i d hd, h2⟩
    · refine ih (i + 1) (by omega) fun j hj => ?_
      by_cases z : j = i
      · subst z; exact good j (by omega) b
      · exact hs j (by omega)
theorem ixD_W {tk : List D} {i : Nat} : isW (ixD tk i) = true := by
  unfold ixD; split <;> rfl

def numOk (s : Bool) (m : Pl) (num : Nat) : Prop := (m.at_ = 1 → num = if s then m.q else m.p) ∧ (m.at_ = 2 → num = if s then m.q - 1 else m.p - 1)
theorem hnd_at (s : Bool) (ws : List Int) (m : Pl) : (hnd s ws m).at_ = m.at_ := by
  unfold hnd; split <;> split <;> rfl
theorem numOk_hnd {s : Bool} {ws : List Int} {m : Pl} {num : Nat} (h : numOk s m num) : numOk s (hnd s ws m) num := by
  unfold numOk at *
  rw [hnd_at]
  cases s
  · have : (hnd false ws m).p = m.p := by
      show (if m.q < m.p then _ else m).p = _
      split <;> rfl
    simp only [Bool.false_eq_true, if_false] at h ⊢
    rw [this]; exact h
  · have : (hnd true ws m).q = m.q := by
      show (if m.p < m.q + m.sl.length ∧ m.p < ws.length then _ else m).q = _
      split <;> rfl
    simp only [if_true] at h ⊢
    rw [this]; exact h
theorem numOk_hnds {s : Bool} {ws : List Int} {num : Nat} : ∀ (k : Nat) {m : Pl}, numOk s m num → numOk s (hnds s ws k m) num
  | 0, _, h => h
  | k + 1, _, h => numOk_hnds k (numOk_hnd h)
abbrev lpE (s : Bool) (pl : Nat) (bs : List Nat) (ws : List Int) (m : Pl) (num : Nat) (o o' : Option T) : Ev :=
  [some (.fz (.int pl)), some (.fz (sd s)), some (.lst (nL bs)), some (.lst (iL ws)), some (.fz (.int m.p)), some (.fz (.int m.q)), some (.fz (.int m.at_)), some (.fz (.int num)), some (.lst m.sl), some (.lst m.tk), o, o']
theorem red_law_play : ∀ ts P, sp_law_play ts P → w_law_play (fin pm_law_play ts P) (Zl.entry 12 ts) := by
  rintro _ P ⟨s, pl, bs, ws, rfl, ft, hb, h⟩
  have hp := ft.pos
  have hpl := ft.few
  have hw := ft.wfew
  have hwl : (iL ws).length = ws.length := List.length_map ..
  have e0 : (List.replicate (pl : Int).toNat [(T.fz D.non).fr]).flatten = (pl0 pl).sl := by
    rw [Int.toNat_natCast]
    show _ = List.replicate pl D.non
    clear h hpl hp hb ft
    induction pl with
    | zero => rfl
    | succ n ih => rw [List.replicate_succ, List.flatten_cons, ih]; rfl
  refine ⟨by decide, ⟨by omega, by omega, ?_⟩, Nat.zero_le _, ?_⟩
  · show 1 * (pl : Int).toNat ≤ 2 ^ 24
    omega
  rw [e0]
  refine for_inv (fun i e => ∃ (num : Nat) (o o' : Option T) (m : Pl), runB s pl ws (bs.take i) = m ∧ numOk s m num ∧ e = lpE s pl bs ws m num o o') ⟨0, none, none, pl0 pl, rfl, ⟨fun z => absurd (show (0 : Nat) = 1 from z) (by decide), fun z => absurd (show (0 : Nat) = 2 from z) (by decide)⟩, rfl⟩ ?_ ?_ ?_
  · rintro i e ⟨num, o, o', m, _, _, rfl⟩; rfl
  · rintro i d e hd ⟨num, o, o', m, hm, hn, rfl⟩ K hK
    obtain ⟨b, hbs, rfl⟩ := nL_get hd
    have hb1 := hb b (List.mem_of_getElem? hbs)
    have g : Good s pl ws m := hm ▸ good_run hp _
    have hs := run_succ (s := s) (pl := pl) (ws := ws) hbs
    rw [hm] at hs
    refine wSeq_cut (fun e => ∃ o', e = lpE s pl bs ws (hnds s ws b m) num (some (.fz (.int b))) o') (fun K hK => ?_) ?_
    · refine ⟨⟨by omega, by omega⟩, ?_⟩
      refine for_inv (fun j e => ∃ o', e = lpE s pl bs ws (hnds s ws j m) num (some (.fz (.int b))) o') ⟨_, rfl⟩ ?_ ?_ ?_
      · intros; trivial
      · rintro j d e hd ⟨o', rfl⟩ K2 hK2
        have gm := good_hnds hp j g
        rw [hnds_succ] at hK2
        generalize hnds s ws j m = m1 at *
        obtain ⟨tk, p, q, at_, sl⟩ := m1
        have h0 := gm.sl; have h1 := gm.qp; have h2 := gm.pn; have h3 := gm.tkl
        simp only at h0 h1 h2 h3
        have hs0 : 0 < sl.length := by omega
        have htl : tk.length ≤ 10000 := by omega
        cases s
        · refine ⟨fun k => noT k, fun _ => ⟨fun k => noT k, fun _ => ⟨fun _ => ⟨fun k => ?_, fun k => ?_⟩, fun k => noF k⟩⟩⟩
          · have k : (q : Int) < p := of_decide_eq_true k
            have e : hnd false ws ⟨tk, p, q, at_, sl⟩ = ⟨tk ++ [so sl q], p, q + 1, at_, sl⟩ := by
              show (if q < p then _ else _) = _
              rw [if_pos (by omega)]
            rw [e] at hK2
            refine ⟨trivial, by omega, ?_⟩
            have e : (q : Int) % (pl : Int) = ((q % sl.length : Nat) : Int) := by rw [h0]; omega
            conv => whnf
            rw [show atI sl ((q : Int) % (pl : Int)) = some (so sl q) by rw [e]; exact atI_nat (so_at hs0)]
            exact ⟨szl htl, hK2 _ ⟨_, rfl⟩⟩
          · have k : ¬ (q : Int) < p := of_decide_eq_false k
            have e : hnd false ws ⟨tk, p, q, at_, sl⟩ = ⟨tk, p, q, at_, sl⟩ := by
              show (if q < p then _ else _) = _
              rw [if_neg (by omega)]
            rw [e] at hK2
            exact hK2 _ ⟨_, rfl⟩
        · have stay : ¬ (p < q + sl.length ∧ p < ws.length) → K2 (lpE true pl bs ws ⟨tk, p, q, at_, sl⟩ num (some (.fz (.int b))) (some (.fz d))) := fun z => by
            have e : hnd true ws ⟨tk, p, q, at_, sl⟩ = ⟨tk, p, q, at_, sl⟩ := by
              show (if p < q + sl.length ∧ p < ws.length then _ else _) = _
              rw [if_neg z]
            rw [e] at hK2
            exact hK2 _ ⟨_, rfl⟩
          refine ⟨fun _ => ⟨fun k1 => ⟨fun k2 => ?_, fun k2 => ?_⟩, fun k1 => ⟨fun k => noT k, fun _ => ?_⟩⟩, fun k => noF k⟩
          · have k1 : (p : Int) - q < pl := of_decide_eq_true k1
            have k2 : (p : Int) < (iL ws).length := of_decide_eq_true k2
            rw [hwl] at k2
            have e : hnd true ws ⟨tk, p, q, at_, sl⟩ = ⟨tk, p + 1, q, at_, sl.set (p % sl.length) (wd ws p)⟩ := by
              show (if p < q + sl.length ∧ p < ws.length then _ else _) = _
              rw [if_pos (by omega)]
            rw [e] at hK2
            conv => whnf
            rw [atI_nat (iL_at (ws := ws) (k := p) (by omega))]
            refine ⟨trivial, by omega, ?_⟩
            have e : (p : Int) % (pl : Int) = ((p % sl.length : Nat) : Int) := by rw [h0]; omega
            conv => whnf
            rw [show ixN sl.length ((p : Int) % (pl : Int)) = some (p % sl.length) by rw [e]; exact ixN_nat (Nat.mod_lt _ hs0)]
            exact ⟨fun k => noT k, fun _ => ⟨fun k => noT k, fun _ => hK2 _ ⟨_, rfl⟩⟩⟩
          · have k2 : ¬ (p : Int) < (iL ws).length := of_decide_eq_false k2
            rw [hwl] at k2
            exact ⟨fun k => noT k, fun _ => ⟨fun k => noT k, fun _ => stay (by omega)⟩⟩
          · have k1 : ¬ (p : Int) - q < pl := of_decide_eq_false k1
            exact ⟨fun k => noT k, fun _ => ⟨fun k => noT k, fun _ => stay (by omega)⟩⟩
      · rintro e ⟨o', rfl⟩
        rw [List.length_map, List.length_range, Int.toNat_natCast]
        exact hK _ ⟨_, rfl⟩
    rintro e ⟨o', rfl⟩
    have gm := good_hnds hp b g
    have nm := numOk_hnds (ws := ws) b hn
    generalize hnds s ws b m = m1 at *
    obtain ⟨tk, p, q, at_, sl⟩ := m1
    have h0 := gm.sl; have h1 := gm.qp; have h2 := gm.pn; have h3 := gm.tkl; have h4 := gm.at_; have h5 := gm.rd1; have h6 := gm.rd2; have n1 := nm.1; have n2 := nm.2
    simp only at h0 h1 h2 h3 h4 h5 h6 n1 n2
    have hs0 : 0 < sl.length := by omega
    have htl : tk.length ≤ 10000 := by omega
    have at3 : at_ = 0 ∨ at_ = 1 ∨ at_ = 2 := by omega
    rcases at3 with e | e | e
    · subst e
      have stay : ¬ rdy s ws ⟨tk, p, q, 0, sl⟩ → K (lpE s pl bs ws ⟨tk, p, q, 0, sl⟩ num (some (.fz (.int b))) o') := fun z => by
        have e : stp s ws ⟨tk, p, q, 0, sl⟩ = ⟨tk, p, q, 0, sl⟩ := by
          show (⟨tk, p, q, if rdy s ws ⟨tk, p, q, 0, sl⟩ then 1 else 0, sl⟩ : Pl) = _
          rw [if_neg z]
        rw [e] at hs
        exact hK _ ⟨num, _, _, _, hs, nm, rfl⟩
      have go : rdy s ws ⟨tk, p, q, 0, sl⟩ → K (lpE s pl bs ws ⟨tk, p, q, 1, sl⟩ (if s then q else p) (some (.fz (.int b))) o') := fun z => by
        have e : stp s ws ⟨tk, p, q, 0, sl⟩ = ⟨tk, p, q, 1, sl⟩ := by
          show (⟨tk, p, q, if rdy s ws ⟨tk, p, q, 0, sl⟩ then 1 else 0, sl⟩ : Pl) = _
          rw [if_pos z]
        rw [e] at hs
        exact hK _ ⟨_, _, _, _, hs, ⟨fun _ => rfl, fun z => absurd (show (1 : Nat) = 2 from z) (by decide)⟩, rfl⟩
      cases s
      · refine ⟨fun _ => ⟨fun k => noT k, fun _ => ⟨fun k => noT k, fun _ => ⟨fun _ => ⟨fun _ => ⟨fun k1 => ⟨fun k2 => ?_, fun k2 => ?_⟩, fun k1 => ⟨fun k => noT k, fun _ => ?_⟩⟩, fun k => noF k⟩, fun k => noF k⟩⟩⟩, fun k => noF k⟩
        · have k1 : (p : Int) - q < pl := of_decide_eq_true k1
          have k2 : (p : Int) < (iL ws).length := of_decide_eq_true k2
          rw [hwl] at k2
          exact go (show p < q + sl.length ∧ p < ws.length by omega)
        · have k2 : ¬ (p : Int) < (iL ws).length := of_decide_eq_false k2
          rw [hwl] at k2
          exact ⟨fun k => noT k, fun _ => ⟨fun k => noT k, fun _ => stay (show ¬ (p < q + sl.length ∧ p < ws.length) by omega)⟩⟩
        · have k1 : ¬ (p : Int) - q < pl := of_decide_eq_false k1
          exact ⟨fun k => noT k, fun _ => ⟨fun k => noT k, fun _ => stay (show ¬ (p < q + sl.length ∧ p < ws.length) by omega)⟩⟩
      · refine ⟨fun _ => ⟨fun _ => ⟨fun k => ?_, fun k => ?_⟩, fun k => noF k⟩, fun k => noF k⟩
        · have k : (q : Int) < p := of_decide_eq_true k
          exact go (show q < p by omega)
        · have k : ¬ (q : Int) < p := of_decide_eq_false k
          exact ⟨fun _ => ⟨fun k => noT k, fun _ => ⟨fun k => noT k, fun _ => ⟨fun k => noT k, fun _ => ⟨fun k => noT k, fun _ => stay (show ¬ q < p by omega)⟩⟩⟩⟩, fun k => noF k⟩
    · subst e
      have n1 := n1 rfl
      refine ⟨fun k => noT k, fun _ => ⟨fun k => noT k, fun _ => ⟨fun k => noT k, fun _ => ⟨fun k => noT k, fun _ => ⟨fun _ => ?_, fun k => noF k⟩⟩⟩⟩⟩
      cases s
      · exact ⟨fun k => noT k, fun _ => hK _ ⟨num, _, _, _, hs, ⟨fun z => absurd (show (2 : Nat) = 1 from z) (by decide), fun _ => by rw [n1]; rfl⟩, rfl⟩⟩
      · exact ⟨fun _ => hK _ ⟨num, _, _, _, hs, ⟨fun z => absurd (show (2 : Nat) = 1 from z) (by decide), fun _ => by rw [n1]; rfl⟩, rfl⟩, fun k => noF k⟩
    · subst e
      have n2 := n2 rfl
      have h6 := h6 rfl
      refine ⟨fun k => noT k, fun _ => ⟨fun k => noT k, fun _ => ⟨fun k => noT k, fun _ => ⟨fun k => noT k, fun _ => ⟨fun k => noT k, fun _ => ⟨fun _ => ?_, fun k => noF k⟩⟩⟩⟩⟩⟩
      have nx : ∀ z : Pl, z.at_ = 0 → numOk s z num := fun z hz => ⟨fun y => absurd (hz.symm.trans y) (by decide), fun y => absurd (hz.symm.trans y) (by decide)⟩
      have em : (num : Int) % (pl : Int) = ((num % sl.length : Nat) : Int) := by rw [h0]; omega
      cases s
      · simp only [Bool.false_eq_true, if_false] at n2 h6
        refine ⟨fun k => noT k, fun _ => ?_⟩
        conv => whnf
        rw [atI_nat (iL_at (ws := ws) (k := num) (by omega))]
        refine ⟨trivial, by omega, ?_⟩
        conv => whnf
        rw [show ixN sl.length ((num : Int) % (pl : Int)) = some (num % sl.length) by rw [em]; exact ixN_nat (Nat.mod_lt _ hs0)]
        refine hK _ ⟨num, some (.fz (.int b)), o', _, hs, nx _ rfl, ?_⟩
        subst n2
        rfl
      · simp only [if_true] at n2 h6
        refine ⟨fun _ => ⟨trivial, by omega, ?_⟩, fun k => noF k⟩
        conv => whnf
        rw [show atI sl ((num : Int) % (pl : Int)) = some (so sl num) by rw [em]; exact atI_nat (so_at hs0)]
        refine ⟨szl htl, hK _ ⟨num, some (.fz (.int b)), o', _, hs, nx _ rfl, ?_⟩⟩
        subst n2
        rfl
  · rintro e ⟨num, o, o', m, hm, hn, rfl⟩
    rw [List.length_map, List.take_length] at hm
    subst hm
    exact ⟨le_b rfl, h⟩

section
variable {a : Addr}
theorem red_law_right : ∀ ts P, sp_law_right a ts P → w_law_right a (fin pm_law_right ts P) (Zl.entry 3 ts) := by
  rintro _ P ⟨s, pl, ws, ⟨tk, p, q, at_, sl⟩, rfl, ft, gd, h⟩
  have hw := ft.wfew
  have hpl := ft.few
  have h0 := gd.sl; have h1 := gd.qp; have h2 := gd.pn; have h3 := gd.tkl; have h4 := gd.slW; have h5 := gd.tkW
  simp only at h0 h1 h2 h3 h4 h5
  obtain ⟨i, ha⟩ := astray_ex ws tk h5
  refine ⟨⟨rfl, rfl⟩, fun k => noT k, fun _ => ⟨rfl, rfl, p, p, rfl, ?_⟩⟩
  dsimp only [back, isFz, gt, st, cl, clsE, Zl.entry, T.fr, List.map, List.append, List.nil_append, List.cons_append, List.append_nil, List.replicate, List.length, Nat.reduceSub, Nat.reduceAdd, Nat.zero_add, cond_true, cond_false]
  refine ⟨fun k => noE (k := decide ((p : Int) = p)) k (decide_eq_true rfl), fun _ => ⟨rfl, rfl, q, q, rfl, ?_⟩⟩
  dsimp only [back, isFz, gt, st, cl, clsE, Zl.entry, T.fr, List.map, List.append, List.nil_append, List.cons_append, List.append_nil, List.replicate, List.length, Nat.reduceSub, Nat.reduceAdd, Nat.zero_add, cond_true, cond_false]
  refine ⟨fun k => noE (k := decide ((q : Int) = q)) k (decide_eq_true rfl), fun _ => ⟨rfl, rfl, at_, at_, rfl, ?_⟩⟩
  dsimp only [back, isFz, gt, st, cl, clsE, Zl.entry, T.fr, List.map, List.append, List.nil_append, List.cons_append, List.append_nil, List.replicate, List.length, Nat.reduceSub, Nat.reduceAdd, Nat.zero_add, cond_true, cond_false]
  refine ⟨fun k => noE (k := decide ((at_ : Int) = at_)) k (decide_eq_true rfl), fun _ => ⟨rfl, rfl, tk, rfl, by omega, h5, ?_⟩⟩
  dsimp only [back, isFz, gt, st, cl, clsE, Zl.entry, T.fr, List.map, List.append, List.nil_append, List.cons_append, List.append_nil, List.replicate, List.length, Nat.reduceSub, Nat.reduceAdd, Nat.zero_add, cond_true, cond_false]
  refine ⟨fun k => noT k, fun _ => ⟨rfl, rfl, sl, rfl, by omega, h4, ?_⟩⟩
  dsimp only [back, isFz, gt, st, cl, clsE, Zl.entry, T.fr, List.map, List.append, List.nil_append, List.cons_append, List.append_nil, List.replicate, List.length, Nat.reduceSub, Nat.reduceAdd, Nat.zero_add, cond_true, cond_false]
  refine ⟨fun k => noT k, fun _ => ?_⟩
  refine ⟨rfl, rfl, ws, tk, i, rfl, ha, ?_⟩
  dsimp only [back, isFz, gt, st, cl, clsE, Zl.entry, T.fr, List.map, List.append, List.nil_append, List.cons_append, List.append_nil, List.replicate, List.length, Nat.reduceSub, Nat.reduceAdd, Nat.zero_add, cond_true, cond_false]
  refine ⟨rfl, ws, tk, i, rfl, by omega, ha, ?_⟩
  dsimp only [back, isFz, gt, st, cl, clsE, Zl.entry, T.fr, List.map, List.append, List.nil_append, List.cons_append, List.append_nil, List.replicate, List.length, Nat.reduceSub, Nat.reduceAdd, Nat.zero_add, cond_true, cond_false]
  exact ⟨rfl, _, rfl, ixD_W, h⟩
end
/-- nats of at most that sum -/
theorem sum_set {bs : List Nat} {i x : Nat} (h : bs[i]? = some x) (y : Nat) : (bs.set i (x + y)).sum = bs.sum + y := by
  induction bs generalizing i with
  | nil => simp at h
  | cons b r ih =>
    cases i with
    | zero =>
      have : b = x := by simpa using h
      subst this
      simp only [List.set_cons_zero, List.sum_cons]; omega
    | succ i =>
      simp only [List.set_cons_succ, List.sum_cons]
      rw [ih (by simpa using h)]; omega
theorem nL_set (bs : List Nat) (i x : Nat) : (nL bs).set i (.int (x : Int)) = nL (bs.set i x) := List.map_set.symm
theorem red_law_few : ∀ ts P, sp_law_few ts P → w_law_few (fin pm_law_few ts P) (Zl.entry 9 ts) := by
  rintro _ P ⟨rs, pl, s, rfl, hr, hp, hpl, h⟩
  refine ⟨rfl, rs, 20, rfl, hr, by decide, fun r rs h0 h1 hr => ?_⟩
  dsimp only [back, isFz, gt, st, cl, clsE, Zl.entry, T.fr, List.map, List.append, List.nil_append, List.cons_append, List.append_nil, List.replicate, List.length, Nat.reduceSub, Nat.reduceAdd, Nat.zero_add, cond_true, cond_false]
  refine ⟨⟨by omega, by omega⟩, ?_⟩
  refine lc_inv0 (fun i acc e => acc = nL (List.replicate i 0) ∧ e = [some (.lst (iL rs)), some (.fz (.int pl)), some (.fz (sd s)), none, none, none, none, none, none]) ⟨rfl, rfl⟩ ?_ ?_ ?_
  · intros; trivial
  · rintro i d acc e hd ⟨rfl, rfl⟩ K hK
    obtain ⟨hi, rfl⟩ := rng_get hd
    refine ⟨fun _ => ⟨szl (by rw [List.length_map, List.length_replicate]; omega), hK _ _ ⟨?_, rfl⟩⟩, fun k => noF k⟩
    rw [List.replicate_succ']
    show _ = List.map _ _
    rw [List.map_append]; rfl
  rintro _ e ⟨rfl, rfl⟩
  have hl0 : (List.replicate ((List.range (1 + r).toNat).map fun i : Nat => D.int i).length 0).length = (1 + r).toNat := by rw [List.length_replicate, List.length_map, List.length_range]
  have hs0 : (List.replicate ((List.range (1 + r).toNat).map fun i : Nat => D.int i).length 0).sum = 0 := by simp
  generalize List.replicate ((List.range (1 + r).toNat).map fun i : Nat => D.int i).length 0 = bs at *
  have hb0 : 0 < bs.length := by omega
  have hb1 : bs.length ≤ 20 := by omega
  clear hl0
  refine wSeq_cut (fun e => e = [some (.lst (iL rs)), some (.fz (.int pl)), some (.fz (sd s)), some (.lst (nL bs)), none, some (.fz (.int 0)), none, none, none]) (fun K hK => hK _ rfl) ?_
  rintro e rfl
  refine wSeq_cut (fun e => ∃ (rs : List Int) (left : Nat), rs.length ≤ 4000 ∧ left ≤ (if s then pl else 0) ∧ e = [some (.lst (iL rs)), some (.fz (.int pl)), some (.fz (sd s)), some (.lst (nL bs)), none, some (.fz (.int left)), none, none, none]) (fun K hK => ?_) ?_
  · cases s
    · exact ⟨fun k => noT k, fun _ => hK _ ⟨rs, 0, hr, Nat.zero_le _, rfl⟩⟩
    · refine ⟨fun _ => ?_, fun k => noF k⟩
      refine ⟨rfl, rs, (pl : Int) + 1, rfl, hr, by omega, fun x rs hx0 hx1 hr => ?_⟩
      dsimp only [back, isFz, gt, st, cl, clsE, Zl.entry, T.fr, List.map, List.append, List.nil_append, List.cons_append, List.append_nil, List.replicate, List.length, Nat.reduceSub, Nat.reduceAdd, Nat.zero_add, cond_true, cond_false]
      refine ⟨le_b rfl, rfl, rs, 3, rfl, hr, by decide, fun y rs hy0 hy1 hr => ?_⟩
      dsimp only [back, isFz, gt, st, cl, clsE, Zl.entry, T.fr, List.map, List.append, List.nil_append, List.cons_append, List.append_nil, List.replicate, List.length, Nat.reduceSub, Nat.reduceAdd, Nat.zero_add, cond_true, cond_false]
      obtain ⟨d, hd, ed⟩ := atI_lt (xs := [.int (pl : Int), .int (pl : Int), .int x]) hy0 (by simpa using hy1)
      obtain ⟨left, rfl, hleft⟩ : ∃ left : Nat, d = .int left ∧ left ≤ pl := by
        simp only [List.mem_cons, List.not_mem_nil, or_false] at hd
        obtain ⟨n, rfl⟩ := Int.eq_ofNat_of_zero_le hx0
        rcases hd with rfl | rfl | rfl
        · exact ⟨pl, rfl, Nat.le_refl _⟩
        · exact ⟨pl, rfl, Nat.le_refl _⟩
        · exact ⟨n, rfl, by omega⟩
      conv => whnf
      rw [ed]
      exact hK _ ⟨rs, left, hr, hleft, rfl⟩
  rintro e ⟨rs, left, hr, hleft, rfl⟩
  refine ⟨⟨by decide, by decide⟩, ?_⟩
  refine for_inv (fun i e => ∃ (rs : List Int) (bs : List Nat) (left : Nat) (o6 o7 o8 : Option T), rs.length ≤ 4000 ∧ 0 < bs.length ∧ bs.length ≤ 20 ∧ bs.sum + left ≤ (if s then pl else 0) ∧
    e = [some (.lst (iL rs)), some (.fz (.int pl)), some (.fz (sd s)), some (.lst (nL bs)), none, some (.fz (.int left)), o6, o7, o8]) ⟨rs, bs, left, _, _, _, hr, hb0, hb1, by omega, rfl⟩ ?_ ?_ ?_
  · intros; trivial
  · rintro i d e hd ⟨rs, bs, left, o6, o7, o8, hr, hb0, hb1, hbd, rfl⟩ K hK
    obtain ⟨hi, rfl⟩ := rng_get hd
    refine ⟨fun k => ?_, fun _ => hK _ ⟨rs, bs, left, some (.fz (.int i)), o7, o8, hr, hb0, hb1, hbd, rfl⟩⟩
    have k : (0 : Int) < left := of_decide_eq_true k
    refine wSeq_cut (fun e => e = [some (.lst (iL rs)), some (.fz (.int pl)), some (.fz (sd s)), some (.lst (nL bs)), none, some (.fz (.int left)), some (.fz (.int i)), some (.fz (.int left)), o8]) (fun K hK => hK _ rfl) ?_
    rintro e rfl
    refine wSeq_cut (fun e => ∃ (rs : List Int) (part : Nat), rs.length ≤ 4000 ∧ part ≤ left ∧ e = [some (.lst (iL rs)), some (.fz (.int pl)), some (.fz (sd s)), some (.lst (nL bs)), none, some (.fz (.int left)), some (.fz (.int i)), some (.fz (.int part)), o8]) (fun K hK => ?_) ?_
    · refine ⟨fun _ => ?_, fun _ => hK _ ⟨rs, left, hr, Nat.le_refl _, rfl⟩⟩
      refine ⟨rfl, rs, left, rfl, hr, k, fun x rs hx0 hx1 hr => hK _ ?_⟩
      obtain ⟨n, rfl⟩ := Int.eq_ofNat_of_zero_le hx0
      refine ⟨rs, 1 + n, hr, by omega, ?_⟩
      rw [show ((1 + n : Nat) : Int) = 1 + (n : Int) by omega]
      rfl
    rintro e ⟨rs, part, hr, hpart, rfl⟩
    have hbl : (nL bs).length = bs.length := List.length_map ..
    refine ⟨rfl, rs, ((nL bs).length : Int), rfl, hr, by omega, fun x rs hx0 hx1 hr => ?_⟩
    dsimp only [back, isFz, gt, st, cl, clsE, Zl.entry, T.fr, List.map, List.append, List.nil_append, List.cons_append, List.append_nil, List.replicate, List.length, Nat.reduceSub, Nat.reduceAdd, Nat.zero_add, cond_true, cond_false]
    obtain ⟨n, rfl⟩ := Int.eq_ofNat_of_zero_le hx0
    have hn : n < bs.length := by omega
    have hx := List.getElem?_eq_getElem hn
    generalize bs[n] = v at hx
    have hx' : (nL bs)[n]? = some (.int (v : Int)) := by rw [List.getElem?_map, hx]; rfl
    conv => whnf
    rw [atI_nat hx']
    refine ⟨trivial, ?_⟩
    conv => whnf
    rw [ixN_nat (show n < (nL bs).length by omega)]
    refine hK _ ⟨rs, bs.set n (v + part), left - part, some (.fz (.int i)), some (.fz (.int part)), some (.fz (.int n)), hr, by rw [List.length_set]; exact hb0, by rw [List.length_set]; exact hb1, ?_, ?_⟩
    · rw [sum_set hx]; omega
    · show [_, _, _, some (T.lst ((nL bs).set n (.int ((v : Int) + part)))), _, some (T.fz (.int ((left : Int) - part))), _, _, _] = _
      rw [show (v : Int) + part = ((v + part : Nat) : Int) by omega, show (left : Int) - part = ((left - part : Nat) : Int) by omega, nL_set]
  · rintro e ⟨rs, bs, left, o6, o7, o8, hr, hb0, hb1, hbd, rfl⟩
    exact h bs rs (by omega) (by omega) hr
theorem W_cut {ws : List Int} (k : Nat) : ((iL ws).take k).all isW = true := by
  rw [List.all_eq_true]
  intro d hd
  obtain ⟨i, _, rfl⟩ := List.mem_map.mp (List.mem_of_mem_take hd)
  rfl
theorem red_law_list : ∀ ts P, sp_law_list ts P → w_law_list (fin pm_law_list ts P) (Zl.entry 5 ts) := by
  rintro _ P ⟨rs, ws, rfl, hr, h⟩
  refine wSeq_cut (fun e => ∃ (rs : List Int) (n : Nat), rs.length ≤ 4000 ∧ n ≤ 13 ∧ e = [some (.lst (iL rs)), some (.lst (iL ws)), some (.lst ((iL ws).take n)), none, none]) (fun K hK => ?_) ?_
  · refine ⟨rfl, rs, 13, rfl, hr, by decide, fun x rs hx0 hx1 hr => ?_⟩
    obtain ⟨n, rfl⟩ := Int.eq_ofNat_of_zero_le hx0
    refine hK _ ⟨rs, n, hr, by omega, ?_⟩
    show [_, _, some (T.lst (cutD (iL ws) none (some (n : Int)))), _, _] = _
    rw [cut_to]
  rintro e ⟨rs, n, hr, hn13, rfl⟩
  have e12 : cutD (iL ws) none (some (12 : Int)) = (iL ws).take 12 := cut_to _ 12
  refine wSeq_cut (fun e => ∃ (rs : List Int) (tk : List D), rs.length ≤ 4000 ∧ tk.all isW = true ∧ tk.length ≤ 13 ∧ e = [some (.lst (iL rs)), some (.lst (iL ws)), some (.lst tk), none, none]) (fun K hK => ?_) ?_
  · refine ⟨rfl, rs, 4, rfl, hr, by decide, fun y rs hy0 hy1 hr => ?_⟩
    dsimp only [back, isFz, gt, st, cl, clsE, Zl.entry, T.fr, List.map, List.append, List.nil_append, List.cons_append, List.append_nil, List.replicate, List.length, Nat.reduceSub, Nat.reduceAdd, Nat.zero_add, cond_true, cond_false]
    refine ⟨fun _ => ?_, fun _ => hK _ ⟨rs, (iL ws).take n, hr, W_cut _, by rw [List.length_take]; omega, rfl⟩⟩
    · refine ⟨trivial, le_b rfl, rfl, rs, 3, rfl, hr, by decide, fun z rs hz0 hz1 hr => ?_⟩
      dsimp only [back, isFz, gt, st, cl, clsE, Zl.entry, T.fr, List.map, List.append, List.nil_append, List.cons_append, List.append_nil, List.replicate, List.length, Nat.reduceSub, Nat.reduceAdd, Nat.zero_add, cond_true, cond_false]
      obtain ⟨d, hd, ed⟩ := atI_lt (xs := [.non, .int 0, .int 3]) hz0 (by simpa using hz1)
      have hdW : isW d = true := by
        simp only [List.mem_cons, List.not_mem_nil, or_false] at hd
        rcases hd with rfl | rfl | rfl <;> rfl
      conv => whnf
      rw [ed]
      rw [e12]
      refine ⟨szl (by rw [List.length_take]; omega), hK _ ⟨rs, (iL ws).take 12 ++ [d], hr, all_add (W_cut _) hdW, by rw [List.length_append, List.length_take, List.length_singleton]; omega, rfl⟩⟩
  rintro e ⟨rs, tk, hr, htW, htl, rfl⟩
  refine ⟨rfl, rs, 3, rfl, hr, by decide, fun y rs hy0 hy1 hr => ?_⟩
  dsimp only [back, isFz, gt, st, cl, clsE, Zl.entry, T.fr, List.map, List.append, List.nil_append, List.cons_append, List.append_nil, List.replicate, List.length, Nat.reduceSub, Nat.reduceAdd, Nat.zero_add, cond_true, cond_false]
  refine ⟨⟨by omega, by omega⟩, ?_⟩
  refine for_inv (fun i e => ∃ (rs : List Int) (tk : List D) (o3 o4 : Option T), rs.length ≤ 4000 ∧ tk.all isW = true ∧ tk.length ≤ 13 ∧ e = [some (.lst (iL rs)), some (.lst (iL ws)), some (.lst tk), o3, o4]) ⟨rs, tk, _, _, hr, htW, htl, rfl⟩ ?_ ?_ ?_
  · intros; trivial
  · rintro i d e hd ⟨rs, tk, o3, o4, hr, htW, htl, rfl⟩ K hK
    refine ⟨fun k => ?_, fun _ => hK _ ⟨rs, tk, some (.fz d), o4, hr, htW, htl, rfl⟩⟩
    have k : (0 : Int) < tk.length := of_decide_eq_true k
    refine ⟨rfl, rs, (tk.length : Int), rfl, hr, k, fun x rs hx0 hx1 hr => ?_⟩
    dsimp only [back, isFz, gt, st, cl, clsE, Zl.entry, T.fr, List.map, List.append, List.nil_append, List.cons_append, List.append_nil, List.replicate, List.length, Nat.reduceSub, Nat.reduceAdd, Nat.zero_add, cond_true, cond_false]
    obtain ⟨n, rfl⟩ := Int.eq_ofNat_of_zero_le hx0
    have hn : n < tk.length := by omega
    have hx := List.getElem?_eq_getElem hn
    have hxW := List.all_eq_true.mp htW _ (List.getElem_mem hn)
    generalize tk[n] = v at hx hxW
    refine ⟨rfl, rs, 2, rfl, hr, by decide, fun z rs hz0 hz1 hr => ?_⟩
    dsimp only [back, isFz, gt, st, cl, clsE, Zl.entry, T.fr, List.map, List.append, List.nil_append, List.cons_append, List.append_nil, List.replicate, List.length, Nat.reduceSub, Nat.reduceAdd, Nat.zero_add, cond_true, cond_false]
    have setN : ∀ v : D, isW v = true → K [some (.lst (iL rs)), some (.lst (iL ws)), some (.lst (tk.set n v)), some (.fz d), some (.fz (.int n))] := fun v hv =>
      hK _ ⟨rs, _, _, _, hr, all_set htW hv, by rw [List.length_set]; exact htl, rfl⟩
    refine ⟨fun _ => ⟨fun _ => ⟨trivial, ?_⟩, fun k => noF k⟩, fun _ => ?_⟩
    · conv => whnf
      rw [ixN_nat hn]
      exact setN .non rfl
    · conv => whnf
      rw [atI_nat hx]
      cases v <;> cases hxW
      · refine ⟨fun _ => ⟨trivial, ?_⟩, fun k => noF k⟩
        conv => whnf
        rw [ixN_nat hn]
        exact setN .non rfl
      · rename_i v
        refine ⟨fun k => noT k, fun _ => ?_⟩
        conv => whnf
        rw [atI_nat hx]
        refine ⟨le_b rfl, rfl, rs, 2, rfl, hr, by decide, fun u rs' hu0 hu1 hr' => ?_⟩
        dsimp only [back, isFz, gt, st, cl, clsE, Zl.entry, T.fr, List.map, List.append, List.nil_append, List.cons_append, List.append_nil, List.replicate, List.length, Nat.reduceSub, Nat.reduceAdd, Nat.zero_add, cond_true, cond_false]
        obtain ⟨d2, hd2, ed2⟩ := atI_lt (xs := [.int 1, .int (-1)]) hu0 (by simpa using hu1)
        obtain ⟨y, rfl⟩ : ∃ y : Int, d2 = .int y := by
          simp only [List.mem_cons, List.not_mem_nil, or_false] at hd2
          rcases hd2 with rfl | rfl <;> exact ⟨_, rfl⟩
        conv => whnf
        rw [ed2]
        refine ⟨trivial, ?_⟩
        conv => whnf
        rw [ixN_nat hn]
        exact hK _ ⟨rs', _, _, _, hr', all_set htW rfl, by rw [List.length_set]; exact htl, rfl⟩
  · rintro e ⟨rs, tk, o3, o4, hr, htW, htl, rfl⟩
    exact h tk rs htW (by omega) hr

/-! the told row of blocks takes a wrong word; few blocks take none -/
def fstD (s : Bool) (pl : Nat) (ws : List Int) : D := if s then wd ws pl else .non
theorem hnds_fill {ws : List Int} {pl : Nat} : ∀ (k : Nat) (m : Pl), m.q = 0 → m.sl.length = pl → m.p + k ≤ pl → m.p + k < ws.length → (hnds true ws k m).p = m.p + k ∧ (hnds true ws k m).q = 0 ∧ (hnds true ws k m).at_ = m.at_ ∧ (hnds true ws k m).tk = m.tk ∧ (hnds true ws k m).sl.length = pl
  | 0, m, hq, hl, _, _ => ⟨rfl, hq, rfl, rfl, hl⟩
  | k + 1, m, hq, hl, h1, h2 => by
    have e : hnd true ws m = { m with p := m.p + 1, sl := m.sl.set (m.p % m.sl.length) (wd ws m.p) } := by
      show (if m.p < m.q + m.sl.length ∧ m.p < ws.length then _ else _) = _
      rw [if_pos (by omega)]
    show (hnds true ws k (hnd true ws m)).p = _ ∧ _
    obtain ⟨a, b, c, d, f⟩ := hnds_fill (ws := ws) (pl := pl) k (hnd true ws m) (by rw [e]; exact hq) (by rw [e]; simp only [List.length_set]; exact hl) (by rw [e]; simp only; omega) (by rw [e]; simp only; omega)
    refine ⟨?_, b, ?_, ?_, f⟩
    · rw [a, e]; simp only; omega
    · rw [show (hnds true ws (k + 1) m) = hnds true ws k (hnd true ws m) from rfl, c, e]
    · rw [show (hnds true ws (k + 1) m) = hnds true ws k (hnd true ws m) from rfl, d, e]
theorem late_run {ws : List Int} {pl : Nat} : ∀ (late : Nat) (bs : List Nat), runB true pl ws (List.replicate late 0 ++ bs) = runB true pl ws bs
  | 0, _ => rfl
  | n + 1, bs => by
    have e : stp true ws (pl0 pl) = pl0 pl := rfl
    show (List.replicate n 0 ++ bs).foldl _ (stp true ws (pl0 pl)) = _
    rw [e]
    exact late_run n bs
theorem wrong_run {s : Bool} {pl late : Nat} {ws : List Int} (hp : 0 < pl) (hw : pl < ws.length) (hl : s = false → late = 0) : (runB s pl ws (List.replicate late 0 ++ [if s then pl else 0, 0, 1])).tk = [fstD s pl ws] := by
  cases s
  · rw [hl rfl]
    have e1 : stp false ws (pl0 pl) = ⟨[], 0, 0, 1, List.replicate pl .non⟩ := by
      show (⟨[], 0, 0, if rdy false ws (pl0 pl) then 1 else 0, List.replicate pl .non⟩ : Pl) = _
      have r : rdy false ws (pl0 pl) := show 0 < 0 + (List.replicate pl D.non).length ∧ 0 < ws.length by rw [List.length_replicate]; omega
      rw [if_pos r]
    show (stp false ws (hnd false ws (stp false ws (stp false ws (pl0 pl))))).tk = _
    rw [e1]
    have e2 : so (List.replicate pl D.non) 0 = .non := by
      have h := so_at (sl := List.replicate pl D.non) (k := 0) (by rw [List.length_replicate]; exact hp)
      exact List.eq_of_mem_replicate (List.mem_of_getElem? h)
    show [so (List.replicate pl D.non) 0] = _
    rw [e2]; rfl
  · rw [late_run]
    obtain ⟨a, b, c, d, f⟩ := hnds_fill (ws := ws) (pl := pl) pl (pl0 pl) rfl List.length_replicate (by show 0 + pl ≤ pl; omega) (by show 0 + pl < ws.length; omega)
    show (stp true ws (hnd true ws (stp true ws (stp true ws (hnds true ws pl (pl0 pl)))))).tk = _
    generalize hnds true ws pl (pl0 pl) = m at *
    obtain ⟨tk, p, q, at_, sl⟩ := m
    simp only at a b c d f
    have a : p = pl := by rw [a]; show 0 + pl = pl; omega
    subst a b
    have c : at_ = 0 := c
    have d : tk = [] := d
    subst c d
    have e1 : stp true ws ⟨[], p, 0, 0, sl⟩ = ⟨[], p, 0, 1, sl⟩ := by
      show (⟨[], p, 0, if rdy true ws ⟨[], p, 0, 0, sl⟩ then 1 else 0, sl⟩ : Pl) = _
      have r : rdy true ws ⟨[], p, 0, 0, sl⟩ := show 0 < p from hp
      rw [if_pos r]
    rw [e1]
    have e2 : hnd true ws (stp true ws ⟨[], p, 0, 1, sl⟩) = ⟨[], p + 1, 1, 2, sl.set (p % sl.length) (wd ws p)⟩ := by
      show (if p < 1 + sl.length ∧ p < ws.length then _ else _) = _
      rw [if_pos (by omega)]
      rfl
    rw [e2]
    show [so (sl.set (p % sl.length) (wd ws p)) 0] = [wd ws p]
    have e3 : p % sl.length = 0 := by rw [f]; exact Nat.mod_self p
    rw [e3]
    have h := so_at (sl := sl.set 0 (wd ws p)) (k := 0) (by rw [List.length_set]; omega)
    rw [Nat.zero_mod, List.getElem?_set_self (by omega)] at h
    injection h with h
    rw [← h]
def tkF (ws : List Int) (n : Nat) : List D := (List.range n).map (wd ws)
theorem tkF_succ (ws : List Int) (n : Nat) : tkF ws n ++ [wd ws n] = tkF ws (n + 1) := by
  unfold tkF; rw [List.range_succ, List.map_append]; rfl
/-- nothing was written over -/
structure Few (s : Bool) (pl c : Nat) (ws : List Int) (m : Pl) : Prop where
  t : s = true → m.p ≤ c ∧ m.q ≤ m.p ∧ m.sl.length = pl ∧ m.at_ ≤ 2 ∧ (m.at_ = 1 → m.q < m.p) ∧ (∀ k, k < m.p → m.sl[k]? = some (wd ws k)) ∧ (m.at_ ≠ 2 → m.tk = tkF ws m.q) ∧ (m.at_ = 2 → 1 ≤ m.q ∧ m.tk = tkF ws (m.q - 1))
  f : s = false → m.q = 0 ∧ m.tk = []
theorem few_hnd {pl c : Nat} {ws : List Int} {m : Pl} (hc : c < pl) (g : Few true pl c ws m) : Few true pl (c + 1) ws (hnd true ws m) := by
  obtain ⟨tk, p, q, at_, sl⟩ := m
  obtain ⟨h1, h2, h3, h4, h5, h6, h7, h8⟩ := g.t rfl
  simp only at h1 h2 h3 h4 h5 h6 h7 h8
  refine ⟨fun _ => ?_, fun z => by cases z⟩
  show _ ∧ _
  unfold hnd
  simp only [if_true]
  split
  · refine ⟨by simp only; omega, by simp only; omega, by simp only [List.length_set]; exact h3, h4, fun z => by simp only; have := h5 z; omega, fun k hk => ?_, h7, h8⟩
    simp only at hk ⊢
    have e : p % sl.length = p := Nat.mod_eq_of_lt (by omega)
    rw [e]
    by_cases z : k = p
    · subst z; rw [List.getElem?_set_self (by omega)]
    · rw [List.getElem?_set_ne (Ne.symm z)]; exact h6 k (by omega)
  · exact ⟨by simp only; omega, h2, h3, h4, h5, h6, h7, h8⟩
theorem few_hnds {pl : Nat} {ws : List Int} : ∀ (k : Nat) {c : Nat} {m : Pl}, c + k ≤ pl → Few true pl c ws m → Few true pl (c + k) ws (hnds true ws k m)
  | 0, c, m, _, g => g
  | k + 1, c, m, h, g => by
    have := few_hnds k (c := c + 1) (by omega) (few_hnd (by omega) g)
    rw [show c + (k + 1) = c + 1 + k by omega]
    exact this
theorem few_stp {s : Bool} {pl c : Nat} {ws : List Int} {m : Pl} (hc : c ≤ pl) (g : Few s pl c ws m) : Few s pl c ws (stp s ws m) := by
  obtain ⟨tk, p, q, at_, sl⟩ := m
  cases s
  · obtain ⟨h1, h2⟩ := g.f rfl
    simp only at h1 h2
    subst h1 h2
    refine ⟨fun z => by (cases z), fun _ => ?_⟩
    unfold stp word
    simp only [Bool.false_eq_true, if_false]
    split
    · exact ⟨rfl, rfl⟩
    · split <;> exact ⟨rfl, rfl⟩
  · obtain ⟨h1, h2, h3, h4, h5, h6, h7, h8⟩ := g.t rfl
    simp only at h1 h2 h3 h4 h5 h6 h7 h8
    refine ⟨fun _ => ?_, fun z => by cases z⟩
    unfold stp
    simp only [if_true]
    by_cases e0 : at_ = 0
    · rw [if_pos e0]
      have h7 := h7 (by omega)
      by_cases r : rdy true ws ⟨tk, p, q, at_, sl⟩
      · rw [if_pos r]
        exact ⟨h1, h2, h3, le_b rfl, fun _ => r, h6, fun _ => h7, fun z => absurd (show (1 : Nat) = 2 from z) (by decide)⟩
      · rw [if_neg r]
        exact ⟨h1, h2, h3, le_b rfl, fun z => absurd (show (0 : Nat) = 1 from z) (by decide), h6, fun _ => h7, fun z => absurd (show (0 : Nat) = 2 from z) (by decide)⟩
    · rw [if_neg e0]
      by_cases e1 : at_ = 1
      · rw [if_pos e1]
        have h5 := h5 e1
        have h7 := h7 (by omega)
        exact ⟨h1, by simp only; omega, h3, le_b rfl, fun z => absurd (show (2 : Nat) = 1 from z) (by decide), h6, fun z => absurd (show (2 : Nat) = 2 from rfl) z, fun _ => ⟨by simp only; omega, h7⟩⟩
      · rw [if_neg e1]
        obtain ⟨h9, h10⟩ := h8 (by omega)
        unfold word
        simp only [if_true]
        refine ⟨h1, h2, h3, le_b rfl, fun z => absurd (show (0 : Nat) = 1 from z) (by decide), h6, fun _ => ?_, fun z => absurd (show (0 : Nat) = 2 from z) (by decide)⟩
        show tk ++ [so sl (q - 1)] = tkF ws q
        have e : so sl (q - 1) = wd ws (q - 1) := by
          have a := so_at (sl := sl) (k := q - 1) (by omega)
          rw [Nat.mod_eq_of_lt (by omega), h6 (q - 1) (by omega)] at a
          injection a with a
          exact a.symm
        rw [h10, e, tkF_succ, show q - 1 + 1 = q by omega]
theorem few_run {s : Bool} {pl : Nat} {ws : List Int} {bs : List Nat} (h : bs.sum ≤ (if s then pl else 0)) : Few s pl (if s then pl else 0) ws (runB s pl ws bs) ∨ ∃ c, c ≤ pl ∧ Few s pl c ws (runB s pl ws bs) := by
  refine .inr ?_
  unfold runB
  suffices k : ∀ (bs : List Nat) (c : Nat) (m : Pl), c + bs.sum ≤ (if s then pl else 0) → Few s pl c ws m → ∃ c, c ≤ pl ∧ Few s pl c ws (bs.foldl (fun m b => stp s ws (hnds s ws b m)) m) from
    k bs 0 _ (by omega) ⟨fun _ => ⟨Nat.le_refl _, Nat.le_refl _, List.length_replicate, Nat.zero_le _, fun z => absurd (show (0 : Nat) = 1 from z) (by decide), fun k hk => absurd hk (Nat.not_lt_zero _), fun _ => rfl, fun z => absurd (show (0 : Nat) = 2 from z) (by decide)⟩, fun _ => ⟨rfl, rfl⟩⟩
  intro bs
  induction bs with
  | nil => intro c m hc g; exact ⟨c, by cases s <;> simp at hc <;> omega, g⟩
  | cons b r ih =>
    intro c m hc g
    rw [List.sum_cons] at hc
    cases s
    · simp only [Bool.false_eq_true, if_false] at hc
      have hb : b = 0 := by omega
      subst hb
      exact ih c _ (by simp only [Bool.false_eq_true, if_false]; omega) (few_stp (by omega) g)
    · simp only [if_true] at hc
      exact ih (c + b) _ (by simp only [if_true]; omega) (few_stp (by omega) (few_hnds b (by omega) g))
theorem few_tk {s : Bool} {pl c : Nat} {ws : List Int} {m : Pl} (g : Few s pl c ws m) : ∃ n, n ≤ m.p ∧ m.tk = tkF ws n := by
  cases s
  · obtain ⟨h1, h2⟩ := g.f rfl
    exact ⟨0, Nat.zero_le _, h2⟩
  · obtain ⟨h1, h2, h3, h4, h5, h6, h7, h8⟩ := g.t rfl
    by_cases z : m.at_ = 2
    · exact ⟨m.q - 1, by omega, (h8 z).2⟩
    · exact ⟨m.q, h2, h7 z⟩
theorem tkF_take {ws : List Int} {n : Nat} (h : n ≤ ws.length) : (iL ws).take n = tkF ws n := by
  induction n with
  | zero => rfl
  | succ n ih =>
    rw [← tkF_succ, List.take_add_one, iL_at (by omega), ih (by omega)]; rfl

theorem nL_int (bs : List Nat) : nL bs = iL (bs.map fun b : Nat => (b : Int)) := by simp [nL, iL]
theorem iL_W (ws : List Int) : (iL ws).all isW = true := by
  rw [List.all_eq_true]
  intro d hd
  obtain ⟨i, _, rfl⟩ := List.mem_map.mp hd
  rfl
theorem sum_le_mem {bs : List Nat} {b : Nat} (h : b ∈ bs) : b ≤ bs.sum := by
  induction bs with
  | nil => cases h
  | cons x r ih =>
    rw [List.sum_cons]
    rcases List.mem_cons.mp h with z | z
    · subst z; omega
    · have := ih z; omega
theorem rep_flat (n : Nat) (d : D) : (List.replicate n [d]).flatten = List.replicate n d := by
  induction n with
  | zero => rfl
  | succ n ih => rw [List.replicate_succ, List.flatten_cons, ih]; rfl
section
variable {a : Addr}
theorem red_law : ∀ ts P, sp_law a ts P → w_law a (fin pm_law ts P) (Zl.entry 18 ts) := by
  rintro _ P ⟨sc, rfl, hsc, h⟩
  refine ⟨rfl, sc, rfl, hsc, fun rs hr => ?_⟩
  dsimp only [back, isFz, gt, st, cl, clsE, Zl.entry, T.fr, List.map, List.append, List.nil_append, List.cons_append, List.append_nil, List.replicate, List.length, Nat.reduceSub, Nat.reduceAdd, Nat.zero_add, cond_true, cond_false]
  refine ⟨rfl, rs, 60, rfl, hr, by decide, fun r60 rs h0 h1 hr => ?_⟩
  dsimp only [back, isFz, gt, st, cl, clsE, Zl.entry, T.fr, List.map, List.append, List.nil_append, List.cons_append, List.append_nil, List.replicate, List.length, Nat.reduceSub, Nat.reduceAdd, Nat.zero_add, cond_true, cond_false]
  refine ⟨le_b rfl, rfl, rs, 6, rfl, hr, by decide, fun r6 rs h2 h3 hr => ?_⟩
  dsimp only [back, isFz, gt, st, cl, clsE, Zl.entry, T.fr, List.map, List.append, List.nil_append, List.cons_append, List.append_nil, List.replicate, List.length, Nat.reduceSub, Nat.reduceAdd, Nat.zero_add, cond_true, cond_false]
  obtain ⟨d, hd, ed⟩ := atI_lt (xs := [.int 1, .int 2, .int 3, .int 7, .int 60, .int (1 + r60)]) h2 (by simpa using h3)
  obtain ⟨pl, rfl, hp, hpl⟩ : ∃ pl : Nat, d = .int pl ∧ 0 < pl ∧ pl ≤ 60 := by
    simp only [List.mem_cons, List.not_mem_nil, or_false] at hd
    rcases hd with rfl | rfl | rfl | rfl | rfl | rfl
    · exact ⟨1, rfl, by decide, by decide⟩
    · exact ⟨2, rfl, by decide, by decide⟩
    · exact ⟨3, rfl, by decide, by decide⟩
    · exact ⟨7, rfl, by decide, by decide⟩
    · exact ⟨60, rfl, by decide, by decide⟩
    · obtain ⟨n, rfl⟩ := Int.eq_ofNat_of_zero_le h0
      exact ⟨1 + n, by simp, by omega, by omega⟩
  conv => whnf
  rw [ed]
  refine ⟨le_b rfl, rfl, rs, 2, rfl, hr, by decide, fun r2 rs h4 h5 hr => ?_⟩
  dsimp only [back, isFz, gt, st, cl, clsE, Zl.entry, T.fr, List.map, List.append, List.nil_append, List.cons_append, List.append_nil, List.replicate, List.length, Nat.reduceSub, Nat.reduceAdd, Nat.zero_add, cond_true, cond_false]
  obtain ⟨s, ed⟩ : ∃ s : Bool, atI [D.str "puts", .str "takes"] r2 = some (sd s) := by
    have : r2 = 0 ∨ r2 = 1 := by omega
    rcases this with rfl | rfl
    · exact ⟨false, rfl⟩
    · exact ⟨true, rfl⟩
  conv => whnf
  rw [ed]
  refine wSeq_cut (fun e => ∃ (rs : List Int) (late : Nat), rs.length ≤ 4000 ∧ late ≤ 3 ∧ (s = false → late = 0) ∧ e = [some (.fz (.rol (iL sc))), some (.lst (iL rs)), some (.fz (.int pl)), some (.fz (sd s)), some (.fz (.int late)), none, none, none, none, none, none, none, none, none, none, none, none, none]) (fun K hK => ?_) ?_
  · refine ⟨rfl, rs, 4, rfl, hr, by decide, fun r rs hr0 hr1 hr => ?_⟩
    dsimp only [back, isFz, gt, st, cl, clsE, Zl.entry, T.fr, List.map, List.append, List.nil_append, List.cons_append, List.append_nil, List.replicate, List.length, Nat.reduceSub, Nat.reduceAdd, Nat.zero_add, cond_true, cond_false]
    obtain ⟨n, rfl⟩ := Int.eq_ofNat_of_zero_le hr0
    refine ⟨.inl ⟨by omega, by omega⟩, ?_⟩
    cases s
    · exact hK _ ⟨rs, 0, hr, by decide, fun _ => rfl, by
        show [_, _, _, _, some (T.fz (.int ((n : Int) * 0))), _, _, _, _, _, _, _, _, _, _, _, _, _] = _
        rw [Int.mul_zero]; try rfl⟩
    · exact hK _ ⟨rs, n, hr, by omega, fun z => absurd z (by decide), by
        show [_, _, _, _, some (T.fz (.int ((n : Int) * 1))), _, _, _, _, _, _, _, _, _, _, _, _, _] = _
        rw [Int.mul_one]⟩
  rintro e ⟨rs, late, hr, hlate, hls, rfl⟩
  refine ⟨rfl, rs, pl, s, rfl, hr, hp, hpl, fun few rs hf1 hf2 hr => ?_⟩
  dsimp only [back, isFz, gt, st, cl, clsE, Zl.entry, T.fr, List.map, List.append, List.nil_append, List.cons_append, List.append_nil, List.replicate, List.length, Nat.reduceSub, Nat.reduceAdd, Nat.zero_add, cond_true, cond_false]
  refine ⟨rfl, rs, 2000, rfl, hr, by decide, fun base rs _ _ hr => ?_⟩
  dsimp only [back, isFz, gt, st, cl, clsE, Zl.entry, T.fr, List.map, List.append, List.nil_append, List.cons_append, List.append_nil, List.replicate, List.length, Nat.reduceSub, Nat.reduceAdd, Nat.zero_add, cond_true, cond_false]
  refine ⟨rfl, rs, 9, rfl, hr, by decide, fun apart rs hap _ hr => ?_⟩
  dsimp only [back, isFz, gt, st, cl, clsE, Zl.entry, T.fr, List.map, List.append, List.nil_append, List.cons_append, List.append_nil, List.replicate, List.length, Nat.reduceSub, Nat.reduceAdd, Nat.zero_add, cond_true, cond_false]
  refine ⟨rfl, rs, 5, rfl, hr, by decide, fun r5 rs h8 h9 hr => ?_⟩
  dsimp only [back, isFz, gt, st, cl, clsE, Zl.entry, T.fr, List.map, List.append, List.nil_append, List.cons_append, List.append_nil, List.replicate, List.length, Nat.reduceSub, Nat.reduceAdd, Nat.zero_add, cond_true, cond_false]
  obtain ⟨x5, rfl⟩ := Int.eq_ofNat_of_zero_le h8
  refine ⟨⟨by omega, by omega⟩, ?_⟩
  have enm : ((pl : Int) + 1 + (x5 : Int)).toNat = pl + 1 + x5 := by omega
  rw [enm]
  refine lc_inv0 (fun i acc e => acc = iL ((List.range i).map fun k : Nat => base - 1000 + (1 + apart) * (k : Int)) ∧ e = [some (.fz (.rol (iL sc))), some (.lst (iL rs)), some (.fz (.int pl)), some (.fz (sd s)), some (.fz (.int late)), some (.lst (nL few)), some (.fz (.int (base - 1000))), some (.fz (.int (1 + apart))), none, none, none, none, none, none, none, none, none, none]) ⟨rfl, rfl⟩ ?_ ?_ ?_
  · intros; trivial
  · rintro i d acc e hd ⟨rfl, rfl⟩ K hK
    obtain ⟨hi, rfl⟩ := rng_get hd
    refine ⟨fun _ => ⟨.inr ⟨by omega, by omega⟩, szl (by rw [List.length_map, List.length_map, List.length_range]; omega), hK _ _ ⟨?_, rfl⟩⟩, fun k => noF k⟩
    rw [List.range_succ, List.map_append]
    show _ = List.map _ _
    rw [List.map_append]; rfl
  rintro _ e ⟨rfl, rfl⟩
  rw [show ((List.range (pl + 1 + x5)).map fun i : Nat => D.int i).length = pl + 1 + x5 by rw [List.length_map, List.length_range]]
  have hml : ((List.range (pl + 1 + x5)).map fun k : Nat => base - 1000 + (1 + apart) * (k : Int)).length = pl + 1 + x5 := by rw [List.length_map, List.length_range]
  have hmg : ∀ k, k < pl + 1 + x5 → ((List.range (pl + 1 + x5)).map fun k : Nat => base - 1000 + (1 + apart) * (k : Int))[k]? = some (base - 1000 + (1 + apart) * (k : Int)) := fun k hk => by
    rw [List.getElem?_map, List.getElem?_range hk]; rfl
  generalize ((List.range (pl + 1 + x5)).map fun k : Nat => base - 1000 + (1 + apart) * (k : Int)) = mn at *
  dsimp only [back, isFz, gt, st, cl, clsE, Zl.entry, T.fr, List.map, List.append, List.nil_append, List.cons_append, List.append_nil, List.replicate, List.length, Nat.reduceSub, Nat.reduceAdd, Nat.zero_add, cond_true, cond_false]
  refine ⟨rfl, rs, rfl, hr, fun ws rs hw hr => ?_⟩
  dsimp only [back, isFz, gt, st, cl, clsE, Zl.entry, T.fr, List.map, List.append, List.nil_append, List.cons_append, List.append_nil, List.replicate, List.length, Nat.reduceSub, Nat.reduceAdd, Nat.zero_add, cond_true, cond_false]
  refine ⟨rfl, rs, ws, rfl, hr, fun taken rs htW htl hr => ?_⟩
  dsimp only [back, isFz, gt, st, cl, clsE, Zl.entry, T.fr, List.map, List.append, List.nil_append, List.cons_append, List.append_nil, List.replicate, List.length, Nat.reduceSub, Nat.reduceAdd, Nat.zero_add, cond_true, cond_false]
  refine ⟨rfl, rs, pl, rfl, hr, hpl, fun bs rs hb hb2 hr => ?_⟩
  dsimp only [back, isFz, gt, st, cl, clsE, Zl.entry, T.fr, List.map, List.append, List.nil_append, List.cons_append, List.append_nil, List.replicate, List.length, Nat.reduceSub, Nat.reduceAdd, Nat.zero_add, cond_true, cond_false]
  have ft : Fits pl ws := ⟨hp, by omega, hw⟩
  have fm : Fits pl mn := ⟨hp, by omega, by omega⟩
  refine ⟨rfl, s, pl, bs, ws, rfl, ft, hb2, ?_⟩
  dsimp only [back, isFz, gt, st, cl, clsE, Zl.entry, T.fr, List.map, List.append, List.nil_append, List.cons_append, List.append_nil, List.replicate, List.length, Nat.reduceSub, Nat.reduceAdd, Nat.zero_add, cond_true, cond_false]
  refine ⟨rfl, s, pl, bs, ws, rfl, ft, hb2, ?_⟩
  dsimp only [back, isFz, gt, st, cl, clsE, Zl.entry, T.fr, List.map, List.append, List.nil_append, List.cons_append, List.append_nil, List.replicate, List.length, Nat.reduceSub, Nat.reduceAdd, Nat.zero_add, cond_true, cond_false]
  have okw : D.ok 60 (.lst (iL ws)) = true := ok_lst (ok_ints _)
  refine ⟨okw, okw, fun k => noE k (eqb_self _), fun _ => ?_⟩
  refine ⟨rfl, s, pl, ws, _, rfl, ft, good_run hp _, ?_⟩
  dsimp only [back, isFz, gt, st, cl, clsE, Zl.entry, T.fr, List.map, List.append, List.nil_append, List.cons_append, List.append_nil, List.replicate, List.length, Nat.reduceSub, Nat.reduceAdd, Nat.zero_add, cond_true, cond_false]
  refine ⟨fun k => noT k, fun _ => ⟨le_b rfl, ?_⟩⟩
  generalize runB s pl ws bs = m1
  generalize rs = rs1 at *
  refine wSeq_cut (fun e => ∃ (o13 o14 o15 : Option T), e = [some (.fz (.rol (iL sc))), some (.lst (iL rs1)), some (.fz (.int pl)), some (.fz (sd s)), some (.fz (.int late)), some (.lst (nL few)), some (.fz (.int (base - 1000))), some (.fz (.int (1 + apart))), some (.lst (iL mn)), none, some (.lst (iL ws)), some (.lst taken), some (.lst (nL bs)), o13, o14, o15, some (.lst (nL [0, 0, 1])), none]) (fun K hK => hK _ ⟨_, _, _, rfl⟩) ?_
  rintro e ⟨o13, o14, o15, rfl⟩
  refine wSeq_cut (fun e => e = [some (.fz (.rol (iL sc))), some (.lst (iL rs1)), some (.fz (.int pl)), some (.fz (sd s)), some (.fz (.int late)), some (.lst (nL few)), some (.fz (.int (base - 1000))), some (.fz (.int (1 + apart))), some (.lst (iL mn)), none, some (.lst (iL ws)), some (.lst taken), some (.lst (nL bs)), o13, o14, o15, some (.lst (nL [0, 0, 1])), some (.fz .non)]) (fun K hK => hK _ rfl) ?_
  rintro e rfl
  have hmpl : (iL mn)[pl]? = some (wd mn pl) := iL_at (by omega)
  refine wSeq_cut (fun e => e = [some (.fz (.rol (iL sc))), some (.lst (iL rs1)), some (.fz (.int pl)), some (.fz (sd s)), some (.fz (.int late)), some (.lst (nL few)), some (.fz (.int (base - 1000))), some (.fz (.int (1 + apart))), some (.lst (iL mn)), none, some (.lst (iL ws)), some (.lst taken), some (.lst (nL bs)), o13, o14, o15, some (.lst (nL [if s then pl else 0, 0, 1])), some (.fz (fstD s pl mn))]) (fun K hK => ?_) ?_
  · cases s
    · exact ⟨fun k => noT k, fun _ => hK _ rfl⟩
    · refine ⟨fun _ => ⟨le_b rfl, ?_⟩, fun k => noF k⟩
      conv => whnf
      rw [atI_nat hmpl]
      exact hK _ rfl
  rintro e rfl
  have hx : (if s then pl else 0) ≤ 60 := by split <;> omega
  generalize hX : (if s then pl else 0) = X at *
  have rpX : D.rp 60 (.lst (nL [X, 0, 1])) = true := by
    show ([D.int (X : Int), D.int (0 : Nat), D.int (1 : Nat)]).all (D.rp 59) = true
    rw [List.all_cons, show D.rp 59 (.int (X : Int)) = true from decide_eq_true (by omega)]
    rfl
  have szX : D.sz (.lst (nL [X, 0, 1])) ≤ sizeLine := by
    show 210 + 2 + (210 + 2 + (210 + 2 + 0)) + 3 ≤ sizeLine
    decide
  refine ⟨rfl, s, pl, rfl, ?_⟩
  dsimp only [back, isFz, gt, st, cl, clsE, Zl.entry, T.fr, List.map, List.append, List.nil_append, List.cons_append, List.append_nil, List.replicate, List.length, Nat.reduceSub, Nat.reduceAdd, Nat.zero_add, cond_true, cond_false]
  rw [hX]
  refine ⟨⟨rpX, szX⟩, ⟨rpX, szX⟩, fun k => noE (k := decide (D.rpr (.lst (nL [X, 0, 1])) = D.rpr (.lst (nL [X, 0, 1])))) k (decide_eq_true rfl), fun _ => ?_⟩
  have bsb : ∀ b ∈ List.replicate late 0 ++ [X, 0, 1], b ≤ 1000 := fun b hb => by
    rcases List.mem_append.mp hb with z | z
    · rw [List.eq_of_mem_replicate z]; omega
    · simp only [List.mem_cons, List.not_mem_nil, or_false] at z
      rcases z with z | z | z <;> omega
  refine ⟨le_b rfl, ⟨by omega, by omega, ?_⟩, ?_, rfl, s, pl, List.replicate late 0 ++ [X, 0, 1], mn, ?_, fm, bsb, ?_⟩
  · have z : (1002 : Nat) ≤ sizeLine := by decide
    show 1 * (late : Int).toNat ≤ sizeLine
    omega
  · have z : (1002 : Nat) ≤ sizeLine := by decide
    show ((List.replicate (late : Int).toNat [D.int 0]).flatten).length + 3 ≤ sizeLine
    rw [rep_flat, List.length_replicate, Int.toNat_natCast]; omega
  · show [T.fz (.int pl), T.fz (sd s), T.fz (.str "count"), T.fz (.lst ((List.replicate (late : Int).toNat [D.int 0]).flatten ++ nL [X, 0, 1])), T.fz (.lst (iL mn))] = _
    rw [rep_flat, Int.toNat_natCast]
    show _ = [_, _, _, T.fz (.lst (List.map _ (List.replicate late 0 ++ [X, 0, 1]))), _]
    rw [List.map_append, List.map_replicate]
    rfl
  dsimp only [back, isFz, gt, st, cl, clsE, Zl.entry, T.fr, List.map, List.append, List.nil_append, List.cons_append, List.append_nil, List.replicate, List.length, Nat.reduceSub, Nat.reduceAdd, Nat.zero_add, cond_true, cond_false]
  have hW := wrong_run (s := s) (pl := pl) (late := late) (ws := mn) hp (by omega) hls
  rw [hX] at hW
  generalize runB s pl mn (List.replicate late 0 ++ [X, 0, 1]) = m2 at *
  obtain ⟨tk2, p2, q2, at2, sl2⟩ := m2
  have hW : tk2 = [fstD s pl mn] := hW
  subst hW
  have fW : isW (fstD s pl mn) = true := by unfold fstD; split <;> rfl
  refine ⟨rfl, le_b rfl, rfl, [fstD s pl mn], rfl, le_b rfl, by rw [List.all_cons, fW]; rfl, ?_⟩
  dsimp only [back, isFz, gt, st, cl, clsE, Zl.entry, T.fr, List.map, List.append, List.nil_append, List.cons_append, List.append_nil, List.replicate, List.length, Nat.reduceSub, Nat.reduceAdd, Nat.zero_add, cond_true, cond_false]
  refine ⟨fun k => noT k, fun _ => ?_⟩
  have a0 : Astray mn [fstD s pl mn] 0 := ⟨Nat.zero_le _, fun j hj => absurd hj (Nat.not_lt_zero _), fun d hd => by
    have hd : fstD s pl mn = d := by simpa using hd
    subst hd
    have g0 : mn[0]? = some (base - 1000 + (1 + apart) * ((0 : Nat) : Int)) := hmg 0 (by omega)
    cases s
    · exact ⟨.inl rfl, .inr ⟨_, g0, .inl rfl⟩⟩
    · refine ⟨.inr ⟨_, rfl⟩, .inr ⟨_, g0, .inr ⟨_, rfl, ?_⟩⟩⟩
      have gp := hmg pl (by omega)
      rw [List.getD_eq_getElem?_getD, gp]
      show base - 1000 + (1 + apart) * (pl : Int) ≠ base - 1000 + (1 + apart) * ((0 : Nat) : Int)
      intro z
      have z1 : (1 + apart) * (pl : Int) = 0 := by
        have : (1 + apart) * ((0 : Nat) : Int) = 0 := Int.mul_zero _
        omega
      rcases Int.mul_eq_zero.mp z1 with z2 | z2 <;> omega⟩
  refine ⟨rfl, rfl, mn, [fstD s pl mn], 0, rfl, a0, ?_⟩
  dsimp only [back, isFz, gt, st, cl, clsE, Zl.entry, T.fr, List.map, List.append, List.nil_append, List.cons_append, List.append_nil, List.replicate, List.length, Nat.reduceSub, Nat.reduceAdd, Nat.zero_add, cond_true, cond_false]
  refine ⟨rfl, 0, 0, rfl, ?_⟩
  dsimp only [back, isFz, gt, st, cl, clsE, Zl.entry, T.fr, List.map, List.append, List.nil_append, List.cons_append, List.append_nil, List.replicate, List.length, Nat.reduceSub, Nat.reduceAdd, Nat.zero_add, cond_true, cond_false]
  refine ⟨fun k => noE (k := decide ((0 : Int) = 0)) k (decide_eq_true rfl), fun _ => ?_⟩
  have fb : ∀ b ∈ few, b ≤ 1000 := fun b hb => by
    have := sum_le_mem hb
    omega
  refine ⟨rfl, s, pl, few, mn, rfl, fm, fb, ?_⟩
  dsimp only [back, isFz, gt, st, cl, clsE, Zl.entry, T.fr, List.map, List.append, List.nil_append, List.cons_append, List.append_nil, List.replicate, List.length, Nat.reduceSub, Nat.reduceAdd, Nat.zero_add, cond_true, cond_false]
  refine ⟨rfl, s, pl, few, mn, rfl, fm, fb, ?_⟩
  dsimp only [back, isFz, gt, st, cl, clsE, Zl.entry, T.fr, List.map, List.append, List.nil_append, List.cons_append, List.append_nil, List.replicate, List.length, Nat.reduceSub, Nat.reduceAdd, Nat.zero_add, cond_true, cond_false]
  refine ⟨rfl, s, pl, mn, _, rfl, fm, good_run hp _, ?_⟩
  dsimp only [back, isFz, gt, st, cl, clsE, Zl.entry, T.fr, List.map, List.append, List.nil_append, List.cons_append, List.append_nil, List.replicate, List.length, Nat.reduceSub, Nat.reduceAdd, Nat.zero_add, cond_true, cond_false]
  refine ⟨fun k => noT k, fun _ => ?_⟩
  have hF := few_run (s := s) (pl := pl) (ws := mn) (bs := few) (by rw [hX]; exact hf2)
  have gF := good_run (s := s) (ws := mn) hp few
  obtain ⟨n, hn1, hn2⟩ : ∃ n, n ≤ (runB s pl mn few).p ∧ (runB s pl mn few).tk = tkF mn n := by
    rcases hF with g | ⟨c, _, g⟩
    · exact few_tk g
    · exact few_tk g
  have hpn := gF.pn
  generalize runB s pl mn few = m3 at *
  obtain ⟨tk3, p3, q3, at3, sl3⟩ := m3
  have hn2 : tk3 = tkF mn n := hn2
  have hn1 : n ≤ p3 := hn1
  have hpn : p3 ≤ mn.length := hpn
  subst hn2
  have ht3 := tkF_take (ws := mn) (n := n) (by omega)
  have hl3 : (tkF mn n).length = n := by unfold tkF; rw [List.length_map, List.length_range]
  have eC : cutD (iL mn) none (some ((tkF mn n).length : Int)) = tkF mn n := by rw [cut_to, hl3, ht3]
  have w3 : (tkF mn n).all isW = true := by
    rw [← ht3, List.all_eq_true]
    intro d hd
    exact List.all_eq_true.mp (iL_W mn) d (List.mem_of_mem_take hd)
  refine ⟨rfl, rfl, rfl, tkF mn n, ?_, by omega, w3, ?_⟩
  · show [T.fz (.lst (tkF mn n)), T.fz (.lst (cutD (iL mn) none (some ((tkF mn n).length : Int))))] = _
    rw [eC]
  dsimp only [back, isFz, gt, st, cl, clsE, Zl.entry, T.fr, List.map, List.append, List.nil_append, List.cons_append, List.append_nil, List.replicate, List.length, Nat.reduceSub, Nat.reduceAdd, Nat.zero_add, cond_true, cond_false]
  refine ⟨fun k => noT k, fun _ => ?_⟩
  have a3 : Astray mn (tkF mn n) n := ⟨by omega, fun j hj => by
    have h1 : mn[j]? = some (mn.getD j 0) := by rw [List.getElem?_eq_getElem (by omega), List.getD_eq_getElem?_getD, List.getElem?_eq_getElem (by omega)]; rfl
    refine ⟨_, h1, ?_⟩
    unfold tkF
    rw [List.getElem?_map, List.getElem?_range hj]; rfl, fun d hd => by
    rw [List.getElem?_eq_none (by omega)] at hd; cases hd⟩
  refine ⟨rfl, rfl, mn, tkF mn n, n, rfl, a3, ?_⟩
  dsimp only [back, isFz, gt, st, cl, clsE, Zl.entry, T.fr, List.map, List.append, List.nil_append, List.cons_append, List.append_nil, List.replicate, List.length, Nat.reduceSub, Nat.reduceAdd, Nat.zero_add, cond_true, cond_false]
  rw [show ixD (tkF mn n) n = .non by unfold ixD; rw [if_neg (by omega)]]
  refine ⟨fun k => noT k, fun _ => ?_⟩
  obtain ⟨i, ha⟩ := astray_ex ws taken htW
  refine ⟨rfl, ws, taken, i, rfl, ha, ?_⟩
  dsimp only [back, isFz, gt, st, cl, clsE, Zl.entry, T.fr, List.map, List.append, List.nil_append, List.cons_append, List.append_nil, List.replicate, List.length, Nat.reduceSub, Nat.reduceAdd, Nat.zero_add, cond_true, cond_false]
  refine ⟨rfl, ws, taken, i, rfl, by omega, ha, ?_⟩
  dsimp only [back, isFz, gt, st, cl, clsE, Zl.entry, T.fr, List.map, List.append, List.nil_append, List.cons_append, List.append_nil, List.replicate, List.length, Nat.reduceSub, Nat.reduceAdd, Nat.zero_add, cond_true, cond_false]
  exact ⟨rfl, _, rfl, ixD_W, h⟩
end

def topS (i : Nat) : Stmt := PySem.Challenge.pw_betweenanytwosteps_k61_rings_count_first.main.body.getD i (.Pass ⟨0, 0, 0, 0⟩)
/-- what the top has left -/
structure Gx (K : PySem.W.Frag) (mg : Str → Option Value) (aRingPlay : Addr) : Prop where
  b_len : mg "len" = none
  b_range : mg "range" = none
  b_enumerate : mg "enumerate" = none
  b_int : mg "int" = none
  b_isinstance : mg "isinstance" = none
  b_bool : mg "bool" = none
  b_list : mg "list" = none
  b_repr : mg "repr" = none
  g_RingPlay : mg "RingPlay" = some (.ref (cRingPlay aRingPlay).C)
  k_RingPlay : ClsOk K (cRingPlay aRingPlay)
  i_RingPlay : C8.InsC K (cRingPlay aRingPlay).C
section
variable {P : Program} {w : World} {K : PySem.W.Frag} {mg : Str → Option Value} {base : Heap} {aRingPlay : Addr}
abbrev s_RingPlay_init : Stmt := inClass (topS 1) 0
theorem sc_RingPlay_init : FnScope ["self", "places"] ["self", "places"] (defScope s_RingPlay_init) := ⟨rfl, rfl, rfl, by decide +kernel, rfl, by decide +kernel, by decide +kernel⟩
theorem ok_RingPlay_init {f : Addr} {fd : FuncData} (Fn : Fun K "__init__" "RingPlay.__init__" s_RingPlay_init f fd) (g : Gx K mg aRingPlay)  (len : ∀ ts P, (sp_RingPlay_init aRingPlay) ts P → ts.length = 2) (red : ∀ ts P, (sp_RingPlay_init aRingPlay) ts P → w_RingPlay_init aRingPlay (fin pm_RingPlay_init ts P) (Zl.entry 2 ts)) :
    FnG P w K mg base 1 f fd ["self", "places"] (spOf K (sp_RingPlay_init aRingPlay)) := by
  refine z_funG pm_RingPlay_init Fn sc_RingPlay_init rfl len fun cdv A outer s H E hgd hr => ⟨w_RingPlay_init aRingPlay, ?_, red⟩
  have hu := hr.units
  have nd := (sc_RingPlay_init).nd
  exact (zss_cons (zs_setF (cRingPlay aRingPlay) 0 0 g.k_RingPlay (ze_lst za_nil))
     (zss_cons (zs_setF (cRingPlay aRingPlay) 0 1 g.k_RingPlay ze_int)
     (zss_cons (zs_setF (cRingPlay aRingPlay) 0 2 g.k_RingPlay ze_int)
     (zss_cons (zs_setF (cRingPlay aRingPlay) 0 3 g.k_RingPlay ze_int)
     (zss_one (zs_setF (cRingPlay aRingPlay) 0 4 g.k_RingPlay (ze_op2 or_mul op2_mul (zo_v (ze_lst (za_cons (zo_v ze_non) za_nil))) (zo_s 1))))))))
abbrev s_may_put : Stmt := topS 2
theorem sc_may_put : FnScope ["play", "words"] ["play", "words"] (defScope s_may_put) := ⟨rfl, rfl, rfl, by decide +kernel, rfl, by decide +kernel, by decide +kernel⟩
theorem ok_may_put {f : Addr} {fd : FuncData} (Fn : Fun K "may_put" "may_put" s_may_put f fd) (g : Gx K mg aRingPlay)  (len : ∀ ts P, (sp_may_put aRingPlay) ts P → ts.length = 2) (red : ∀ ts P, (sp_may_put aRingPlay) ts P → w_may_put aRingPlay (fin pm_may_put ts P) (Zl.entry 2 ts)) :
    FnG P w K mg base 1 f fd ["play", "words"] (spOf K (sp_may_put aRingPlay)) := by
  refine z_funG pm_may_put Fn sc_may_put rfl len fun cdv A outer s H E hgd hr => ⟨w_may_put aRingPlay, ?_, red⟩
  have hu := hr.units
  have nd := (sc_may_put).nd
  exact (zss_one (zs_ret (ze_and (ze_vq (zv_cmp op_lt (op2_cmp _) (zq_v (zv_op2 op_sub op2_sub (zq_v (zv_p (zp_f (c := cRingPlay aRingPlay) 1 g.k_RingPlay (zp_s 0)))) (zq_v (zv_p (zp_f (c := cRingPlay aRingPlay) 2 g.k_RingPlay (zp_s 0)))))) (zq_v (zv_callB call_len opn_len (by rfl) g.b_len (by decide +kernel) (zqs_cons (zq_p (zp_f (c := cRingPlay aRingPlay) 4 g.k_RingPlay (zp_s 0))) zqs_nil))) (nomark _))) (ze_one (ze_cmp op_lt (op2_cmp _) (zo_v (ze_fld (cRingPlay aRingPlay) 1 g.k_RingPlay (zo_s 0))) (zo_v (ze_callB call_len opn_len (by rfl) g.b_len (by decide +kernel) (za_cons (zo_s 1) za_nil))) (nomark _))))))
abbrev s_may_take : Stmt := topS 3
theorem sc_may_take : FnScope ["play"] ["play"] (defScope s_may_take) := ⟨rfl, rfl, rfl, by decide +kernel, rfl, by decide +kernel, by decide +kernel⟩
theorem ok_may_take {f : Addr} {fd : FuncData} (Fn : Fun K "may_take" "may_take" s_may_take f fd) (g : Gx K mg aRingPlay)  (len : ∀ ts P, (sp_may_take aRingPlay) ts P → ts.length = 1) (red : ∀ ts P, (sp_may_take aRingPlay) ts P → w_may_take aRingPlay (fin pm_may_take ts P) (Zl.entry 1 ts)) :
    FnG P w K mg base 1 f fd ["play"] (spOf K (sp_may_take aRingPlay)) := by
  refine z_funG pm_may_take Fn sc_may_take rfl len fun cdv A outer s H E hgd hr => ⟨w_may_take aRingPlay, ?_, red⟩
  have hu := hr.units
  have nd := (sc_may_take).nd
  exact (zss_one (zs_ret (ze_cmp op_lt (op2_cmp _) (zo_v (ze_fld (cRingPlay aRingPlay) 2 g.k_RingPlay (zo_s 0))) (zo_v (ze_fld (cRingPlay aRingPlay) 1 g.k_RingPlay (zo_s 0))) (nomark _))))
abbrev s_put_word : Stmt := topS 4
theorem sc_put_word : FnScope ["play", "number", "words"] ["play", "number", "words"] (defScope s_put_word) := ⟨rfl, rfl, rfl, by decide +kernel, rfl, by decide +kernel, by decide +kernel⟩
theorem ok_put_word {f : Addr} {fd : FuncData} (Fn : Fun K "put_word" "put_word" s_put_word f fd) (g : Gx K mg aRingPlay)  (len : ∀ ts P, (sp_put_word aRingPlay) ts P → ts.length = 3) (red : ∀ ts P, (sp_put_word aRingPlay) ts P → w_put_word aRingPlay (fin pm_put_word ts P) (Zl.entry 3 ts)) :
    FnG P w K mg base 1 f fd ["play", "number", "words"] (spOf K (sp_put_word aRingPlay)) := by
  refine z_funG pm_put_word Fn sc_put_word rfl len fun cdv A outer s H E hgd hr => ⟨w_put_word aRingPlay, ?_, red⟩
  have hu := hr.units
  have nd := (sc_put_word).nd
  exact (zss_one (zs_setIxP (zv_ix ix_seq op2_ix (zq_s 2) (zq_s 1) (fun _ _ => rfl)) (zp_f (c := cRingPlay aRingPlay) 4 g.k_RingPlay (zp_s 0)) (zq_v (zv_op2 op_modN op2_mod (zq_s 1) (zq_v (zv_callB call_len opn_len (by rfl) g.b_len (by decide +kernel) (zqs_cons (zq_p (zp_f (c := cRingPlay aRingPlay) 4 g.k_RingPlay (zp_s 0))) zqs_nil)))))))
abbrev s_take_word : Stmt := topS 5
theorem sc_take_word : FnScope ["play", "number"] ["play", "number"] (defScope s_take_word) := ⟨rfl, rfl, rfl, by decide +kernel, rfl, by decide +kernel, by decide +kernel⟩
theorem ok_take_word {f : Addr} {fd : FuncData} (Fn : Fun K "take_word" "take_word" s_take_word f fd) (g : Gx K mg aRingPlay)  (len : ∀ ts P, (sp_take_word aRingPlay) ts P → ts.length = 2) (red : ∀ ts P, (sp_take_word aRingPlay) ts P → w_take_word aRingPlay (fin pm_take_word ts P) (Zl.entry 2 ts)) :
    FnG P w K mg base 1 f fd ["play", "number"] (spOf K (sp_take_word aRingPlay)) := by
  refine z_funG pm_take_word Fn sc_take_word rfl len fun cdv A outer s H E hgd hr => ⟨w_take_word aRingPlay, ?_, red⟩
  have hu := hr.units
  have nd := (sc_take_word).nd
  exact (zss_one (zs_expr (ze_mutP PySem.F.slot_list_append PySem.F.type_list_append mt_append mut_append (zp_f (c := cRingPlay aRingPlay) 0 g.k_RingPlay (zp_s 0)) (zvs_cons (zv_ix ix_seq op2_ix (zq_p (zp_f (c := cRingPlay aRingPlay) 4 g.k_RingPlay (zp_s 0))) (zq_v (zv_op2 op_modN op2_mod (zq_s 1) (zq_v (zv_callB call_len opn_len (by rfl) g.b_len (by decide +kernel) (zqs_cons (zq_p (zp_f (c := cRingPlay aRingPlay) 4 g.k_RingPlay (zp_s 0))) zqs_nil))))) (fun _ _ => rfl)) zvs_nil))))
abbrev s_handler_block : Stmt := topS 6
theorem sc_handler_block : FnScope ["play", "side", "words"] ["play", "side", "words"] (defScope s_handler_block) := ⟨rfl, rfl, rfl, by decide +kernel, rfl, by decide +kernel, by decide +kernel⟩
theorem ok_handler_block {f : Addr} {fd : FuncData} (Fn : Fun K "handler_block" "handler_block" s_handler_block f fd) (g : Gx K mg aRingPlay) (k_may_put : Cal P w K mg base "may_put" 1 ["play", "words"] (sp_may_put aRingPlay)) (k_put_word : Cal P w K mg base "put_word" 1 ["play", "number", "words"] (sp_put_word aRingPlay)) (k_may_take : Cal P w K mg base "may_take" 1 ["play"] (sp_may_take aRingPlay)) (k_take_word : Cal P w K mg base "take_word" 1 ["play", "number"] (sp_take_word aRingPlay)) (len : ∀ ts P, (sp_handler_block aRingPlay) ts P → ts.length = 3) (red : ∀ ts P, (sp_handler_block aRingPlay) ts P → w_handler_block aRingPlay (fin pm_handler_block ts P) (Zl.entry 3 ts)) :
    FnG P w K mg base 2 f fd ["play", "side", "words"] (spOf K (sp_handler_block aRingPlay)) := by
  refine z_funG pm_handler_block Fn sc_handler_block rfl len fun cdv A outer s H E hgd hr => ⟨w_handler_block aRingPlay, ?_, red⟩
  have hu := hr.units
  have nd := (sc_handler_block).nd
  exact (zss_one (zs_if (zt_cmp (or_eq hu) op2_eq (zo_s 1) (zo_v ze_str) (nomark _))
     (zss_one (zs_if (zt_val (ze_callC k_may_put hgd (hr.mono (by decide)) (by rfl) (za_cons (zo_s 0) (za_cons (zo_s 2) za_nil))))
     (zss_cons (zs_expr (ze_callC k_put_word hgd (hr.mono (by decide)) (by rfl) (za_cons (zo_s 0) (za_cons (zo_v (ze_fld (cRingPlay aRingPlay) 1 g.k_RingPlay (zo_s 0))) (za_cons (zo_s 2) za_nil)))))
     (zss_one (zs_augF (cRingPlay aRingPlay) 0 1 g.k_RingPlay (zq_v zv_int) in_add op2_inadd)))
     zss_nil))
     (zss_one (zs_if (zt_val (ze_callC k_may_take hgd (hr.mono (by decide)) (by rfl) (za_cons (zo_s 0) za_nil)))
     (zss_cons (zs_expr (ze_callC k_take_word hgd (hr.mono (by decide)) (by rfl) (za_cons (zo_s 0) (za_cons (zo_v (ze_fld (cRingPlay aRingPlay) 2 g.k_RingPlay (zo_s 0))) za_nil))))
     (zss_one (zs_augF (cRingPlay aRingPlay) 0 2 g.k_RingPlay (zq_v zv_int) in_add op2_inadd)))
     zss_nil))))
abbrev s_word_step : Stmt := topS 7
theorem sc_word_step : FnScope ["play", "side", "order", "words", "back"] ["play", "side", "order", "words"] (defScope s_word_step) := ⟨rfl, rfl, rfl, by decide +kernel, rfl, by decide +kernel, by decide +kernel⟩
theorem ok_word_step {f : Addr} {fd : FuncData} (Fn : Fun K "word_step" "word_step" s_word_step f fd) (g : Gx K mg aRingPlay) (k_take_word : Cal P w K mg base "take_word" 1 ["play", "number"] (sp_take_word aRingPlay)) (k_put_word : Cal P w K mg base "put_word" 1 ["play", "number", "words"] (sp_put_word aRingPlay)) (len : ∀ ts P, (sp_word_step aRingPlay) ts P → ts.length = 4) (red : ∀ ts P, (sp_word_step aRingPlay) ts P → w_word_step aRingPlay (fin pm_word_step ts P) (Zl.entry 5 ts)) :
    FnG P w K mg base 2 f fd ["play", "side", "order", "words"] (spOf K (sp_word_step aRingPlay)) := by
  refine z_funG pm_word_step Fn sc_word_step rfl len fun cdv A outer s H E hgd hr => ⟨w_word_step aRingPlay, ?_, red⟩
  have hu := hr.units
  have nd := (sc_word_step).nd
  exact (zss_cons (zs_set (i := 4) nd rfl (by first | exact Or.inl rfl | exact Or.inr rfl) (by decide) (ze_if (zt_cmp (or_eq hu) op2_eq (zo_s 2) (zo_v ze_str) (nomark _)) ze_int ze_int))
     (zss_one (zs_if (zt_cmp (or_eq hu) op2_eq (zo_s 1) (zo_v ze_str) (nomark _))
     (zss_one (zs_expr (ze_callC k_take_word hgd (hr.mono (by decide)) (by rfl) (za_cons (zo_s 0) (za_cons (zo_v (ze_op2 op_sub op2_sub (zo_v (ze_fld (cRingPlay aRingPlay) 2 g.k_RingPlay (zo_s 0))) (zo_s 4))) za_nil)))))
     (zss_one (zs_expr (ze_callC k_put_word hgd (hr.mono (by decide)) (by rfl) (za_cons (zo_s 0) (za_cons (zo_v (ze_op2 op_sub op2_sub (zo_v (ze_fld (cRingPlay aRingPlay) 1 g.k_RingPlay (zo_s 0))) (zo_s 4))) (za_cons (zo_s 3) za_nil)))))))))
abbrev s_main_step : Stmt := topS 8
theorem sc_main_step : FnScope ["play", "side", "order", "words", "ready"] ["play", "side", "order", "words"] (defScope s_main_step) := ⟨rfl, rfl, rfl, by decide +kernel, rfl, by decide +kernel, by decide +kernel⟩
theorem ok_main_step {f : Addr} {fd : FuncData} (Fn : Fun K "main_step" "main_step" s_main_step f fd) (g : Gx K mg aRingPlay) (k_may_take : Cal P w K mg base "may_take" 1 ["play"] (sp_may_take aRingPlay)) (k_may_put : Cal P w K mg base "may_put" 1 ["play", "words"] (sp_may_put aRingPlay)) (k_word_step : Cal P w K mg base "word_step" 2 ["play", "side", "order", "words"] (sp_word_step aRingPlay)) (len : ∀ ts P, (sp_main_step aRingPlay) ts P → ts.length = 4) (red : ∀ ts P, (sp_main_step aRingPlay) ts P → w_main_step aRingPlay (fin pm_main_step ts P) (Zl.entry 5 ts)) :
    FnG P w K mg base 3 f fd ["play", "side", "order", "words"] (spOf K (sp_main_step aRingPlay)) := by
  refine z_funG pm_main_step Fn sc_main_step rfl len fun cdv A outer s H E hgd hr => ⟨w_main_step aRingPlay, ?_, red⟩
  have hu := hr.units
  have nd := (sc_main_step).nd
  exact (zss_cons (zs_if (zt_cmp (or_eq hu) op2_eq (zo_v (ze_fld (cRingPlay aRingPlay) 3 g.k_RingPlay (zo_s 0))) (zo_v ze_int) (nomark _))
     (zss_cons (zs_set (i := 4) nd rfl (by first | exact Or.inl rfl | exact Or.inr rfl) (by decide) (ze_if (zt_cmp (or_eq hu) op2_eq (zo_s 1) (zo_v ze_str) (nomark _)) (ze_callC k_may_take hgd (hr.mono (by decide)) (by rfl) (za_cons (zo_s 0) za_nil)) (ze_callC k_may_put hgd (hr.mono (by decide)) (by rfl) (za_cons (zo_s 0) (za_cons (zo_s 3) za_nil)))))
     (zss_cons (zs_setF (cRingPlay aRingPlay) 0 3 g.k_RingPlay (ze_if (zt_tru (zo_s 4)) ze_int ze_int))
     (zss_one zs_retN)))
     zss_nil)
     (zss_cons (zs_if (zt_cmp (or_eq hu) op2_eq (zo_v (ze_cmp (or_eq hu) op2_eq (zo_v (ze_fld (cRingPlay aRingPlay) 3 g.k_RingPlay (zo_s 0))) (zo_v ze_int) (nomark _))) (zo_v (ze_cmp (or_eq hu) op2_eq (zo_s 2) (zo_v ze_str) (nomark _))) (nomark _))
     (zss_one (zs_expr (ze_callC k_word_step hgd (hr.mono (by decide)) (by rfl) (za_cons (zo_s 0) (za_cons (zo_s 1) (za_cons (zo_s 2) (za_cons (zo_s 3) za_nil)))))))
     (zss_one (zs_if (zt_cmp (or_eq hu) op2_eq (zo_s 1) (zo_v ze_str) (nomark _))
     (zss_one (zs_augF (cRingPlay aRingPlay) 0 2 g.k_RingPlay (zq_v zv_int) in_add op2_inadd))
     (zss_one (zs_augF (cRingPlay aRingPlay) 0 1 g.k_RingPlay (zq_v zv_int) in_add op2_inadd)))))
     (zss_one (zs_setF (cRingPlay aRingPlay) 0 3 g.k_RingPlay (ze_if (zt_cmp (or_eq hu) op2_eq (zo_v (ze_fld (cRingPlay aRingPlay) 3 g.k_RingPlay (zo_s 0))) (zo_v ze_int) (nomark _)) ze_int ze_int)))))
abbrev s_ring_played : Stmt := topS 9
theorem sc_ring_played : FnScope ["places", "side", "order", "blocks", "words", "play", "many", "_"] ["places", "side", "order", "blocks", "words"] (defScope s_ring_played) := ⟨rfl, rfl, rfl, by decide +kernel, rfl, by decide +kernel, by decide +kernel⟩
theorem ok_ring_played {f : Addr} {fd : FuncData} (Fn : Fun K "ring_played" "ring_played" s_ring_played f fd) (g : Gx K mg aRingPlay) (k_RingPlay_init : CalM P w K mg base "RingPlay" (cRingPlay aRingPlay) 1 ["self", "places"] (sp_RingPlay_init aRingPlay)) (k_handler_block : Cal P w K mg base "handler_block" 2 ["play", "side", "words"] (sp_handler_block aRingPlay)) (k_main_step : Cal P w K mg base "main_step" 3 ["play", "side", "order", "words"] (sp_main_step aRingPlay)) (len : ∀ ts P, (sp_ring_played aRingPlay) ts P → ts.length = 5) (red : ∀ ts P, (sp_ring_played aRingPlay) ts P → w_ring_played aRingPlay (fin pm_ring_played ts P) (Zl.entry 8 ts)) :
    FnG P w K mg base 4 f fd ["places", "side", "order", "blocks", "words"] (spOf K (sp_ring_played aRingPlay)) := by
  refine z_funG pm_ring_played Fn sc_ring_played rfl len fun cdv A outer s H E hgd hr => ⟨w_ring_played aRingPlay, ?_, red⟩
  have hu := hr.units
  have nd := (sc_ring_played).nd
  exact (zss_cons (zs_set (i := 5) nd rfl (by first | exact Or.inl rfl | exact Or.inr rfl) (by decide) (ze_makeC k_RingPlay_init hgd (hr.mono (by decide)) (by rfl) (za_cons (zo_s 0) za_nil)))
     (zss_cons (zs_for PassesOwn.never rfl (zi_slot 3 (by decide)) (zg_name (i := 6) nd rfl (by first | exact Or.inl rfl | exact Or.inr rfl) (by decide))
     (zss_cons (zs_for PassesOwn.never rfl (zi_rng1 (by rfl) g.b_range (za_cons (zo_s 6) za_nil)) (zg_name (i := 7) nd rfl (by first | exact Or.inl rfl | exact Or.inr rfl) (by decide))
     (zss_one (zs_expr (ze_callC k_handler_block hgd (hr.mono (by decide)) (by rfl) (za_cons (zo_s 5) (za_cons (zo_s 1) (za_cons (zo_s 4) za_nil)))))))
     (zss_one (zs_expr (ze_callC k_main_step hgd (hr.mono (by decide)) (by rfl) (za_cons (zo_s 5) (za_cons (zo_s 1) (za_cons (zo_s 2) (za_cons (zo_s 4) za_nil)))))))))
     (zss_one (zs_ret (ze_mov 5)))))
abbrev s_ring_fault : Stmt := topS 10
theorem sc_ring_fault : FnScope ["words", "taken", "index", "word"] ["words", "taken"] (defScope s_ring_fault) := ⟨rfl, rfl, rfl, by decide +kernel, rfl, by decide +kernel, by decide +kernel⟩
theorem ok_ring_fault {f : Addr} {fd : FuncData} (Fn : Fun K "ring_fault" "ring_fault" s_ring_fault f fd) (g : Gx K mg aRingPlay)  (len : ∀ ts P, sp_ring_fault ts P → ts.length = 2) (red : ∀ ts P, sp_ring_fault ts P → w_ring_fault (fin pm_ring_fault ts P) (Zl.entry 4 ts)) :
    FnG P w K mg base 1 f fd ["words", "taken"] (spOf K sp_ring_fault) := by
  refine z_funG pm_ring_fault Fn sc_ring_fault rfl len fun cdv A outer s H E hgd hr => ⟨w_ring_fault, ?_, red⟩
  have hu := hr.units
  have nd := (sc_ring_fault).nd
  exact (zss_cons (zs_for PassesOwn.never rfl (zi_enumS 1 (by rfl) g.b_enumerate (by decide)) (zg_tup (n := 2) rfl (zgs_cons (zg_name (i := 2) nd rfl (by first | exact Or.inl rfl | exact Or.inr rfl) (by decide)) (zgs_cons (zg_name (i := 3) nd rfl (by first | exact Or.inl rfl | exact Or.inr rfl) (by decide)) zgs_nil)) (zgn_len (zgn_len zgn_nil)))
     (zss_one (zs_if (zt_w (zw_or (zt_cmp op_ge (op2_cmp _) (zo_s 2) (zo_v (ze_callB call_len opn_len (by rfl) g.b_len (by decide +kernel) (za_cons (zo_s 0) za_nil))) (nomark _)) (zw_or1 (zt_cmp (or_ne hu) op2_ne (zo_s 3) (zo_v (ze_ix ix_seq op2_ix (zo_s 0) (zo_s 2) (fun _ _ => rfl))) (nomark _)))))
     (zss_one (zs_ret (ze_mov 2)))
     zss_nil)))
     (zss_one (zs_ret ze_non)))
abbrev s_wrong_blocks : Stmt := topS 11
theorem sc_wrong_blocks : FnScope ["places", "side"] ["places", "side"] (defScope s_wrong_blocks) := ⟨rfl, rfl, rfl, by decide +kernel, rfl, by decide +kernel, by decide +kernel⟩
theorem ok_wrong_blocks {f : Addr} {fd : FuncData} (Fn : Fun K "wrong_blocks" "wrong_blocks" s_wrong_blocks f fd) (g : Gx K mg aRingPlay)  (len : ∀ ts P, sp_wrong_blocks ts P → ts.length = 2) (red : ∀ ts P, sp_wrong_blocks ts P → w_wrong_blocks (fin pm_wrong_blocks ts P) (Zl.entry 2 ts)) :
    FnG P w K mg base 1 f fd ["places", "side"] (spOf K sp_wrong_blocks) := by
  refine z_funG pm_wrong_blocks Fn sc_wrong_blocks rfl len fun cdv A outer s H E hgd hr => ⟨w_wrong_blocks, ?_, red⟩
  have hu := hr.units
  have nd := (sc_wrong_blocks).nd
  exact (zss_cons (zs_if (zt_cmp (or_eq hu) op2_eq (zo_s 1) (zo_v ze_str) (nomark _))
     (zss_one (zs_ret (ze_lst (za_cons (zo_v (ze_var 0)) (za_cons (zo_v ze_int) (za_cons (zo_v ze_int) za_nil))))))
     zss_nil)
     (zss_one (zs_ret (ze_lst (za_cons (zo_v ze_int) (za_cons (zo_v ze_int) (za_cons (zo_v ze_int) za_nil)))))))
abbrev s_law_tape : Stmt := topS 13
theorem sc_law_tape : FnScope ["script", "rows", "seed", "k", "cell", "turn", "first"] ["script"] (defScope s_law_tape) := ⟨rfl, rfl, rfl, by decide +kernel, rfl, by decide +kernel, by decide +kernel⟩
theorem ok_law_tape {f : Addr} {fd : FuncData} (Fn : Fun K "_law_tape" "_law_tape" s_law_tape f fd) (g : Gx K mg aRingPlay)  (len : ∀ ts P, sp_law_tape ts P → ts.length = 1) (red : ∀ ts P, sp_law_tape ts P → w_law_tape (fin pm_law_tape ts P) (Zl.entry 7 ts)) :
    FnG P w K mg base 1 f fd ["script"] (spOf K sp_law_tape) := by
  refine z_funG pm_law_tape Fn sc_law_tape rfl len fun cdv A outer s H E hgd hr => ⟨w_law_tape, ?_, red⟩
  have hu := hr.units
  have nd := (sc_law_tape).nd
  exact (zss_cons (zs_set (i := 1) nd rfl (by first | exact Or.inl rfl | exact Or.inr rfl) (by decide) (ze_lst za_nil))
     (zss_cons (zs_set (i := 2) nd rfl (by first | exact Or.inl rfl | exact Or.inr rfl) (by decide) (ze_op2 or_add op2_add (zo_v (ze_op2 or_mul op2_mul (zo_v (ze_callB call_len opn_len (by rfl) g.b_len (by decide +kernel) (za_cons (zo_s 0) za_nil))) (zo_v ze_int))) (zo_v ze_int)))
     (zss_cons (zs_for PassesOwn.never rfl (zi_rng1 (by rfl) g.b_range (za_cons (zo_v ze_int) za_nil)) (zg_name (i := 3) nd rfl (by first | exact Or.inl rfl | exact Or.inr rfl) (by decide))
     (zss_one (zs_if (zt_cmp op_lt (op2_cmp _) (zo_s 3) (zo_v (ze_callB call_len opn_len (by rfl) g.b_len (by decide +kernel) (za_cons (zo_s 0) za_nil))) (nomark _))
     (zss_one (zs_set (i := 2) nd rfl (by first | exact Or.inl rfl | exact Or.inr rfl) (by decide) (ze_op2 op_modN op2_mod (zo_v (ze_callTy call_int1 opn_int (by rfl) g.b_int (by decide +kernel) (za_cons (zo_v (ze_op2 or_add op2_add (zo_v (ze_op2 or_mul op2_mul (zo_s 2) (zo_v ze_int))) (zo_v (ze_ix ix_seq op2_ix (zo_s 0) (zo_s 3) (fun _ _ => rfl))))) za_nil))) (zo_v ze_int))))
     zss_nil)))
     (zss_cons (zs_for PassesOwn.never rfl (zi_rng1 (by rfl) g.b_range (za_cons (zo_v ze_int) za_nil)) (zg_name (i := 3) nd rfl (by first | exact Or.inl rfl | exact Or.inr rfl) (by decide))
     (zss_cons (zs_set (i := 2) nd rfl (by first | exact Or.inl rfl | exact Or.inr rfl) (by decide) (ze_op2 op_modN op2_mod (zo_v (ze_callTy call_int1 opn_int (by rfl) g.b_int (by decide +kernel) (za_cons (zo_v (ze_op2 or_add op2_add (zo_v (ze_op2 or_add op2_add (zo_v (ze_op2 or_mul op2_mul (zo_s 2) (zo_v ze_int))) (zo_v (ze_op2 or_mul op2_mul (zo_v ze_int) (zo_s 3))))) (zo_v ze_int))) za_nil))) (zo_v ze_int)))
     (zss_one (zs_expr (ze_mut 1 PySem.F.slot_list_append PySem.F.type_list_append mt_append mut_append (za_cons (zo_v (ze_op2 op_fdivN op2_div (zo_s 2) (zo_v ze_int))) za_nil))))))
     (zss_cons (zs_for PassesOwn.never rfl (zi_rng1 (by rfl) g.b_range (za_cons (zo_v ze_int) za_nil)) (zg_name (i := 3) nd rfl (by first | exact Or.inl rfl | exact Or.inr rfl) (by decide))
     (zss_one (zs_if (zt_cmp op_lt (op2_cmp _) (zo_s 3) (zo_v (ze_callB call_len opn_len (by rfl) g.b_len (by decide +kernel) (za_cons (zo_s 0) za_nil))) (nomark _))
     (zss_cons (zs_set (i := 4) nd rfl (by first | exact Or.inl rfl | exact Or.inr rfl) (by decide) (ze_ix ix_seq op2_ix (zo_s 0) (zo_s 3) (fun _ _ => rfl)))
     (zss_one (zs_if (zt_cmp op_ge (op2_cmp _) (zo_s 4) (zo_v (ze_op2 op_pow op2_pow (zo_v ze_int) (zo_v ze_int))) (nomark _))
     (zss_one (zs_for PassesOwn.never rfl (zi_rng1 (by rfl) g.b_range (za_cons (zo_v ze_int) za_nil)) (zg_name (i := 5) nd rfl (by first | exact Or.inl rfl | exact Or.inr rfl) (by decide))
     (zss_one (zs_if (zt_cmp op_gt (op2_cmp _) (zo_s 4) (zo_v ze_int) (nomark _))
     (zss_cons (zs_expr (ze_mut 1 PySem.F.slot_list_append PySem.F.type_list_append mt_append mut_append (za_cons (zo_v (ze_op2 op_modN op2_mod (zo_v (ze_callTy call_int1 opn_int (by rfl) g.b_int (by decide +kernel) (za_cons (zo_s 4) za_nil))) (zo_v ze_int))) za_nil)))
     (zss_one (zs_set (i := 4) nd rfl (by first | exact Or.inl rfl | exact Or.inr rfl) (by decide) (ze_op2 op_fdivN op2_div (zo_s 4) (zo_v ze_int)))))
     zss_nil))))
     (zss_cons (zs_set (i := 6) nd rfl (by first | exact Or.inl rfl | exact Or.inr rfl) (by decide) (ze_op2 op_modN op2_mod (zo_v (ze_callTy call_int1 opn_int (by rfl) g.b_int (by decide +kernel) (za_cons (zo_v (ze_op2 or_add op2_add (zo_v (ze_op2 or_add op2_add (zo_v (ze_op2 or_mul op2_mul (zo_s 4) (zo_v ze_int))) (zo_v (ze_op2 or_mul op2_mul (zo_s 3) (zo_v ze_int))))) (zo_v ze_int))) za_nil))) (zo_v ze_int)))
     (zss_cons (zs_expr (ze_mut 1 PySem.F.slot_list_append PySem.F.type_list_append mt_append mut_append (za_cons (zo_v (ze_op2 op_fdivN op2_div (zo_v (ze_op2 op_modN op2_mod (zo_v (ze_callTy call_int1 opn_int (by rfl) g.b_int (by decide +kernel) (za_cons (zo_v (ze_op2 or_add op2_add (zo_v (ze_op2 or_mul op2_mul (zo_s 6) (zo_v ze_int))) (zo_s 3))) za_nil))) (zo_v ze_int))) (zo_v ze_int))) za_nil)))
     (zss_one (zs_expr (ze_mut 1 PySem.F.slot_list_append PySem.F.type_list_append mt_append mut_append (za_cons (zo_v (ze_op2 op_fdivN op2_div (zo_v (ze_op2 op_modN op2_mod (zo_v (ze_callTy call_int1 opn_int (by rfl) g.b_int (by decide +kernel) (za_cons (zo_v (ze_op2 or_add op2_add (zo_v (ze_op2 or_mul op2_mul (zo_s 6) (zo_v ze_int))) (zo_v ze_int))) za_nil))) (zo_v ze_int))) (zo_v ze_int))) za_nil)))))))))
     zss_nil)))
     (zss_one (zs_ret (ze_mov 1))))))))
abbrev s_law_draw : Stmt := topS 14
theorem sc_law_draw : FnScope ["rows", "size"] ["rows", "size"] (defScope s_law_draw) := ⟨rfl, rfl, rfl, by decide +kernel, rfl, by decide +kernel, by decide +kernel⟩
theorem ok_law_draw {f : Addr} {fd : FuncData} (Fn : Fun K "_law_draw" "_law_draw" s_law_draw f fd) (g : Gx K mg aRingPlay)  (len : ∀ ts P, sp_law_draw ts P → ts.length = 2) (red : ∀ ts P, sp_law_draw ts P → w_law_draw (fin pm_law_draw ts P) (Zl.entry 2 ts)) :
    FnG P w K mg base 1 f fd ["rows", "size"] (spOf K sp_law_draw) := by
  refine z_funG pm_law_draw Fn sc_law_draw rfl len fun cdv A outer s H E hgd hr => ⟨w_law_draw, ?_, red⟩
  have hu := hr.units
  have nd := (sc_law_draw).nd
  exact (zss_cons (zs_if (zt_cmp (or_eq hu) op2_eq (zo_v (ze_callB call_len opn_len (by rfl) g.b_len (by decide +kernel) (za_cons (zo_s 0) za_nil))) (zo_v ze_int) (nomark _))
     (zss_one (zs_ret ze_int))
     zss_nil)
     (zss_one (zs_ret (ze_op2 op_modN op2_mod (zo_v (ze_callTy call_int1 opn_int (by rfl) g.b_int (by decide +kernel) (za_cons (zo_v (ze_mut0 0 PySem.F.slot_list_pop PySem.F.type_list_pop mt_popAll mut_popAll)) za_nil))) (zo_s 1)))))
abbrev s_law_cells : Stmt := topS 15
theorem sc_law_cells : FnScope ["rows", "count", "k", "seed", "cells"] ["rows", "count"] (defScope s_law_cells) := ⟨rfl, rfl, rfl, by decide +kernel, rfl, by decide +kernel, by decide +kernel⟩
theorem ok_law_cells {f : Addr} {fd : FuncData} (Fn : Fun K "_law_cells" "_law_cells" s_law_cells f fd) (g : Gx K mg aRingPlay) (k_law_draw : Cal P w K mg base "_law_draw" 1 ["rows", "size"] sp_law_draw) (len : ∀ ts P, sp_law_cells ts P → ts.length = 2) (red : ∀ ts P, sp_law_cells ts P → w_law_cells (fin pm_law_cells ts P) (Zl.entry 5 ts)) :
    FnG P w K mg base 2 f fd ["rows", "count"] (spOf K sp_law_cells) := by
  refine z_funG pm_law_cells Fn sc_law_cells rfl len fun cdv A outer s H E hgd hr => ⟨w_law_cells, ?_, red⟩
  have hu := hr.units
  have nd := (sc_law_cells).nd
  exact (zss_cons (zs_if (zt_cmp op_ge (op2_cmp _) (zo_v (ze_callB call_len opn_len (by rfl) g.b_len (by decide +kernel) (za_cons (zo_s 0) za_nil))) (zo_v (ze_op2 or_add op2_add (zo_s 1) (zo_v ze_int))) (nomark _))
     (zss_one (zs_ret (ze_lc (own := [("k", 2)]) rfl nd (zi_rng1 (by rfl) g.b_range (za_cons (zo_s 1) za_nil)) (blkOk_by (by rfl)) (fun _ _ _ _ _ => (zg_name (i := 2) nd rfl (by first | exact Or.inl rfl | exact Or.inr rfl) (by decide))) (fun _ _ _ _ _ => zts_nil) (fun _ _ _ _ _ => (ze_callC k_law_draw hgd (hr.mono (by decide)) (by rfl) (za_cons (zo_s 0) (za_cons (zo_v ze_int) za_nil)))) (by decide) (by decide))))
     zss_nil)
     (zss_cons (zs_set (i := 3) nd rfl (by first | exact Or.inl rfl | exact Or.inr rfl) (by decide) (ze_callC k_law_draw hgd (hr.mono (by decide)) (by rfl) (za_cons (zo_s 0) (za_cons (zo_v ze_int) za_nil))))
     (zss_cons (zs_set (i := 4) nd rfl (by first | exact Or.inl rfl | exact Or.inr rfl) (by decide) (ze_lst za_nil))
     (zss_cons (zs_for PassesOwn.never rfl (zi_rng1 (by rfl) g.b_range (za_cons (zo_s 1) za_nil)) (zg_name (i := 2) nd rfl (by first | exact Or.inl rfl | exact Or.inr rfl) (by decide))
     (zss_cons (zs_set (i := 3) nd rfl (by first | exact Or.inl rfl | exact Or.inr rfl) (by decide) (ze_op2 op_modN op2_mod (zo_v (ze_callTy call_int1 opn_int (by rfl) g.b_int (by decide +kernel) (za_cons (zo_v (ze_op2 or_add op2_add (zo_v (ze_op2 or_add op2_add (zo_v (ze_op2 or_mul op2_mul (zo_s 3) (zo_v ze_int))) (zo_v (ze_op2 or_mul op2_mul (zo_v ze_int) (zo_s 2))))) (zo_v ze_int))) za_nil))) (zo_v ze_int)))
     (zss_one (zs_expr (ze_mut 4 PySem.F.slot_list_append PySem.F.type_list_append mt_append mut_append (za_cons (zo_v (ze_op2 op_fdivN op2_div (zo_s 3) (zo_v ze_int))) za_nil))))))
     (zss_one (zs_ret (ze_mov 4)))))))
abbrev s_law_words : Stmt := topS 16
theorem sc_law_words : FnScope ["rows", "cells", "way", "words", "k"] ["rows"] (defScope s_law_words) := ⟨rfl, rfl, rfl, by decide +kernel, rfl, by decide +kernel, by decide +kernel⟩
theorem ok_law_words {f : Addr} {fd : FuncData} (Fn : Fun K "_law_words" "_law_words" s_law_words f fd) (g : Gx K mg aRingPlay) (k_law_cells : Cal P w K mg base "_law_cells" 2 ["rows", "count"] sp_law_cells) (k_law_draw : Cal P w K mg base "_law_draw" 1 ["rows", "size"] sp_law_draw) (len : ∀ ts P, sp_law_words ts P → ts.length = 1) (red : ∀ ts P, sp_law_words ts P → w_law_words (fin pm_law_words ts P) (Zl.entry 5 ts)) :
    FnG P w K mg base 3 f fd ["rows"] (spOf K sp_law_words) := by
  refine z_funG pm_law_words Fn sc_law_words rfl len fun cdv A outer s H E hgd hr => ⟨w_law_words, ?_, red⟩
  have hu := hr.units
  have nd := (sc_law_words).nd
  exact (zss_cons (zs_set (i := 1) nd rfl (by first | exact Or.inl rfl | exact Or.inr rfl) (by decide) (ze_callC k_law_cells hgd (hr.mono (by decide)) (by rfl) (za_cons (zo_s 0) (za_cons (zo_v (ze_callC k_law_draw hgd (hr.mono (by decide)) (by rfl) (za_cons (zo_s 0) (za_cons (zo_v (ze_ix ix_seq op2_ix (zo_v (ze_lst (za_cons (zo_v ze_int) (za_cons (zo_v ze_int) za_nil)))) (zo_v (ze_callC k_law_draw hgd (hr.mono (by decide)) (by rfl) (za_cons (zo_s 0) (za_cons (zo_v ze_int) za_nil)))) (fun _ _ => rfl))) za_nil)))) za_nil))))
     (zss_cons (zs_set (i := 2) nd rfl (by first | exact Or.inl rfl | exact Or.inr rfl) (by decide) (ze_callC k_law_draw hgd (hr.mono (by decide)) (by rfl) (za_cons (zo_s 0) (za_cons (zo_v ze_int) za_nil))))
     (zss_cons (zs_set (i := 3) nd rfl (by first | exact Or.inl rfl | exact Or.inr rfl) (by decide) (ze_lst za_nil))
     (zss_cons (zs_for PassesOwn.never rfl (zi_rng1 (by rfl) g.b_range (za_cons (zo_v (ze_callB call_len opn_len (by rfl) g.b_len (by decide +kernel) (za_cons (zo_s 1) za_nil))) za_nil)) (zg_name (i := 4) nd rfl (by first | exact Or.inl rfl | exact Or.inr rfl) (by decide))
     (zss_one (zs_if (zt_cmp (or_eq hu) op2_eq (zo_s 2) (zo_v ze_int) (nomark _))
     (zss_one (zs_expr (ze_mut 3 PySem.F.slot_list_append PySem.F.type_list_append mt_append mut_append (za_cons (zo_v (ze_op2 op_sub op2_sub (zo_v (ze_op2 op_modN op2_mod (zo_v (ze_callTy call_int1 opn_int (by rfl) g.b_int (by decide +kernel) (za_cons (zo_v (ze_ix ix_seq op2_ix (zo_s 1) (zo_s 4) (fun _ _ => rfl))) za_nil))) (zo_v ze_int))) (zo_v ze_int))) za_nil))))
     (zss_one (zs_if (zt_cmp (or_eq hu) op2_eq (zo_s 2) (zo_v ze_int) (nomark _))
     (zss_one (zs_expr (ze_mut 3 PySem.F.slot_list_append PySem.F.type_list_append mt_append mut_append (za_cons (zo_v (ze_op2 or_add op2_add (zo_v (ze_op2 or_mul op2_mul (zo_v ze_int) (zo_s 4))) (zo_v (ze_op2 op_modN op2_mod (zo_v (ze_callTy call_int1 opn_int (by rfl) g.b_int (by decide +kernel) (za_cons (zo_v (ze_ix ix_seq op2_ix (zo_s 1) (zo_s 4) (fun _ _ => rfl))) za_nil))) (zo_v ze_int))))) za_nil))))
     (zss_one (zs_expr (ze_mut 3 PySem.F.slot_list_append PySem.F.type_list_append mt_append mut_append (za_cons (zo_v (ze_op2 or_add op2_add (zo_v (ze_op2 or_mul op2_mul (zo_v (ze_op2 op_sub op2_sub (zo_v (ze_op2 op_modN op2_mod (zo_v (ze_callTy call_int1 opn_int (by rfl) g.b_int (by decide +kernel) (za_cons (zo_v (ze_ix ix_seq op2_ix (zo_s 1) (zo_s 4) (fun _ _ => rfl))) za_nil))) (zo_v ze_int))) (zo_v ze_int))) (zo_v (ze_op2 op_pow op2_pow (zo_v ze_int) (zo_v ze_int))))) (zo_s 4))) za_nil)))))))))
     (zss_one (zs_ret (ze_mov 3)))))))
abbrev s_law_blocks : Stmt := topS 17
theorem sc_law_blocks : FnScope ["rows", "places", "cells", "blocks", "cell", "size"] ["rows", "places"] (defScope s_law_blocks) := ⟨rfl, rfl, rfl, by decide +kernel, rfl, by decide +kernel, by decide +kernel⟩
theorem ok_law_blocks {f : Addr} {fd : FuncData} (Fn : Fun K "_law_blocks" "_law_blocks" s_law_blocks f fd) (g : Gx K mg aRingPlay) (k_law_cells : Cal P w K mg base "_law_cells" 2 ["rows", "count"] sp_law_cells) (k_law_draw : Cal P w K mg base "_law_draw" 1 ["rows", "size"] sp_law_draw) (len : ∀ ts P, sp_law_blocks ts P → ts.length = 2) (red : ∀ ts P, sp_law_blocks ts P → w_law_blocks (fin pm_law_blocks ts P) (Zl.entry 6 ts)) :
    FnG P w K mg base 3 f fd ["rows", "places"] (spOf K sp_law_blocks) := by
  refine z_funG pm_law_blocks Fn sc_law_blocks rfl len fun cdv A outer s H E hgd hr => ⟨w_law_blocks, ?_, red⟩
  have hu := hr.units
  have nd := (sc_law_blocks).nd
  exact (zss_cons (zs_set (i := 2) nd rfl (by first | exact Or.inl rfl | exact Or.inr rfl) (by decide) (ze_callC k_law_cells hgd (hr.mono (by decide)) (by rfl) (za_cons (zo_s 0) (za_cons (zo_v (ze_callC k_law_draw hgd (hr.mono (by decide)) (by rfl) (za_cons (zo_s 0) (za_cons (zo_v (ze_ix ix_seq op2_ix (zo_v (ze_lst (za_cons (zo_v ze_int) (za_cons (zo_v ze_int) (za_cons (zo_v ze_int) za_nil))))) (zo_v (ze_callC k_law_draw hgd (hr.mono (by decide)) (by rfl) (za_cons (zo_s 0) (za_cons (zo_v ze_int) za_nil)))) (fun _ _ => rfl))) za_nil)))) za_nil))))
     (zss_cons (zs_set (i := 3) nd rfl (by first | exact Or.inl rfl | exact Or.inr rfl) (by decide) (ze_lst za_nil))
     (zss_cons (zs_pin 2 (zs_for PassesOwn.never rfl (zi_slot 2 (by decide)) (zg_name (i := 4) nd rfl (by first | exact Or.inl rfl | exact Or.inr rfl) (by decide))
     (zss_cons (zs_set (i := 5) nd rfl (by first | exact Or.inl rfl | exact Or.inr rfl) (by decide) (ze_ix ix_seq op2_ix (zo_v (ze_lst (za_cons (zo_v ze_int) (za_cons (zo_v ze_int) (za_cons (zo_v ze_int) (za_cons (zo_v ze_int) (za_cons (zo_v ze_int) (za_cons (zo_v (ze_op2 or_add op2_add (zo_s 1) (zo_v ze_int))) (za_cons (zo_v (ze_op2 or_add op2_add (zo_s 1) (zo_v ze_int))) (za_cons (zo_v ze_int) za_nil)))))))))) (zo_v (ze_op2 op_modN op2_mod (zo_v (ze_callTy call_int1 opn_int (by rfl) g.b_int (by decide +kernel) (za_cons (zo_v (ze_op2 op_fdivN op2_div (zo_s 4) (zo_v ze_int))) za_nil))) (zo_v ze_int))) (fun _ _ => rfl)))
     (zss_one (zs_expr (ze_mut 3 PySem.F.slot_list_append PySem.F.type_list_append mt_append mut_append (za_cons (zo_v (ze_op2 op_modN op2_mod (zo_v (ze_callTy call_int1 opn_int (by rfl) g.b_int (by decide +kernel) (za_cons (zo_s 4) za_nil))) (zo_s 5))) za_nil)))))))
     (zss_one (zs_ret (ze_mov 3))))))
abbrev s_law_is : Stmt := topS 18
theorem sc_law_is : FnScope ["told", "due"] ["told", "due"] (defScope s_law_is) := ⟨rfl, rfl, rfl, by decide +kernel, rfl, by decide +kernel, by decide +kernel⟩
theorem ok_law_is {f : Addr} {fd : FuncData} (Fn : Fun K "_law_is" "_law_is" s_law_is f fd) (g : Gx K mg aRingPlay)  (len : ∀ ts P, sp_law_is ts P → ts.length = 2) (red : ∀ ts P, sp_law_is ts P → w_law_is (fin pm_law_is ts P) (Zl.entry 2 ts)) :
    FnG P w K mg base 1 f fd ["told", "due"] (spOf K sp_law_is) := by
  refine z_funG pm_law_is Fn sc_law_is rfl len fun cdv A outer s H E hgd hr => ⟨w_law_is, ?_, red⟩
  have hu := hr.units
  have nd := (sc_law_is).nd
  exact (zss_one (zs_ret (ze_and (ze_callB call_isi opn_isi (by rfl) g.b_isinstance (by decide +kernel) (za_cons (zo_s 0) (za_cons (zo_v (ze_ty (by rfl) g.b_int (by decide +kernel))) za_nil))) (ze_and (ze_not (ze_callB call_isi opn_isi (by rfl) g.b_isinstance (by decide +kernel) (za_cons (zo_s 0) (za_cons (zo_v (ze_ty (by rfl) g.b_bool (by decide +kernel))) za_nil)))) (ze_one (ze_cmp (or_eq hu) op2_eq (zo_s 0) (zo_s 1) (nomark _)))))))
abbrev s_law_same : Stmt := topS 19
theorem sc_law_same : FnScope ["told", "due", "k"] ["told", "due"] (defScope s_law_same) := ⟨rfl, rfl, rfl, by decide +kernel, rfl, by decide +kernel, by decide +kernel⟩
theorem ok_law_same {f : Addr} {fd : FuncData} (Fn : Fun K "_law_same" "_law_same" s_law_same f fd) (g : Gx K mg aRingPlay) (k_law_is : Cal P w K mg base "_law_is" 1 ["told", "due"] sp_law_is) (len : ∀ ts P, sp_law_same ts P → ts.length = 2) (red : ∀ ts P, sp_law_same ts P → w_law_same (fin pm_law_same ts P) (Zl.entry 3 ts)) :
    FnG P w K mg base 2 f fd ["told", "due"] (spOf K sp_law_same) := by
  refine z_funG pm_law_same Fn sc_law_same rfl len fun cdv A outer s H E hgd hr => ⟨w_law_same, ?_, red⟩
  have hu := hr.units
  have nd := (sc_law_same).nd
  exact (zss_cons (zs_if (zt_w (zw_or (zt_not (zt_val (ze_callB call_isi opn_isi (by rfl) g.b_isinstance (by decide +kernel) (za_cons (zo_s 0) (za_cons (zo_v (ze_ty (by rfl) g.b_list (by decide +kernel))) za_nil))))) (zw_or1 (zt_cmp (or_ne hu) op2_ne (zo_v (ze_callB call_len opn_len (by rfl) g.b_len (by decide +kernel) (za_cons (zo_s 0) za_nil))) (zo_v (ze_callB call_len opn_len (by rfl) g.b_len (by decide +kernel) (za_cons (zo_s 1) za_nil))) (nomark _)))))
     (zss_one (zs_ret ze_bl))
     zss_nil)
     (zss_cons (zs_for PassesOwn.never rfl (zi_rng1 (by rfl) g.b_range (za_cons (zo_v (ze_callB call_len opn_len (by rfl) g.b_len (by decide +kernel) (za_cons (zo_s 1) za_nil))) za_nil)) (zg_name (i := 2) nd rfl (by first | exact Or.inl rfl | exact Or.inr rfl) (by decide))
     (zss_cons (zs_if (zt_w (zw_and (zt_cmp or_is op2_is (zo_v (ze_ix ix_seq op2_ix (zo_s 1) (zo_s 2) (fun _ _ => rfl))) (zo_v ze_non) (nomark _)) (zw_and1 (zt_cmp or_isnot op2_isnot (zo_v (ze_ix ix_seq op2_ix (zo_s 0) (zo_s 2) (fun _ _ => rfl))) (zo_v ze_non) (nomark _)))))
     (zss_one (zs_ret ze_bl))
     zss_nil)
     (zss_one (zs_if (zt_w (zw_and (zt_cmp or_isnot op2_isnot (zo_v (ze_ix ix_seq op2_ix (zo_s 1) (zo_s 2) (fun _ _ => rfl))) (zo_v ze_non) (nomark _)) (zw_and1 (zt_not (zt_val (ze_callC k_law_is hgd (hr.mono (by decide)) (by rfl) (za_cons (zo_v (ze_ix ix_seq op2_ix (zo_s 0) (zo_s 2) (fun _ _ => rfl))) (za_cons (zo_v (ze_ix ix_seq op2_ix (zo_s 1) (zo_s 2) (fun _ _ => rfl))) za_nil))))))))
     (zss_one (zs_ret ze_bl))
     zss_nil))))
     (zss_one (zs_ret ze_bl))))
abbrev s_law_play : Stmt := topS 20
theorem sc_law_play : FnScope ["places", "side", "blocks", "words", "p", "q", "at", "number", "slots", "taken", "block", "turn"] ["places", "side", "blocks", "words"] (defScope s_law_play) := ⟨rfl, rfl, rfl, by decide +kernel, rfl, by decide +kernel, by decide +kernel⟩
theorem ok_law_play {f : Addr} {fd : FuncData} (Fn : Fun K "_law_play" "_law_play" s_law_play f fd) (g : Gx K mg aRingPlay)  (len : ∀ ts P, sp_law_play ts P → ts.length = 4) (red : ∀ ts P, sp_law_play ts P → w_law_play (fin pm_law_play ts P) (Zl.entry 12 ts)) :
    FnG P w K mg base 1 f fd ["places", "side", "blocks", "words"] (spOf K sp_law_play) := by
  refine z_funG pm_law_play Fn sc_law_play rfl len fun cdv A outer s H E hgd hr => ⟨w_law_play, ?_, red⟩
  have hu := hr.units
  have nd := (sc_law_play).nd
  exact (zss_cons (zs_set (i := 4) nd rfl (by first | exact Or.inl rfl | exact Or.inr rfl) (by decide) ze_int)
     (zss_cons (zs_set (i := 5) nd rfl (by first | exact Or.inl rfl | exact Or.inr rfl) (by decide) ze_int)
     (zss_cons (zs_set (i := 6) nd rfl (by first | exact Or.inl rfl | exact Or.inr rfl) (by decide) ze_int)
     (zss_cons (zs_set (i := 7) nd rfl (by first | exact Or.inl rfl | exact Or.inr rfl) (by decide) ze_int)
     (zss_cons (zs_set (i := 8) nd rfl (by first | exact Or.inl rfl | exact Or.inr rfl) (by decide) (ze_op2 or_mul op2_mul (zo_v (ze_lst (za_cons (zo_v ze_non) za_nil))) (zo_s 0)))
     (zss_cons (zs_set (i := 9) nd rfl (by first | exact Or.inl rfl | exact Or.inr rfl) (by decide) (ze_lst za_nil))
     (zss_cons (zs_for PassesOwn.never rfl (zi_slot 2 (by decide)) (zg_name (i := 10) nd rfl (by first | exact Or.inl rfl | exact Or.inr rfl) (by decide))
     (zss_cons (zs_for PassesOwn.never rfl (zi_rng1 (by rfl) g.b_range (za_cons (zo_s 10) za_nil)) (zg_name (i := 11) nd rfl (by first | exact Or.inl rfl | exact Or.inr rfl) (by decide))
     (zss_cons (zs_if (zt_w (zw_and (zt_cmp (or_eq hu) op2_eq (zo_s 1) (zo_v ze_str) (nomark _)) (zw_and (zt_cmp op_lt (op2_cmp _) (zo_v (ze_op2 op_sub op2_sub (zo_s 4) (zo_s 5))) (zo_s 0) (nomark _)) (zw_and1 (zt_cmp op_lt (op2_cmp _) (zo_s 4) (zo_v (ze_callB call_len opn_len (by rfl) g.b_len (by decide +kernel) (za_cons (zo_s 3) za_nil))) (nomark _))))))
     (zss_cons (zs_setIx 8 (ze_ix ix_seq op2_ix (zo_s 3) (zo_s 4) (fun _ _ => rfl)) (zo_v (ze_op2 op_modN op2_mod (zo_v (ze_callTy call_int1 opn_int (by rfl) g.b_int (by decide +kernel) (za_cons (zo_s 4) za_nil))) (zo_s 0))))
     (zss_one (zs_set (i := 4) nd rfl (by first | exact Or.inl rfl | exact Or.inr rfl) (by decide) (ze_op2 or_add op2_add (zo_s 4) (zo_v ze_int)))))
     zss_nil)
     (zss_one (zs_if (zt_w (zw_and (zt_cmp (or_eq hu) op2_eq (zo_s 1) (zo_v ze_str) (nomark _)) (zw_and1 (zt_cmp op_lt (op2_cmp _) (zo_s 5) (zo_s 4) (nomark _)))))
     (zss_cons (zs_expr (ze_mut 9 PySem.F.slot_list_append PySem.F.type_list_append mt_append mut_append (za_cons (zo_v (ze_ix ix_seq op2_ix (zo_s 8) (zo_v (ze_op2 op_modN op2_mod (zo_v (ze_callTy call_int1 opn_int (by rfl) g.b_int (by decide +kernel) (za_cons (zo_s 5) za_nil))) (zo_s 0))) (fun _ _ => rfl))) za_nil)))
     (zss_one (zs_set (i := 5) nd rfl (by first | exact Or.inl rfl | exact Or.inr rfl) (by decide) (ze_op2 or_add op2_add (zo_s 5) (zo_v ze_int)))))
     zss_nil))))
     (zss_one (zs_if (zt_w (zw_and (zt_cmp (or_eq hu) op2_eq (zo_s 6) (zo_v ze_int) (nomark _)) (zw_and (zt_cmp (or_eq hu) op2_eq (zo_s 1) (zo_v ze_str) (nomark _)) (zw_and1 (zt_cmp op_lt (op2_cmp _) (zo_s 5) (zo_s 4) (nomark _))))))
     (zss_cons (zs_set (i := 7) nd rfl (by first | exact Or.inl rfl | exact Or.inr rfl) (by decide) (ze_var 5))
     (zss_one (zs_set (i := 6) nd rfl (by first | exact Or.inl rfl | exact Or.inr rfl) (by decide) ze_int)))
     (zss_one (zs_if (zt_w (zw_and (zt_cmp (or_eq hu) op2_eq (zo_s 6) (zo_v ze_int) (nomark _)) (zw_and (zt_cmp (or_eq hu) op2_eq (zo_s 1) (zo_v ze_str) (nomark _)) (zw_and (zt_cmp op_lt (op2_cmp _) (zo_v (ze_op2 op_sub op2_sub (zo_s 4) (zo_s 5))) (zo_s 0) (nomark _)) (zw_and1 (zt_cmp op_lt (op2_cmp _) (zo_s 4) (zo_v (ze_callB call_len opn_len (by rfl) g.b_len (by decide +kernel) (za_cons (zo_s 3) za_nil))) (nomark _)))))))
     (zss_cons (zs_set (i := 7) nd rfl (by first | exact Or.inl rfl | exact Or.inr rfl) (by decide) (ze_var 4))
     (zss_one (zs_set (i := 6) nd rfl (by first | exact Or.inl rfl | exact Or.inr rfl) (by decide) ze_int)))
     (zss_one (zs_if (zt_cmp (or_eq hu) op2_eq (zo_s 6) (zo_v ze_int) (nomark _))
     (zss_cons (zs_set (i := 6) nd rfl (by first | exact Or.inl rfl | exact Or.inr rfl) (by decide) ze_int)
     (zss_one (zs_if (zt_cmp (or_eq hu) op2_eq (zo_s 1) (zo_v ze_str) (nomark _))
     (zss_one (zs_set (i := 5) nd rfl (by first | exact Or.inl rfl | exact Or.inr rfl) (by decide) (ze_op2 or_add op2_add (zo_s 5) (zo_v ze_int))))
     (zss_one (zs_set (i := 4) nd rfl (by first | exact Or.inl rfl | exact Or.inr rfl) (by decide) (ze_op2 or_add op2_add (zo_s 4) (zo_v ze_int)))))))
     (zss_one (zs_if (zt_cmp (or_eq hu) op2_eq (zo_s 6) (zo_v ze_int) (nomark _))
     (zss_cons (zs_set (i := 6) nd rfl (by first | exact Or.inl rfl | exact Or.inr rfl) (by decide) ze_int)
     (zss_one (zs_if (zt_cmp (or_eq hu) op2_eq (zo_s 1) (zo_v ze_str) (nomark _))
     (zss_one (zs_expr (ze_mut 9 PySem.F.slot_list_append PySem.F.type_list_append mt_append mut_append (za_cons (zo_v (ze_ix ix_seq op2_ix (zo_s 8) (zo_v (ze_op2 op_modN op2_mod (zo_v (ze_callTy call_int1 opn_int (by rfl) g.b_int (by decide +kernel) (za_cons (zo_s 7) za_nil))) (zo_s 0))) (fun _ _ => rfl))) za_nil))))
     (zss_one (zs_setIx 8 (ze_ix ix_seq op2_ix (zo_s 3) (zo_s 7) (fun _ _ => rfl)) (zo_v (ze_op2 op_modN op2_mod (zo_v (ze_callTy call_int1 opn_int (by rfl) g.b_int (by decide +kernel) (za_cons (zo_s 7) za_nil))) (zo_s 0))))))))
     zss_nil))))))))))
     (zss_one (zs_ret (ze_lst (za_cons (zo_v (ze_var 4)) (za_cons (zo_v (ze_var 5)) (za_cons (zo_v (ze_var 6)) (za_cons (zo_v (ze_var 9)) (za_cons (zo_v (ze_var 8)) za_nil)))))))))))))))
abbrev s_law_fault : Stmt := topS 21
theorem sc_law_fault : FnScope ["words", "taken", "index"] ["words", "taken"] (defScope s_law_fault) := ⟨rfl, rfl, rfl, by decide +kernel, rfl, by decide +kernel, by decide +kernel⟩
theorem ok_law_fault {f : Addr} {fd : FuncData} (Fn : Fun K "_law_fault" "_law_fault" s_law_fault f fd) (g : Gx K mg aRingPlay)  (len : ∀ ts P, sp_law_fault ts P → ts.length = 2) (red : ∀ ts P, sp_law_fault ts P → w_law_fault (fin pm_law_fault ts P) (Zl.entry 3 ts)) :
    FnG P w K mg base 1 f fd ["words", "taken"] (spOf K sp_law_fault) := by
  refine z_funG pm_law_fault Fn sc_law_fault rfl len fun cdv A outer s H E hgd hr => ⟨w_law_fault, ?_, red⟩
  have hu := hr.units
  have nd := (sc_law_fault).nd
  exact (zss_cons (zs_for PassesOwn.never rfl (zi_rng1 (by rfl) g.b_range (za_cons (zo_v (ze_callB call_len opn_len (by rfl) g.b_len (by decide +kernel) (za_cons (zo_s 1) za_nil))) za_nil)) (zg_name (i := 2) nd rfl (by first | exact Or.inl rfl | exact Or.inr rfl) (by decide))
     (zss_one (zs_if (zt_w (zw_or (zt_cmp op_ge (op2_cmp _) (zo_s 2) (zo_v (ze_callB call_len opn_len (by rfl) g.b_len (by decide +kernel) (za_cons (zo_s 0) za_nil))) (nomark _)) (zw_or (zt_cmp or_is op2_is (zo_v (ze_ix ix_seq op2_ix (zo_s 1) (zo_s 2) (fun _ _ => rfl))) (zo_v ze_non) (nomark _)) (zw_or1 (zt_cmp (or_ne hu) op2_ne (zo_v (ze_ix ix_seq op2_ix (zo_s 1) (zo_s 2) (fun _ _ => rfl))) (zo_v (ze_ix ix_seq op2_ix (zo_s 0) (zo_s 2) (fun _ _ => rfl))) (nomark _))))))
     (zss_one (zs_ret (ze_mov 2)))
     zss_nil)))
     (zss_one (zs_ret ze_non)))
abbrev s_law_told : Stmt := topS 22
theorem sc_law_told : FnScope ["told", "due"] ["told", "due"] (defScope s_law_told) := ⟨rfl, rfl, rfl, by decide +kernel, rfl, by decide +kernel, by decide +kernel⟩
theorem ok_law_told {f : Addr} {fd : FuncData} (Fn : Fun K "_law_told" "_law_told" s_law_told f fd) (g : Gx K mg aRingPlay) (k_law_is : Cal P w K mg base "_law_is" 1 ["told", "due"] sp_law_is) (len : ∀ ts P, sp_law_told ts P → ts.length = 2) (red : ∀ ts P, sp_law_told ts P → w_law_told (fin pm_law_told ts P) (Zl.entry 2 ts)) :
    FnG P w K mg base 2 f fd ["told", "due"] (spOf K sp_law_told) := by
  refine z_funG pm_law_told Fn sc_law_told rfl len fun cdv A outer s H E hgd hr => ⟨w_law_told, ?_, red⟩
  have hu := hr.units
  have nd := (sc_law_told).nd
  exact (zss_cons (zs_if (zt_cmp or_is op2_is (zo_s 1) (zo_v ze_non) (nomark _))
     (zss_one (zs_ret (ze_cmp or_is op2_is (zo_s 0) (zo_v ze_non) (nomark _))))
     zss_nil)
     (zss_one (zs_ret (ze_callC k_law_is hgd (hr.mono (by decide)) (by rfl) (za_cons (zo_s 0) (za_cons (zo_s 1) za_nil))))))
abbrev s_law_right : Stmt := topS 23
theorem sc_law_right : FnScope ["play", "due", "words"] ["play", "due", "words"] (defScope s_law_right) := ⟨rfl, rfl, rfl, by decide +kernel, rfl, by decide +kernel, by decide +kernel⟩
theorem ok_law_right {f : Addr} {fd : FuncData} (Fn : Fun K "_law_right" "_law_right" s_law_right f fd) (g : Gx K mg aRingPlay) (k_law_is : Cal P w K mg base "_law_is" 1 ["told", "due"] sp_law_is) (k_law_same : Cal P w K mg base "_law_same" 2 ["told", "due"] sp_law_same) (k_law_told : Cal P w K mg base "_law_told" 2 ["told", "due"] sp_law_told) (k_law_fault : Cal P w K mg base "_law_fault" 1 ["words", "taken"] sp_law_fault) (k_ring_fault : Cal P w K mg base "ring_fault" 1 ["words", "taken"] sp_ring_fault) (len : ∀ ts P, (sp_law_right aRingPlay) ts P → ts.length = 3) (red : ∀ ts P, (sp_law_right aRingPlay) ts P → w_law_right aRingPlay (fin pm_law_right ts P) (Zl.entry 3 ts)) :
    FnG P w K mg base 3 f fd ["play", "due", "words"] (spOf K (sp_law_right aRingPlay)) := by
  refine z_funG pm_law_right Fn sc_law_right rfl len fun cdv A outer s H E hgd hr => ⟨w_law_right aRingPlay, ?_, red⟩
  have hu := hr.units
  have nd := (sc_law_right).nd
  exact (zss_cons (zs_if (zt_w (zw_or (zt_not (zt_val (ze_callB (C8.call_isC g.i_RingPlay) (opn_isiC (c := (cRingPlay aRingPlay))) (by rfl) g.b_isinstance (by decide +kernel) (za_cons (zo_s 0) (za_cons (zo_v (ze_cls (by rfl) g.g_RingPlay)) za_nil))))) (zw_or (zt_not (zt_val (ze_callC k_law_is hgd (hr.mono (by decide)) (by rfl) (za_cons (zo_v (ze_fld (cRingPlay aRingPlay) 1 g.k_RingPlay (zo_s 0))) (za_cons (zo_v (ze_ix ix_seq op2_ix (zo_s 1) (zo_v ze_int) (fun _ _ => rfl))) za_nil))))) (zw_or1 (zt_not (zt_val (ze_callC k_law_is hgd (hr.mono (by decide)) (by rfl) (za_cons (zo_v (ze_fld (cRingPlay aRingPlay) 2 g.k_RingPlay (zo_s 0))) (za_cons (zo_v (ze_ix ix_seq op2_ix (zo_s 1) (zo_v ze_int) (fun _ _ => rfl))) za_nil)))))))))
     (zss_one (zs_ret ze_bl))
     zss_nil)
     (zss_cons (zs_if (zt_w (zw_or (zt_not (zt_val (ze_callC k_law_is hgd (hr.mono (by decide)) (by rfl) (za_cons (zo_v (ze_fld (cRingPlay aRingPlay) 3 g.k_RingPlay (zo_s 0))) (za_cons (zo_v (ze_ix ix_seq op2_ix (zo_s 1) (zo_v ze_int) (fun _ _ => rfl))) za_nil))))) (zw_or (zt_not (zt_val (ze_callC k_law_same hgd (hr.mono (by decide)) (by rfl) (za_cons (zo_v (ze_fld (cRingPlay aRingPlay) 0 g.k_RingPlay (zo_s 0))) (za_cons (zo_v (ze_ix ix_seq op2_ix (zo_s 1) (zo_v ze_int) (fun _ _ => rfl))) za_nil))))) (zw_or1 (zt_not (zt_val (ze_callC k_law_same hgd (hr.mono (by decide)) (by rfl) (za_cons (zo_v (ze_fld (cRingPlay aRingPlay) 4 g.k_RingPlay (zo_s 0))) (za_cons (zo_v (ze_ix ix_seq op2_ix (zo_s 1) (zo_v ze_int) (fun _ _ => rfl))) za_nil)))))))))
     (zss_one (zs_ret ze_bl))
     zss_nil)
     (zss_one (zs_ret (ze_callC k_law_told hgd (hr.mono (by decide)) (by rfl) (za_cons (zo_v (ze_callC k_ring_fault hgd (hr.mono (by decide)) (by rfl) (za_cons (zo_v (ze_callTy call_list_of opn_list (by rfl) g.b_list (by decide +kernel) (za_cons (zo_s 2) za_nil))) (za_cons (zo_v (ze_callTy call_list_of opn_list (by rfl) g.b_list (by decide +kernel) (za_cons (zo_v (ze_fld (cRingPlay aRingPlay) 0 g.k_RingPlay (zo_s 0))) za_nil))) za_nil)))) (za_cons (zo_v (ze_callC k_law_fault hgd (hr.mono (by decide)) (by rfl) (za_cons (zo_s 2) (za_cons (zo_v (ze_ix ix_seq op2_ix (zo_s 1) (zo_v ze_int) (fun _ _ => rfl))) za_nil)))) za_nil)))))))
abbrev s_law_few : Stmt := topS 24
theorem sc_law_few : FnScope ["rows", "places", "side", "blocks", "k", "left", "turn", "part", "at"] ["rows", "places", "side"] (defScope s_law_few) := ⟨rfl, rfl, rfl, by decide +kernel, rfl, by decide +kernel, by decide +kernel⟩
theorem ok_law_few {f : Addr} {fd : FuncData} (Fn : Fun K "_law_few" "_law_few" s_law_few f fd) (g : Gx K mg aRingPlay) (k_law_draw : Cal P w K mg base "_law_draw" 1 ["rows", "size"] sp_law_draw) (len : ∀ ts P, sp_law_few ts P → ts.length = 3) (red : ∀ ts P, sp_law_few ts P → w_law_few (fin pm_law_few ts P) (Zl.entry 9 ts)) :
    FnG P w K mg base 2 f fd ["rows", "places", "side"] (spOf K sp_law_few) := by
  refine z_funG pm_law_few Fn sc_law_few rfl len fun cdv A outer s H E hgd hr => ⟨w_law_few, ?_, red⟩
  have hu := hr.units
  have nd := (sc_law_few).nd
  exact (zss_cons (zs_setLc (own := [("k", 4)]) (i := 3) rfl nd rfl rfl (by decide) (sw_true rfl rfl rfl (by decide +kernel)) (zi_rng1 (by rfl) g.b_range (za_cons (zo_v (ze_op2 or_add op2_add (zo_v ze_int) (zo_v (ze_callC k_law_draw hgd (hr.mono (by decide)) (by rfl) (za_cons (zo_s 0) (za_cons (zo_v ze_int) za_nil)))))) za_nil)) (blkOk_by (by rfl)) (fun _ _ _ _ _ => (zg_name (i := 4) nd rfl (by first | exact Or.inl rfl | exact Or.inr rfl) (by decide))) (fun _ _ _ _ _ => zts_nil) (fun _ _ _ _ _ => ze_int) (by decide) (by decide))
     (zss_cons (zs_set (i := 5) nd rfl (by first | exact Or.inl rfl | exact Or.inr rfl) (by decide) ze_int)
     (zss_cons (zs_if (zt_cmp (or_eq hu) op2_eq (zo_s 2) (zo_v ze_str) (nomark _))
     (zss_one (zs_set (i := 5) nd rfl (by first | exact Or.inl rfl | exact Or.inr rfl) (by decide) (ze_ix ix_seq op2_ix (zo_v (ze_lst (za_cons (zo_v (ze_var 1)) (za_cons (zo_v (ze_var 1)) (za_cons (zo_v (ze_callC k_law_draw hgd (hr.mono (by decide)) (by rfl) (za_cons (zo_s 0) (za_cons (zo_v (ze_op2 or_add op2_add (zo_s 1) (zo_v ze_int))) za_nil)))) za_nil))))) (zo_v (ze_callC k_law_draw hgd (hr.mono (by decide)) (by rfl) (za_cons (zo_s 0) (za_cons (zo_v ze_int) za_nil)))) (fun _ _ => rfl))))
     zss_nil)
     (zss_cons (zs_for PassesOwn.never rfl (zi_rng1 (by rfl) g.b_range (za_cons (zo_v ze_int) za_nil)) (zg_name (i := 6) nd rfl (by first | exact Or.inl rfl | exact Or.inr rfl) (by decide))
     (zss_one (zs_if (zt_cmp op_gt (op2_cmp _) (zo_s 5) (zo_v ze_int) (nomark _))
     (zss_cons (zs_set (i := 7) nd rfl (by first | exact Or.inl rfl | exact Or.inr rfl) (by decide) (ze_var 5))
     (zss_cons (zs_if (zt_cmp op_lt (op2_cmp _) (zo_s 6) (zo_v ze_int) (nomark _))
     (zss_one (zs_set (i := 7) nd rfl (by first | exact Or.inl rfl | exact Or.inr rfl) (by decide) (ze_op2 or_add op2_add (zo_v ze_int) (zo_v (ze_callC k_law_draw hgd (hr.mono (by decide)) (by rfl) (za_cons (zo_s 0) (za_cons (zo_s 5) za_nil)))))))
     zss_nil)
     (zss_cons (zs_set (i := 8) nd rfl (by first | exact Or.inl rfl | exact Or.inr rfl) (by decide) (ze_callC k_law_draw hgd (hr.mono (by decide)) (by rfl) (za_cons (zo_s 0) (za_cons (zo_v (ze_callB call_len opn_len (by rfl) g.b_len (by decide +kernel) (za_cons (zo_s 3) za_nil))) za_nil))))
     (zss_cons (zs_setIx 3 (ze_op2 or_add op2_add (zo_v (ze_ix ix_seq op2_ix (zo_s 3) (zo_s 8) (fun _ _ => rfl))) (zo_s 7)) (zo_s 8))
     (zss_one (zs_set (i := 5) nd rfl (by first | exact Or.inl rfl | exact Or.inr rfl) (by decide) (ze_op2 op_sub op2_sub (zo_s 5) (zo_s 7))))))))
     zss_nil)))
     (zss_one (zs_ret (ze_mov 3)))))))
abbrev s_law_list : Stmt := topS 25
theorem sc_law_list : FnScope ["rows", "words", "taken", "turn", "at"] ["rows", "words"] (defScope s_law_list) := ⟨rfl, rfl, rfl, by decide +kernel, rfl, by decide +kernel, by decide +kernel⟩
theorem ok_law_list {f : Addr} {fd : FuncData} (Fn : Fun K "_law_list" "_law_list" s_law_list f fd) (g : Gx K mg aRingPlay) (k_law_draw : Cal P w K mg base "_law_draw" 1 ["rows", "size"] sp_law_draw) (len : ∀ ts P, sp_law_list ts P → ts.length = 2) (red : ∀ ts P, sp_law_list ts P → w_law_list (fin pm_law_list ts P) (Zl.entry 5 ts)) :
    FnG P w K mg base 2 f fd ["rows", "words"] (spOf K sp_law_list) := by
  refine z_funG pm_law_list Fn sc_law_list rfl len fun cdv A outer s H E hgd hr => ⟨w_law_list, ?_, red⟩
  have hu := hr.units
  have nd := (sc_law_list).nd
  exact (zss_cons (zs_set (i := 2) nd rfl (by first | exact Or.inl rfl | exact Or.inr rfl) (by decide) (ze_callTy call_list_of opn_list (by rfl) g.b_list (by decide +kernel) (za_cons (zo_v (ze_sl (zo_s 1) pz_none (pz_some (zo_v (ze_callC k_law_draw hgd (hr.mono (by decide)) (by rfl) (za_cons (zo_s 0) (za_cons (zo_v ze_int) za_nil))))))) za_nil)))
     (zss_cons (zs_if (zt_cmp (or_eq hu) op2_eq (zo_v (ze_callC k_law_draw hgd (hr.mono (by decide)) (by rfl) (za_cons (zo_s 0) (za_cons (zo_v ze_int) za_nil)))) (zo_v ze_int) (nomark _))
     (zss_cons (zs_set (i := 2) nd rfl (by first | exact Or.inl rfl | exact Or.inr rfl) (by decide) (ze_callTy call_list_of opn_list (by rfl) g.b_list (by decide +kernel) (za_cons (zo_v (ze_sl (zo_s 1) pz_none (pz_some (zo_v ze_int)))) za_nil)))
     (zss_one (zs_expr (ze_mut 2 PySem.F.slot_list_append PySem.F.type_list_append mt_append mut_append (za_cons (zo_v (ze_ix ix_seq op2_ix (zo_v (ze_lst (za_cons (zo_v ze_non) (za_cons (zo_v ze_int) (za_cons (zo_v ze_int) za_nil))))) (zo_v (ze_callC k_law_draw hgd (hr.mono (by decide)) (by rfl) (za_cons (zo_s 0) (za_cons (zo_v ze_int) za_nil)))) (fun _ _ => rfl))) za_nil)))))
     zss_nil)
     (zss_cons (zs_for PassesOwn.never rfl (zi_rng1 (by rfl) g.b_range (za_cons (zo_v (ze_callC k_law_draw hgd (hr.mono (by decide)) (by rfl) (za_cons (zo_s 0) (za_cons (zo_v ze_int) za_nil)))) za_nil)) (zg_name (i := 3) nd rfl (by first | exact Or.inl rfl | exact Or.inr rfl) (by decide))
     (zss_one (zs_if (zt_cmp op_gt (op2_cmp _) (zo_v (ze_callB call_len opn_len (by rfl) g.b_len (by decide +kernel) (za_cons (zo_s 2) za_nil))) (zo_v ze_int) (nomark _))
     (zss_cons (zs_set (i := 4) nd rfl (by first | exact Or.inl rfl | exact Or.inr rfl) (by decide) (ze_callC k_law_draw hgd (hr.mono (by decide)) (by rfl) (za_cons (zo_s 0) (za_cons (zo_v (ze_callB call_len opn_len (by rfl) g.b_len (by decide +kernel) (za_cons (zo_s 2) za_nil))) za_nil))))
     (zss_one (zs_if (zt_w (zw_or (zt_cmp (or_eq hu) op2_eq (zo_v (ze_callC k_law_draw hgd (hr.mono (by decide)) (by rfl) (za_cons (zo_s 0) (za_cons (zo_v ze_int) za_nil)))) (zo_v ze_int) (nomark _)) (zw_or1 (zt_cmp or_is op2_is (zo_v (ze_ix ix_seq op2_ix (zo_s 2) (zo_s 4) (fun _ _ => rfl))) (zo_v ze_non) (nomark _)))))
     (zss_one (zs_setIx 2 ze_non (zo_s 4)))
     (zss_one (zs_setIx 2 (ze_op2 or_add op2_add (zo_v (ze_ix ix_seq op2_ix (zo_s 2) (zo_s 4) (fun _ _ => rfl))) (zo_v (ze_ix ix_seq op2_ix (zo_v (ze_lst (za_cons (zo_v ze_int) (za_cons (zo_v (ze_un un_neg op1_neg (zo_v ze_int))) za_nil)))) (zo_v (ze_callC k_law_draw hgd (hr.mono (by decide)) (by rfl) (za_cons (zo_s 0) (za_cons (zo_v ze_int) za_nil)))) (fun _ _ => rfl)))) (zo_s 4))))))
     zss_nil)))
     (zss_one (zs_ret (ze_mov 2))))))
abbrev s_law : Stmt := topS 26
theorem sc_law : FnScope ["script", "rows", "places", "side", "late", "few", "base", "apart", "many", "k", "words", "taken", "blocks", "due", "given", "play", "wrong", "first"] ["script"] (defScope s_law) := ⟨rfl, rfl, rfl, by decide +kernel, rfl, by decide +kernel, by decide +kernel⟩
theorem ok_law {f : Addr} {fd : FuncData} (Fn : Fun K "law" "law" s_law f fd) (g : Gx K mg aRingPlay) (k_law_tape : Cal P w K mg base "_law_tape" 1 ["script"] sp_law_tape) (k_law_draw : Cal P w K mg base "_law_draw" 1 ["rows", "size"] sp_law_draw) (k_law_few : Cal P w K mg base "_law_few" 2 ["rows", "places", "side"] sp_law_few) (k_law_words : Cal P w K mg base "_law_words" 3 ["rows"] sp_law_words) (k_law_list : Cal P w K mg base "_law_list" 2 ["rows", "words"] sp_law_list) (k_law_blocks : Cal P w K mg base "_law_blocks" 3 ["rows", "places"] sp_law_blocks) (k_law_play : Cal P w K mg base "_law_play" 1 ["places", "side", "blocks", "words"] sp_law_play) (k_ring_played : Cal P w K mg base "ring_played" 4 ["places", "side", "order", "blocks", "words"] (sp_ring_played aRingPlay)) (k_law_right : Cal P w K mg base "_law_right" 3 ["play", "due", "words"] (sp_law_right aRingPlay)) (k_wrong_blocks : Cal P w K mg base "wrong_blocks" 1 ["places", "side"] sp_wrong_blocks) (k_law_same : Cal P w K mg base "_law_same" 2 ["told", "due"] sp_law_same) (k_law_is : Cal P w K mg base "_law_is" 1 ["told", "due"] sp_law_is) (k_ring_fault : Cal P w K mg base "ring_fault" 1 ["words", "taken"] sp_ring_fault) (k_law_told : Cal P w K mg base "_law_told" 2 ["told", "due"] sp_law_told) (k_law_fault : Cal P w K mg base "_law_fault" 1 ["words", "taken"] sp_law_fault) (len : ∀ ts P, (sp_law aRingPlay) ts P → ts.length = 1) (red : ∀ ts P, (sp_law aRingPlay) ts P → w_law aRingPlay (fin pm_law ts P) (Zl.entry 18 ts)) :
    FnG P w K mg base 5 f fd ["script"] (spOf K (sp_law aRingPlay)) := by
  refine z_funG pm_law Fn sc_law rfl len fun cdv A outer s H E hgd hr => ⟨w_law aRingPlay, ?_, red⟩
  have hu := hr.units
  have nd := (sc_law).nd
  exact (zss_cons (zs_set (i := 1) nd rfl (by first | exact Or.inl rfl | exact Or.inr rfl) (by decide) (ze_callC k_law_tape hgd (hr.mono (by decide)) (by rfl) (za_cons (zo_s 0) za_nil)))
     (zss_cons (zs_set (i := 2) nd rfl (by first | exact Or.inl rfl | exact Or.inr rfl) (by decide) (ze_ix ix_seq op2_ix (zo_v (ze_lst (za_cons (zo_v ze_int) (za_cons (zo_v ze_int) (za_cons (zo_v ze_int) (za_cons (zo_v ze_int) (za_cons (zo_v ze_int) (za_cons (zo_v (ze_op2 or_add op2_add (zo_v ze_int) (zo_v (ze_callC k_law_draw hgd (hr.mono (by decide)) (by rfl) (za_cons (zo_s 1) (za_cons (zo_v ze_int) za_nil)))))) za_nil)))))))) (zo_v (ze_callC k_law_draw hgd (hr.mono (by decide)) (by rfl) (za_cons (zo_s 1) (za_cons (zo_v ze_int) za_nil)))) (fun _ _ => rfl)))
     (zss_cons (zs_set (i := 3) nd rfl (by first | exact Or.inl rfl | exact Or.inr rfl) (by decide) (ze_ix ix_seq op2_ix (zo_v (ze_lst (za_cons (zo_v ze_str) (za_cons (zo_v ze_str) za_nil)))) (zo_v (ze_callC k_law_draw hgd (hr.mono (by decide)) (by rfl) (za_cons (zo_s 1) (za_cons (zo_v ze_int) za_nil)))) (fun _ _ => rfl)))
     (zss_cons (zs_set (i := 4) nd rfl (by first | exact Or.inl rfl | exact Or.inr rfl) (by decide) (ze_op2 or_mul op2_mul (zo_v (ze_callC k_law_draw hgd (hr.mono (by decide)) (by rfl) (za_cons (zo_s 1) (za_cons (zo_v ze_int) za_nil)))) (zo_v (ze_callTy call_int1 opn_int (by rfl) g.b_int (by decide +kernel) (za_cons (zo_v (ze_cmp (or_eq hu) op2_eq (zo_s 3) (zo_v ze_str) (nomark _))) za_nil)))))
     (zss_cons (zs_set (i := 5) nd rfl (by first | exact Or.inl rfl | exact Or.inr rfl) (by decide) (ze_callC k_law_few hgd (hr.mono (by decide)) (by rfl) (za_cons (zo_s 1) (za_cons (zo_s 2) (za_cons (zo_s 3) za_nil)))))
     (zss_cons (zs_set (i := 6) nd rfl (by first | exact Or.inl rfl | exact Or.inr rfl) (by decide) (ze_op2 op_sub op2_sub (zo_v (ze_callC k_law_draw hgd (hr.mono (by decide)) (by rfl) (za_cons (zo_s 1) (za_cons (zo_v ze_int) za_nil)))) (zo_v ze_int)))
     (zss_cons (zs_set (i := 7) nd rfl (by first | exact Or.inl rfl | exact Or.inr rfl) (by decide) (ze_op2 or_add op2_add (zo_v ze_int) (zo_v (ze_callC k_law_draw hgd (hr.mono (by decide)) (by rfl) (za_cons (zo_s 1) (za_cons (zo_v ze_int) za_nil))))))
     (zss_cons (zs_setLc (own := [("k", 9)]) (i := 8) rfl nd rfl rfl (by decide) (sw_true rfl rfl rfl (by decide +kernel)) (zi_rng1 (by rfl) g.b_range (za_cons (zo_v (ze_op2 or_add op2_add (zo_v (ze_op2 or_add op2_add (zo_s 2) (zo_v ze_int))) (zo_v (ze_callC k_law_draw hgd (hr.mono (by decide)) (by rfl) (za_cons (zo_s 1) (za_cons (zo_v ze_int) za_nil)))))) za_nil)) (blkOk_by (by rfl)) (fun _ _ _ _ _ => (zg_name (i := 9) nd rfl (by first | exact Or.inl rfl | exact Or.inr rfl) (by decide))) (fun _ _ _ _ _ => zts_nil) (fun _ _ _ _ _ => (ze_op2 or_add op2_add (zo_s 6) (zo_v (ze_op2 or_mul op2_mul (zo_s 7) (zo_s 9))))) (by decide) (by decide))
     (zss_cons (zs_set (i := 10) nd rfl (by first | exact Or.inl rfl | exact Or.inr rfl) (by decide) (ze_callC k_law_words hgd (hr.mono (by decide)) (by rfl) (za_cons (zo_s 1) za_nil)))
     (zss_cons (zs_set (i := 11) nd rfl (by first | exact Or.inl rfl | exact Or.inr rfl) (by decide) (ze_callC k_law_list hgd (hr.mono (by decide)) (by rfl) (za_cons (zo_s 1) (za_cons (zo_s 10) za_nil))))
     (zss_cons (zs_set (i := 12) nd rfl (by first | exact Or.inl rfl | exact Or.inr rfl) (by decide) (ze_callC k_law_blocks hgd (hr.mono (by decide)) (by rfl) (za_cons (zo_s 1) (za_cons (zo_s 2) za_nil))))
     (zss_cons (zs_set (i := 13) nd rfl (by first | exact Or.inl rfl | exact Or.inr rfl) (by decide) (ze_callC k_law_play hgd (hr.mono (by decide)) (by rfl) (za_cons (zo_s 2) (za_cons (zo_s 3) (za_cons (zo_s 12) (za_cons (zo_s 10) za_nil))))))
     (zss_cons (zs_set (i := 14) nd rfl (by first | exact Or.inl rfl | exact Or.inr rfl) (by decide) (ze_callTy call_list_of opn_list (by rfl) g.b_list (by decide +kernel) (za_cons (zo_s 10) za_nil)))
     (zss_cons (zs_set (i := 15) nd rfl (by first | exact Or.inl rfl | exact Or.inr rfl) (by decide) (ze_callC k_ring_played hgd (hr.mono (by decide)) (by rfl) (za_cons (zo_s 2) (za_cons (zo_s 3) (za_cons (zo_v ze_str) (za_cons (zo_v (ze_callTy call_list_of opn_list (by rfl) g.b_list (by decide +kernel) (za_cons (zo_s 12) za_nil))) (za_cons (zo_v (ze_var 14)) za_nil)))))))
     (zss_cons (zs_if (zt_w (zw_or (zt_cmp (or_ne hu) op2_ne (zo_v (ze_var 14)) (zo_s 10) (nomark _)) (zw_or1 (zt_not (zt_val (ze_callC k_law_right hgd (hr.mono (by decide)) (by rfl) (za_cons (zo_v (ze_var 15)) (za_cons (zo_v (ze_var 13)) (za_cons (zo_s 10) za_nil)))))))))
     (zss_one (zs_ret ze_bl))
     zss_nil)
     (zss_cons (zs_set (i := 16) nd rfl (by first | exact Or.inl rfl | exact Or.inr rfl) (by decide) (ze_lst (za_cons (zo_v ze_int) (za_cons (zo_v ze_int) (za_cons (zo_v ze_int) za_nil)))))
     (zss_cons (zs_set (i := 17) nd rfl (by first | exact Or.inl rfl | exact Or.inr rfl) (by decide) ze_non)
     (zss_cons (zs_if (zt_cmp (or_eq hu) op2_eq (zo_s 3) (zo_v ze_str) (nomark _))
     (zss_cons (zs_set (i := 16) nd rfl (by first | exact Or.inl rfl | exact Or.inr rfl) (by decide) (ze_lst (za_cons (zo_v (ze_var 2)) (za_cons (zo_v ze_int) (za_cons (zo_v ze_int) za_nil)))))
     (zss_one (zs_set (i := 17) nd rfl (by first | exact Or.inl rfl | exact Or.inr rfl) (by decide) (ze_ix ix_seq op2_ix (zo_s 8) (zo_s 2) (fun _ _ => rfl)))))
     zss_nil)
     (zss_cons (zs_if (zt_cmp (or_ne hu) op2_ne (zo_v (ze_callB (cr_repr hgd hu) opn_repr (by rfl) g.b_repr (by decide +kernel) (za_cons (zo_v (ze_callC k_wrong_blocks hgd (hr.mono (by decide)) (by rfl) (za_cons (zo_s 2) (za_cons (zo_s 3) za_nil)))) za_nil))) (zo_v (ze_callB (cr_repr hgd hu) opn_repr (by rfl) g.b_repr (by decide +kernel) (za_cons (zo_s 16) za_nil))) (nomark _))
     (zss_one (zs_ret ze_bl))
     zss_nil)
     (zss_cons (zs_set (i := 15) nd rfl (by first | exact Or.inl rfl | exact Or.inr rfl) (by decide) (ze_callC k_ring_played hgd (hr.mono (by decide)) (by rfl) (za_cons (zo_s 2) (za_cons (zo_s 3) (za_cons (zo_v ze_str) (za_cons (zo_v (ze_op2 or_add op2_add (zo_v (ze_op2 or_mul op2_mul (zo_v (ze_lst (za_cons (zo_v ze_int) za_nil))) (zo_s 4))) (zo_s 16))) (za_cons (zo_v (ze_callTy call_list_of opn_list (by rfl) g.b_list (by decide +kernel) (za_cons (zo_s 8) za_nil))) za_nil)))))))
     (zss_cons (zs_if (zt_w (zw_or (zt_not (zt_val (ze_callC k_law_same hgd (hr.mono (by decide)) (by rfl) (za_cons (zo_v (ze_fld (cRingPlay aRingPlay) 0 g.k_RingPlay (zo_v (ze_var 15)))) (za_cons (zo_v (ze_lst (za_cons (zo_v (ze_var 17)) za_nil))) za_nil))))) (zw_or1 (zt_not (zt_val (ze_callC k_law_is hgd (hr.mono (by decide)) (by rfl) (za_cons (zo_v (ze_callC k_ring_fault hgd (hr.mono (by decide)) (by rfl) (za_cons (zo_v (ze_callTy call_list_of opn_list (by rfl) g.b_list (by decide +kernel) (za_cons (zo_s 8) za_nil))) (za_cons (zo_v (ze_callTy call_list_of opn_list (by rfl) g.b_list (by decide +kernel) (za_cons (zo_v (ze_fld (cRingPlay aRingPlay) 0 g.k_RingPlay (zo_v (ze_var 15)))) za_nil))) za_nil)))) (za_cons (zo_v ze_int) za_nil))))))))
     (zss_one (zs_ret ze_bl))
     zss_nil)
     (zss_cons (zs_set (i := 15) nd rfl (by first | exact Or.inl rfl | exact Or.inr rfl) (by decide) (ze_callC k_ring_played hgd (hr.mono (by decide)) (by rfl) (za_cons (zo_s 2) (za_cons (zo_s 3) (za_cons (zo_v ze_str) (za_cons (zo_v (ze_callTy call_list_of opn_list (by rfl) g.b_list (by decide +kernel) (za_cons (zo_s 5) za_nil))) (za_cons (zo_v (ze_callTy call_list_of opn_list (by rfl) g.b_list (by decide +kernel) (za_cons (zo_s 8) za_nil))) za_nil)))))))
     (zss_cons (zs_if (zt_not (zt_val (ze_callC k_law_right hgd (hr.mono (by decide)) (by rfl) (za_cons (zo_v (ze_var 15)) (za_cons (zo_v (ze_callC k_law_play hgd (hr.mono (by decide)) (by rfl) (za_cons (zo_s 2) (za_cons (zo_s 3) (za_cons (zo_s 5) (za_cons (zo_s 8) za_nil)))))) (za_cons (zo_s 8) za_nil))))))
     (zss_one (zs_ret ze_bl))
     zss_nil)
     (zss_cons (zs_if (zt_w (zw_or (zt_not (zt_val (ze_callC k_law_same hgd (hr.mono (by decide)) (by rfl) (za_cons (zo_v (ze_fld (cRingPlay aRingPlay) 0 g.k_RingPlay (zo_v (ze_var 15)))) (za_cons (zo_v (ze_sl (zo_s 8) pz_none (pz_some (zo_v (ze_callB call_len opn_len (by rfl) g.b_len (by decide +kernel) (za_cons (zo_v (ze_fld (cRingPlay aRingPlay) 0 g.k_RingPlay (zo_v (ze_var 15)))) za_nil)))))) za_nil))))) (zw_or1 (zt_cmp or_isnot op2_isnot (zo_v (ze_callC k_ring_fault hgd (hr.mono (by decide)) (by rfl) (za_cons (zo_v (ze_callTy call_list_of opn_list (by rfl) g.b_list (by decide +kernel) (za_cons (zo_s 8) za_nil))) (za_cons (zo_v (ze_callTy call_list_of opn_list (by rfl) g.b_list (by decide +kernel) (za_cons (zo_v (ze_fld (cRingPlay aRingPlay) 0 g.k_RingPlay (zo_v (ze_var 15)))) za_nil))) za_nil)))) (zo_v ze_non) (nomark _)))))
     (zss_one (zs_ret ze_bl))
     zss_nil)
     (zss_one (zs_ret (ze_callC k_law_told hgd (hr.mono (by decide)) (by rfl) (za_cons (zo_v (ze_callC k_ring_fault hgd (hr.mono (by decide)) (by rfl) (za_cons (zo_v (ze_callTy call_list_of opn_list (by rfl) g.b_list (by decide +kernel) (za_cons (zo_s 10) za_nil))) (za_cons (zo_v (ze_callTy call_list_of opn_list (by rfl) g.b_list (by decide +kernel) (za_cons (zo_v (ze_var 11)) za_nil))) za_nil)))) (za_cons (zo_v (ze_callC k_law_fault hgd (hr.mono (by decide)) (by rfl) (za_cons (zo_s 10) (za_cons (zo_v (ze_var 11)) za_nil)))) za_nil)))))))))))))))))))))))))))))
end

theorem len_RingPlay_init (aRingPlay : Addr) : ∀ ts P, (sp_RingPlay_init aRingPlay) ts P → ts.length = 2 := by intro ts P h; first | (obtain ⟨_, rfl, _⟩ := h; rfl) | (obtain ⟨_, _, rfl, _⟩ := h; rfl) | (obtain ⟨_, _, _, rfl, _⟩ := h; rfl) | (obtain ⟨_, _, _, _, rfl, _⟩ := h; rfl) | (obtain ⟨_, _, _, _, _, rfl, _⟩ := h; rfl) | (obtain ⟨_, _, _, _, _, _, rfl, _⟩ := h; rfl) | (obtain ⟨_, _, _, _, _, _, _, rfl, _⟩ := h; rfl) | (obtain ⟨_, _, _, _, _, _, _, _, rfl, _⟩ := h; rfl) | (obtain ⟨_, _, _, _, _, _, _, _, _, rfl, _⟩ := h; rfl) | (obtain ⟨_, _, _, _, _, _, _, _, _, _, rfl, _⟩ := h; rfl) | (obtain ⟨_, _, _, _, _, _, _, _, _, _, _, rfl, _⟩ := h; rfl) | (obtain ⟨_, _, _, _, _, _, _, _, _, _, _, _, rfl, _⟩ := h; rfl) | (obtain ⟨_, _, _, _, _, _, _, _, _, _, _, _, _, rfl, _⟩ := h; rfl)
theorem len_may_put (aRingPlay : Addr) : ∀ ts P, (sp_may_put aRingPlay) ts P → ts.length = 2 := by intro ts P h; first | (obtain ⟨_, rfl, _⟩ := h; rfl) | (obtain ⟨_, _, rfl, _⟩ := h; rfl) | (obtain ⟨_, _, _, rfl, _⟩ := h; rfl) | (obtain ⟨_, _, _, _, rfl, _⟩ := h; rfl) | (obtain ⟨_, _, _, _, _, rfl, _⟩ := h; rfl) | (obtain ⟨_, _, _, _, _, _, rfl, _⟩ := h; rfl) | (obtain ⟨_, _, _, _, _, _, _, rfl, _⟩ := h; rfl) | (obtain ⟨_, _, _, _, _, _, _, _, rfl, _⟩ := h; rfl) | (obtain ⟨_, _, _, _, _, _, _, _, _, rfl, _⟩ := h; rfl) | (obtain ⟨_, _, _, _, _, _, _, _, _, _, rfl, _⟩ := h; rfl) | (obtain ⟨_, _, _, _, _, _, _, _, _, _, _, rfl, _⟩ := h; rfl) | (obtain ⟨_, _, _, _, _, _, _, _, _, _, _, _, rfl, _⟩ := h; rfl) | (obtain ⟨_, _, _, _, _, _, _, _, _, _, _, _, _, rfl, _⟩ := h; rfl)
theorem len_may_take (aRingPlay : Addr) : ∀ ts P, (sp_may_take aRingPlay) ts P → ts.length = 1 := by intro ts P h; first | (obtain ⟨_, rfl, _⟩ := h; rfl) | (obtain ⟨_, _, rfl, _⟩ := h; rfl) | (obtain ⟨_, _, _, rfl, _⟩ := h; rfl) | (obtain ⟨_, _, _, _, rfl, _⟩ := h; rfl) | (obtain ⟨_, _, _, _, _, rfl, _⟩ := h; rfl) | (obtain ⟨_, _, _, _, _, _, rfl, _⟩ := h; rfl) | (obtain ⟨_, _, _, _, _, _, _, rfl, _⟩ := h; rfl) | (obtain ⟨_, _, _, _, _, _, _, _, rfl, _⟩ := h; rfl) | (obtain ⟨_, _, _, _, _, _, _, _, _, rfl, _⟩ := h; rfl) | (obtain ⟨_, _, _, _, _, _, _, _, _, _, rfl, _⟩ := h; rfl) | (obtain ⟨_, _, _, _, _, _, _, _, _, _, _, rfl, _⟩ := h; rfl) | (obtain ⟨_, _, _, _, _, _, _, _, _, _, _, _, rfl, _⟩ := h; rfl) | (obtain ⟨_, _, _, _, _, _, _, _, _, _, _, _, _, rfl, _⟩ := h; rfl)
theorem len_put_word (aRingPlay : Addr) : ∀ ts P, (sp_put_word aRingPlay) ts P → ts.length = 3 := by intro ts P h; first | (obtain ⟨_, rfl, _⟩ := h; rfl) | (obtain ⟨_, _, rfl, _⟩ := h; rfl) | (obtain ⟨_, _, _, rfl, _⟩ := h; rfl) | (obtain ⟨_, _, _, _, rfl, _⟩ := h; rfl) | (obtain ⟨_, _, _, _, _, rfl, _⟩ := h; rfl) | (obtain ⟨_, _, _, _, _, _, rfl, _⟩ := h; rfl) | (obtain ⟨_, _, _, _, _, _, _, rfl, _⟩ := h; rfl) | (obtain ⟨_, _, _, _, _, _, _, _, rfl, _⟩ := h; rfl) | (obtain ⟨_, _, _, _, _, _, _, _, _, rfl, _⟩ := h; rfl) | (obtain ⟨_, _, _, _, _, _, _, _, _, _, rfl, _⟩ := h; rfl) | (obtain ⟨_, _, _, _, _, _, _, _, _, _, _, rfl, _⟩ := h; rfl) | (obtain ⟨_, _, _, _, _, _, _, _, _, _, _, _, rfl, _⟩ := h; rfl) | (obtain ⟨_, _, _, _, _, _, _, _, _, _, _, _, _, rfl, _⟩ := h; rfl)
theorem len_take_word (aRingPlay : Addr) : ∀ ts P, (sp_take_word aRingPlay) ts P → ts.length = 2 := by intro ts P h; first | (obtain ⟨_, rfl, _⟩ := h; rfl) | (obtain ⟨_, _, rfl, _⟩ := h; rfl) | (obtain ⟨_, _, _, rfl, _⟩ := h; rfl) | (obtain ⟨_, _, _, _, rfl, _⟩ := h; rfl) | (obtain ⟨_, _, _, _, _, rfl, _⟩ := h; rfl) | (obtain ⟨_, _, _, _, _, _, rfl, _⟩ := h; rfl) | (obtain ⟨_, _, _, _, _, _, _, rfl, _⟩ := h; rfl) | (obtain ⟨_, _, _, _, _, _, _, _, rfl, _⟩ := h; rfl) | (obtain ⟨_, _, _, _, _, _, _, _, _, rfl, _⟩ := h; rfl) | (obtain ⟨_, _, _, _, _, _, _, _, _, _, rfl, _⟩ := h; rfl) | (obtain ⟨_, _, _, _, _, _, _, _, _, _, _, rfl, _⟩ := h; rfl) | (obtain ⟨_, _, _, _, _, _, _, _, _, _, _, _, rfl, _⟩ := h; rfl) | (obtain ⟨_, _, _, _, _, _, _, _, _, _, _, _, _, rfl, _⟩ := h; rfl)
theorem len_ring_fault : ∀ ts P, sp_ring_fault ts P → ts.length = 2 := by intro ts P h; first | (obtain ⟨_, rfl, _⟩ := h; rfl) | (obtain ⟨_, _, rfl, _⟩ := h; rfl) | (obtain ⟨_, _, _, rfl, _⟩ := h; rfl) | (obtain ⟨_, _, _, _, rfl, _⟩ := h; rfl) | (obtain ⟨_, _, _, _, _, rfl, _⟩ := h; rfl) | (obtain ⟨_, _, _, _, _, _, rfl, _⟩ := h; rfl) | (obtain ⟨_, _, _, _, _, _, _, rfl, _⟩ := h; rfl) | (obtain ⟨_, _, _, _, _, _, _, _, rfl, _⟩ := h; rfl) | (obtain ⟨_, _, _, _, _, _, _, _, _, rfl, _⟩ := h; rfl) | (obtain ⟨_, _, _, _, _, _, _, _, _, _, rfl, _⟩ := h; rfl) | (obtain ⟨_, _, _, _, _, _, _, _, _, _, _, rfl, _⟩ := h; rfl) | (obtain ⟨_, _, _, _, _, _, _, _, _, _, _, _, rfl, _⟩ := h; rfl) | (obtain ⟨_, _, _, _, _, _, _, _, _, _, _, _, _, rfl, _⟩ := h; rfl)
theorem len_wrong_blocks : ∀ ts P, sp_wrong_blocks ts P → ts.length = 2 := by intro ts P h; first | (obtain ⟨_, rfl, _⟩ := h; rfl) | (obtain ⟨_, _, rfl, _⟩ := h; rfl) | (obtain ⟨_, _, _, rfl, _⟩ := h; rfl) | (obtain ⟨_, _, _, _, rfl, _⟩ := h; rfl) | (obtain ⟨_, _, _, _, _, rfl, _⟩ := h; rfl) | (obtain ⟨_, _, _, _, _, _, rfl, _⟩ := h; rfl) | (obtain ⟨_, _, _, _, _, _, _, rfl, _⟩ := h; rfl) | (obtain ⟨_, _, _, _, _, _, _, _, rfl, _⟩ := h; rfl) | (obtain ⟨_, _, _, _, _, _, _, _, _, rfl, _⟩ := h; rfl) | (obtain ⟨_, _, _, _, _, _, _, _, _, _, rfl, _⟩ := h; rfl) | (obtain ⟨_, _, _, _, _, _, _, _, _, _, _, rfl, _⟩ := h; rfl) | (obtain ⟨_, _, _, _, _, _, _, _, _, _, _, _, rfl, _⟩ := h; rfl) | (obtain ⟨_, _, _, _, _, _, _, _, _, _, _, _, _, rfl, _⟩ := h; rfl)
theorem len_law_tape : ∀ ts P, sp_law_tape ts P → ts.length = 1 := by intro ts P h; first | (obtain ⟨_, rfl, _⟩ := h; rfl) | (obtain ⟨_, _, rfl, _⟩ := h; rfl) | (obtain ⟨_, _, _, rfl, _⟩ := h; rfl) | (obtain ⟨_, _, _, _, rfl, _⟩ := h; rfl) | (obtain ⟨_, _, _, _, _, rfl, _⟩ := h; rfl) | (obtain ⟨_, _, _, _, _, _, rfl, _⟩ := h; rfl) | (obtain ⟨_, _, _, _, _, _, _, rfl, _⟩ := h; rfl) | (obtain ⟨_, _, _, _, _, _, _, _, rfl, _⟩ := h; rfl) | (obtain ⟨_, _, _, _, _, _, _, _, _, rfl, _⟩ := h; rfl) | (obtain ⟨_, _, _, _, _, _, _, _, _, _, rfl, _⟩ := h; rfl) | (obtain ⟨_, _, _, _, _, _, _, _, _, _, _, rfl, _⟩ := h; rfl) | (obtain ⟨_, _, _, _, _, _, _, _, _, _, _, _, rfl, _⟩ := h; rfl) | (obtain ⟨_, _, _, _, _, _, _, _, _, _, _, _, _, rfl, _⟩ := h; rfl)
theorem len_law_draw : ∀ ts P, sp_law_draw ts P → ts.length = 2 := by intro ts P h; first | (obtain ⟨_, rfl, _⟩ := h; rfl) | (obtain ⟨_, _, rfl, _⟩ := h; rfl) | (obtain ⟨_, _, _, rfl, _⟩ := h; rfl) | (obtain ⟨_, _, _, _, rfl, _⟩ := h; rfl) | (obtain ⟨_, _, _, _, _, rfl, _⟩ := h; rfl) | (obtain ⟨_, _, _, _, _, _, rfl, _⟩ := h; rfl) | (obtain ⟨_, _, _, _, _, _, _, rfl, _⟩ := h; rfl) | (obtain ⟨_, _, _, _, _, _, _, _, rfl, _⟩ := h; rfl) | (obtain ⟨_, _, _, _, _, _, _, _, _, rfl, _⟩ := h; rfl) | (obtain ⟨_, _, _, _, _, _, _, _, _, _, rfl, _⟩ := h; rfl) | (obtain ⟨_, _, _, _, _, _, _, _, _, _, _, rfl, _⟩ := h; rfl) | (obtain ⟨_, _, _, _, _, _, _, _, _, _, _, _, rfl, _⟩ := h; rfl) | (obtain ⟨_, _, _, _, _, _, _, _, _, _, _, _, _, rfl, _⟩ := h; rfl)
theorem len_law_is : ∀ ts P, sp_law_is ts P → ts.length = 2 := by intro ts P h; first | (obtain ⟨_, rfl, _⟩ := h; rfl) | (obtain ⟨_, _, rfl, _⟩ := h; rfl) | (obtain ⟨_, _, _, rfl, _⟩ := h; rfl) | (obtain ⟨_, _, _, _, rfl, _⟩ := h; rfl) | (obtain ⟨_, _, _, _, _, rfl, _⟩ := h; rfl) | (obtain ⟨_, _, _, _, _, _, rfl, _⟩ := h; rfl) | (obtain ⟨_, _, _, _, _, _, _, rfl, _⟩ := h; rfl) | (obtain ⟨_, _, _, _, _, _, _, _, rfl, _⟩ := h; rfl) | (obtain ⟨_, _, _, _, _, _, _, _, _, rfl, _⟩ := h; rfl) | (obtain ⟨_, _, _, _, _, _, _, _, _, _, rfl, _⟩ := h; rfl) | (obtain ⟨_, _, _, _, _, _, _, _, _, _, _, rfl, _⟩ := h; rfl) | (obtain ⟨_, _, _, _, _, _, _, _, _, _, _, _, rfl, _⟩ := h; rfl) | (obtain ⟨_, _, _, _, _, _, _, _, _, _, _, _, _, rfl, _⟩ := h; rfl)
theorem len_law_play : ∀ ts P, sp_law_play ts P → ts.length = 4 := by intro ts P h; first | (obtain ⟨_, rfl, _⟩ := h; rfl) | (obtain ⟨_, _, rfl, _⟩ := h; rfl) | (obtain ⟨_, _, _, rfl, _⟩ := h; rfl) | (obtain ⟨_, _, _, _, rfl, _⟩ := h; rfl) | (obtain ⟨_, _, _, _, _, rfl, _⟩ := h; rfl) | (obtain ⟨_, _, _, _, _, _, rfl, _⟩ := h; rfl) | (obtain ⟨_, _, _, _, _, _, _, rfl, _⟩ := h; rfl) | (obtain ⟨_, _, _, _, _, _, _, _, rfl, _⟩ := h; rfl) | (obtain ⟨_, _, _, _, _, _, _, _, _, rfl, _⟩ := h; rfl) | (obtain ⟨_, _, _, _, _, _, _, _, _, _, rfl, _⟩ := h; rfl) | (obtain ⟨_, _, _, _, _, _, _, _, _, _, _, rfl, _⟩ := h; rfl) | (obtain ⟨_, _, _, _, _, _, _, _, _, _, _, _, rfl, _⟩ := h; rfl) | (obtain ⟨_, _, _, _, _, _, _, _, _, _, _, _, _, rfl, _⟩ := h; rfl)
theorem len_law_fault : ∀ ts P, sp_law_fault ts P → ts.length = 2 := by intro ts P h; first | (obtain ⟨_, rfl, _⟩ := h; rfl) | (obtain ⟨_, _, rfl, _⟩ := h; rfl) | (obtain ⟨_, _, _, rfl, _⟩ := h; rfl) | (obtain ⟨_, _, _, _, rfl, _⟩ := h; rfl) | (obtain ⟨_, _, _, _, _, rfl, _⟩ := h; rfl) | (obtain ⟨_, _, _, _, _, _, rfl, _⟩ := h; rfl) | (obtain ⟨_, _, _, _, _, _, _, rfl, _⟩ := h; rfl) | (obtain ⟨_, _, _, _, _, _, _, _, rfl, _⟩ := h; rfl) | (obtain ⟨_, _, _, _, _, _, _, _, _, rfl, _⟩ := h; rfl) | (obtain ⟨_, _, _, _, _, _, _, _, _, _, rfl, _⟩ := h; rfl) | (obtain ⟨_, _, _, _, _, _, _, _, _, _, _, rfl, _⟩ := h; rfl) | (obtain ⟨_, _, _, _, _, _, _, _, _, _, _, _, rfl, _⟩ := h; rfl) | (obtain ⟨_, _, _, _, _, _, _, _, _, _, _, _, _, rfl, _⟩ := h; rfl)
theorem len_handler_block (aRingPlay : Addr) : ∀ ts P, (sp_handler_block aRingPlay) ts P → ts.length = 3 := by intro ts P h; first | (obtain ⟨_, rfl, _⟩ := h; rfl) | (obtain ⟨_, _, rfl, _⟩ := h; rfl) | (obtain ⟨_, _, _, rfl, _⟩ := h; rfl) | (obtain ⟨_, _, _, _, rfl, _⟩ := h; rfl) | (obtain ⟨_, _, _, _, _, rfl, _⟩ := h; rfl) | (obtain ⟨_, _, _, _, _, _, rfl, _⟩ := h; rfl) | (obtain ⟨_, _, _, _, _, _, _, rfl, _⟩ := h; rfl) | (obtain ⟨_, _, _, _, _, _, _, _, rfl, _⟩ := h; rfl) | (obtain ⟨_, _, _, _, _, _, _, _, _, rfl, _⟩ := h; rfl) | (obtain ⟨_, _, _, _, _, _, _, _, _, _, rfl, _⟩ := h; rfl) | (obtain ⟨_, _, _, _, _, _, _, _, _, _, _, rfl, _⟩ := h; rfl) | (obtain ⟨_, _, _, _, _, _, _, _, _, _, _, _, rfl, _⟩ := h; rfl) | (obtain ⟨_, _, _, _, _, _, _, _, _, _, _, _, _, rfl, _⟩ := h; rfl)
theorem len_word_step (aRingPlay : Addr) : ∀ ts P, (sp_word_step aRingPlay) ts P → ts.length = 4 := by intro ts P h; first | (obtain ⟨_, rfl, _⟩ := h; rfl) | (obtain ⟨_, _, rfl, _⟩ := h; rfl) | (obtain ⟨_, _, _, rfl, _⟩ := h; rfl) | (obtain ⟨_, _, _, _, rfl, _⟩ := h; rfl) | (obtain ⟨_, _, _, _, _, rfl, _⟩ := h; rfl) | (obtain ⟨_, _, _, _, _, _, rfl, _⟩ := h; rfl) | (obtain ⟨_, _, _, _, _, _, _, rfl, _⟩ := h; rfl) | (obtain ⟨_, _, _, _, _, _, _, _, rfl, _⟩ := h; rfl) | (obtain ⟨_, _, _, _, _, _, _, _, _, rfl, _⟩ := h; rfl) | (obtain ⟨_, _, _, _, _, _, _, _, _, _, rfl, _⟩ := h; rfl) | (obtain ⟨_, _, _, _, _, _, _, _, _, _, _, rfl, _⟩ := h; rfl) | (obtain ⟨_, _, _, _, _, _, _, _, _, _, _, _, rfl, _⟩ := h; rfl) | (obtain ⟨_, _, _, _, _, _, _, _, _, _, _, _, _, rfl, _⟩ := h; rfl)
theorem len_law_cells : ∀ ts P, sp_law_cells ts P → ts.length = 2 := by intro ts P h; first | (obtain ⟨_, rfl, _⟩ := h; rfl) | (obtain ⟨_, _, rfl, _⟩ := h; rfl) | (obtain ⟨_, _, _, rfl, _⟩ := h; rfl) | (obtain ⟨_, _, _, _, rfl, _⟩ := h; rfl) | (obtain ⟨_, _, _, _, _, rfl, _⟩ := h; rfl) | (obtain ⟨_, _, _, _, _, _, rfl, _⟩ := h; rfl) | (obtain ⟨_, _, _, _, _, _, _, rfl, _⟩ := h; rfl) | (obtain ⟨_, _, _, _, _, _, _, _, rfl, _⟩ := h; rfl) | (obtain ⟨_, _, _, _, _, _, _, _, _, rfl, _⟩ := h; rfl) | (obtain ⟨_, _, _, _, _, _, _, _, _, _, rfl, _⟩ := h; rfl) | (obtain ⟨_, _, _, _, _, _, _, _, _, _, _, rfl, _⟩ := h; rfl) | (obtain ⟨_, _, _, _, _, _, _, _, _, _, _, _, rfl, _⟩ := h; rfl) | (obtain ⟨_, _, _, _, _, _, _, _, _, _, _, _, _, rfl, _⟩ := h; rfl)
theorem len_law_same : ∀ ts P, sp_law_same ts P → ts.length = 2 := by intro ts P h; first | (obtain ⟨_, rfl, _⟩ := h; rfl) | (obtain ⟨_, _, rfl, _⟩ := h; rfl) | (obtain ⟨_, _, _, rfl, _⟩ := h; rfl) | (obtain ⟨_, _, _, _, rfl, _⟩ := h; rfl) | (obtain ⟨_, _, _, _, _, rfl, _⟩ := h; rfl) | (obtain ⟨_, _, _, _, _, _, rfl, _⟩ := h; rfl) | (obtain ⟨_, _, _, _, _, _, _, rfl, _⟩ := h; rfl) | (obtain ⟨_, _, _, _, _, _, _, _, rfl, _⟩ := h; rfl) | (obtain ⟨_, _, _, _, _, _, _, _, _, rfl, _⟩ := h; rfl) | (obtain ⟨_, _, _, _, _, _, _, _, _, _, rfl, _⟩ := h; rfl) | (obtain ⟨_, _, _, _, _, _, _, _, _, _, _, rfl, _⟩ := h; rfl) | (obtain ⟨_, _, _, _, _, _, _, _, _, _, _, _, rfl, _⟩ := h; rfl) | (obtain ⟨_, _, _, _, _, _, _, _, _, _, _, _, _, rfl, _⟩ := h; rfl)
theorem len_law_told : ∀ ts P, sp_law_told ts P → ts.length = 2 := by intro ts P h; first | (obtain ⟨_, rfl, _⟩ := h; rfl) | (obtain ⟨_, _, rfl, _⟩ := h; rfl) | (obtain ⟨_, _, _, rfl, _⟩ := h; rfl) | (obtain ⟨_, _, _, _, rfl, _⟩ := h; rfl) | (obtain ⟨_, _, _, _, _, rfl, _⟩ := h; rfl) | (obtain ⟨_, _, _, _, _, _, rfl, _⟩ := h; rfl) | (obtain ⟨_, _, _, _, _, _, _, rfl, _⟩ := h; rfl) | (obtain ⟨_, _, _, _, _, _, _, _, rfl, _⟩ := h; rfl) | (obtain ⟨_, _, _, _, _, _, _, _, _, rfl, _⟩ := h; rfl) | (obtain ⟨_, _, _, _, _, _, _, _, _, _, rfl, _⟩ := h; rfl) | (obtain ⟨_, _, _, _, _, _, _, _, _, _, _, rfl, _⟩ := h; rfl) | (obtain ⟨_, _, _, _, _, _, _, _, _, _, _, _, rfl, _⟩ := h; rfl) | (obtain ⟨_, _, _, _, _, _, _, _, _, _, _, _, _, rfl, _⟩ := h; rfl)
theorem len_law_few : ∀ ts P, sp_law_few ts P → ts.length = 3 := by intro ts P h; first | (obtain ⟨_, rfl, _⟩ := h; rfl) | (obtain ⟨_, _, rfl, _⟩ := h; rfl) | (obtain ⟨_, _, _, rfl, _⟩ := h; rfl) | (obtain ⟨_, _, _, _, rfl, _⟩ := h; rfl) | (obtain ⟨_, _, _, _, _, rfl, _⟩ := h; rfl) | (obtain ⟨_, _, _, _, _, _, rfl, _⟩ := h; rfl) | (obtain ⟨_, _, _, _, _, _, _, rfl, _⟩ := h; rfl) | (obtain ⟨_, _, _, _, _, _, _, _, rfl, _⟩ := h; rfl) | (obtain ⟨_, _, _, _, _, _, _, _, _, rfl, _⟩ := h; rfl) | (obtain ⟨_, _, _, _, _, _, _, _, _, _, rfl, _⟩ := h; rfl) | (obtain ⟨_, _, _, _, _, _, _, _, _, _, _, rfl, _⟩ := h; rfl) | (obtain ⟨_, _, _, _, _, _, _, _, _, _, _, _, rfl, _⟩ := h; rfl) | (obtain ⟨_, _, _, _, _, _, _, _, _, _, _, _, _, rfl, _⟩ := h; rfl)
theorem len_law_list : ∀ ts P, sp_law_list ts P → ts.length = 2 := by intro ts P h; first | (obtain ⟨_, rfl, _⟩ := h; rfl) | (obtain ⟨_, _, rfl, _⟩ := h; rfl) | (obtain ⟨_, _, _, rfl, _⟩ := h; rfl) | (obtain ⟨_, _, _, _, rfl, _⟩ := h; rfl) | (obtain ⟨_, _, _, _, _, rfl, _⟩ := h; rfl) | (obtain ⟨_, _, _, _, _, _, rfl, _⟩ := h; rfl) | (obtain ⟨_, _, _, _, _, _, _, rfl, _⟩ := h; rfl) | (obtain ⟨_, _, _, _, _, _, _, _, rfl, _⟩ := h; rfl) | (obtain ⟨_, _, _, _, _, _, _, _, _, rfl, _⟩ := h; rfl) | (obtain ⟨_, _, _, _, _, _, _, _, _, _, rfl, _⟩ := h; rfl) | (obtain ⟨_, _, _, _, _, _, _, _, _, _, _, rfl, _⟩ := h; rfl) | (obtain ⟨_, _, _, _, _, _, _, _, _, _, _, _, rfl, _⟩ := h; rfl) | (obtain ⟨_, _, _, _, _, _, _, _, _, _, _, _, _, rfl, _⟩ := h; rfl)
theorem len_main_step (aRingPlay : Addr) : ∀ ts P, (sp_main_step aRingPlay) ts P → ts.length = 4 := by intro ts P h; first | (obtain ⟨_, rfl, _⟩ := h; rfl) | (obtain ⟨_, _, rfl, _⟩ := h; rfl) | (obtain ⟨_, _, _, rfl, _⟩ := h; rfl) | (obtain ⟨_, _, _, _, rfl, _⟩ := h; rfl) | (obtain ⟨_, _, _, _, _, rfl, _⟩ := h; rfl) | (obtain ⟨_, _, _, _, _, _, rfl, _⟩ := h; rfl) | (obtain ⟨_, _, _, _, _, _, _, rfl, _⟩ := h; rfl) | (obtain ⟨_, _, _, _, _, _, _, _, rfl, _⟩ := h; rfl) | (obtain ⟨_, _, _, _, _, _, _, _, _, rfl, _⟩ := h; rfl) | (obtain ⟨_, _, _, _, _, _, _, _, _, _, rfl, _⟩ := h; rfl) | (obtain ⟨_, _, _, _, _, _, _, _, _, _, _, rfl, _⟩ := h; rfl) | (obtain ⟨_, _, _, _, _, _, _, _, _, _, _, _, rfl, _⟩ := h; rfl) | (obtain ⟨_, _, _, _, _, _, _, _, _, _, _, _, _, rfl, _⟩ := h; rfl)
theorem len_law_words : ∀ ts P, sp_law_words ts P → ts.length = 1 := by intro ts P h; first | (obtain ⟨_, rfl, _⟩ := h; rfl) | (obtain ⟨_, _, rfl, _⟩ := h; rfl) | (obtain ⟨_, _, _, rfl, _⟩ := h; rfl) | (obtain ⟨_, _, _, _, rfl, _⟩ := h; rfl) | (obtain ⟨_, _, _, _, _, rfl, _⟩ := h; rfl) | (obtain ⟨_, _, _, _, _, _, rfl, _⟩ := h; rfl) | (obtain ⟨_, _, _, _, _, _, _, rfl, _⟩ := h; rfl) | (obtain ⟨_, _, _, _, _, _, _, _, rfl, _⟩ := h; rfl) | (obtain ⟨_, _, _, _, _, _, _, _, _, rfl, _⟩ := h; rfl) | (obtain ⟨_, _, _, _, _, _, _, _, _, _, rfl, _⟩ := h; rfl) | (obtain ⟨_, _, _, _, _, _, _, _, _, _, _, rfl, _⟩ := h; rfl) | (obtain ⟨_, _, _, _, _, _, _, _, _, _, _, _, rfl, _⟩ := h; rfl) | (obtain ⟨_, _, _, _, _, _, _, _, _, _, _, _, _, rfl, _⟩ := h; rfl)
theorem len_law_blocks : ∀ ts P, sp_law_blocks ts P → ts.length = 2 := by intro ts P h; first | (obtain ⟨_, rfl, _⟩ := h; rfl) | (obtain ⟨_, _, rfl, _⟩ := h; rfl) | (obtain ⟨_, _, _, rfl, _⟩ := h; rfl) | (obtain ⟨_, _, _, _, rfl, _⟩ := h; rfl) | (obtain ⟨_, _, _, _, _, rfl, _⟩ := h; rfl) | (obtain ⟨_, _, _, _, _, _, rfl, _⟩ := h; rfl) | (obtain ⟨_, _, _, _, _, _, _, rfl, _⟩ := h; rfl) | (obtain ⟨_, _, _, _, _, _, _, _, rfl, _⟩ := h; rfl) | (obtain ⟨_, _, _, _, _, _, _, _, _, rfl, _⟩ := h; rfl) | (obtain ⟨_, _, _, _, _, _, _, _, _, _, rfl, _⟩ := h; rfl) | (obtain ⟨_, _, _, _, _, _, _, _, _, _, _, rfl, _⟩ := h; rfl) | (obtain ⟨_, _, _, _, _, _, _, _, _, _, _, _, rfl, _⟩ := h; rfl) | (obtain ⟨_, _, _, _, _, _, _, _, _, _, _, _, _, rfl, _⟩ := h; rfl)
theorem len_law_right (aRingPlay : Addr) : ∀ ts P, (sp_law_right aRingPlay) ts P → ts.length = 3 := by intro ts P h; first | (obtain ⟨_, rfl, _⟩ := h; rfl) | (obtain ⟨_, _, rfl, _⟩ := h; rfl) | (obtain ⟨_, _, _, rfl, _⟩ := h; rfl) | (obtain ⟨_, _, _, _, rfl, _⟩ := h; rfl) | (obtain ⟨_, _, _, _, _, rfl, _⟩ := h; rfl) | (obtain ⟨_, _, _, _, _, _, rfl, _⟩ := h; rfl) | (obtain ⟨_, _, _, _, _, _, _, rfl, _⟩ := h; rfl) | (obtain ⟨_, _, _, _, _, _, _, _, rfl, _⟩ := h; rfl) | (obtain ⟨_, _, _, _, _, _, _, _, _, rfl, _⟩ := h; rfl) | (obtain ⟨_, _, _, _, _, _, _, _, _, _, rfl, _⟩ := h; rfl) | (obtain ⟨_, _, _, _, _, _, _, _, _, _, _, rfl, _⟩ := h; rfl) | (obtain ⟨_, _, _, _, _, _, _, _, _, _, _, _, rfl, _⟩ := h; rfl) | (obtain ⟨_, _, _, _, _, _, _, _, _, _, _, _, _, rfl, _⟩ := h; rfl)
theorem len_ring_played (aRingPlay : Addr) : ∀ ts P, (sp_ring_played aRingPlay) ts P → ts.length = 5 := by intro ts P h; first | (obtain ⟨_, rfl, _⟩ := h; rfl) | (obtain ⟨_, _, rfl, _⟩ := h; rfl) | (obtain ⟨_, _, _, rfl, _⟩ := h; rfl) | (obtain ⟨_, _, _, _, rfl, _⟩ := h; rfl) | (obtain ⟨_, _, _, _, _, rfl, _⟩ := h; rfl) | (obtain ⟨_, _, _, _, _, _, rfl, _⟩ := h; rfl) | (obtain ⟨_, _, _, _, _, _, _, rfl, _⟩ := h; rfl) | (obtain ⟨_, _, _, _, _, _, _, _, rfl, _⟩ := h; rfl) | (obtain ⟨_, _, _, _, _, _, _, _, _, rfl, _⟩ := h; rfl) | (obtain ⟨_, _, _, _, _, _, _, _, _, _, rfl, _⟩ := h; rfl) | (obtain ⟨_, _, _, _, _, _, _, _, _, _, _, rfl, _⟩ := h; rfl) | (obtain ⟨_, _, _, _, _, _, _, _, _, _, _, _, rfl, _⟩ := h; rfl) | (obtain ⟨_, _, _, _, _, _, _, _, _, _, _, _, _, rfl, _⟩ := h; rfl)
theorem len_law (aRingPlay : Addr) : ∀ ts P, (sp_law aRingPlay) ts P → ts.length = 1 := by intro ts P h; first | (obtain ⟨_, rfl, _⟩ := h; rfl) | (obtain ⟨_, _, rfl, _⟩ := h; rfl) | (obtain ⟨_, _, _, rfl, _⟩ := h; rfl) | (obtain ⟨_, _, _, _, rfl, _⟩ := h; rfl) | (obtain ⟨_, _, _, _, _, rfl, _⟩ := h; rfl) | (obtain ⟨_, _, _, _, _, _, rfl, _⟩ := h; rfl) | (obtain ⟨_, _, _, _, _, _, _, rfl, _⟩ := h; rfl) | (obtain ⟨_, _, _, _, _, _, _, _, rfl, _⟩ := h; rfl) | (obtain ⟨_, _, _, _, _, _, _, _, _, rfl, _⟩ := h; rfl) | (obtain ⟨_, _, _, _, _, _, _, _, _, _, rfl, _⟩ := h; rfl) | (obtain ⟨_, _, _, _, _, _, _, _, _, _, _, rfl, _⟩ := h; rfl) | (obtain ⟨_, _, _, _, _, _, _, _, _, _, _, _, rfl, _⟩ := h; rfl) | (obtain ⟨_, _, _, _, _, _, _, _, _, _, _, _, _, rfl, _⟩ := h; rfl)
theorem ok_all {P : Program} {w : World} {K : PySem.W.Frag} {mg : Str → Option Value} {base : Heap} {aRingPlay : Addr} (g : Gx K mg aRingPlay)
    {f_RingPlay_init : Addr} {fd_RingPlay_init : FuncData} (F_RingPlay_init : Fun K "__init__" "RingPlay.__init__" s_RingPlay_init f_RingPlay_init fd_RingPlay_init)
    (m_RingPlay_init : Mk K aRingPlay f_RingPlay_init)
    {f_may_put : Addr} {fd_may_put : FuncData} (F_may_put : Fun K "may_put" "may_put" s_may_put f_may_put fd_may_put)
    (m_may_put : mg "may_put" = some (.ref f_may_put))
    {f_may_take : Addr} {fd_may_take : FuncData} (F_may_take : Fun K "may_take" "may_take" s_may_take f_may_take fd_may_take)
    (m_may_take : mg "may_take" = some (.ref f_may_take))
    {f_put_word : Addr} {fd_put_word : FuncData} (F_put_word : Fun K "put_word" "put_word" s_put_word f_put_word fd_put_word)
    (m_put_word : mg "put_word" = some (.ref f_put_word))
    {f_take_word : Addr} {fd_take_word : FuncData} (F_take_word : Fun K "take_word" "take_word" s_take_word f_take_word fd_take_word)
    (m_take_word : mg "take_word" = some (.ref f_take_word))
    {f_ring_fault : Addr} {fd_ring_fault : FuncData} (F_ring_fault : Fun K "ring_fault" "ring_fault" s_ring_fault f_ring_fault fd_ring_fault)
    (m_ring_fault : mg "ring_fault" = some (.ref f_ring_fault))
    {f_wrong_blocks : Addr} {fd_wrong_blocks : FuncData} (F_wrong_blocks : Fun K "wrong_blocks" "wrong_blocks" s_wrong_blocks f_wrong_blocks fd_wrong_blocks)
    (m_wrong_blocks : mg "wrong_blocks" = some (.ref f_wrong_blocks))
    {f_law_tape : Addr} {fd_law_tape : FuncData} (F_law_tape : Fun K "_law_tape" "_law_tape" s_law_tape f_law_tape fd_law_tape)
    (m_law_tape : mg "_law_tape" = some (.ref f_law_tape))
    {f_law_draw : Addr} {fd_law_draw : FuncData} (F_law_draw : Fun K "_law_draw" "_law_draw" s_law_draw f_law_draw fd_law_draw)
    (m_law_draw : mg "_law_draw" = some (.ref f_law_draw))
    {f_law_is : Addr} {fd_law_is : FuncData} (F_law_is : Fun K "_law_is" "_law_is" s_law_is f_law_is fd_law_is)
    (m_law_is : mg "_law_is" = some (.ref f_law_is))
    {f_law_play : Addr} {fd_law_play : FuncData} (F_law_play : Fun K "_law_play" "_law_play" s_law_play f_law_play fd_law_play)
    (m_law_play : mg "_law_play" = some (.ref f_law_play))
    {f_law_fault : Addr} {fd_law_fault : FuncData} (F_law_fault : Fun K "_law_fault" "_law_fault" s_law_fault f_law_fault fd_law_fault)
    (m_law_fault : mg "_law_fault" = some (.ref f_law_fault))
    {f_handler_block : Addr} {fd_handler_block : FuncData} (F_handler_block : Fun K "handler_block" "handler_block" s_handler_block f_handler_block fd_handler_block)
    (m_handler_block : mg "handler_block" = some (.ref f_handler_block))
    {f_word_step : Addr} {fd_word_step : FuncData} (F_word_step : Fun K "word_step" "word_step" s_word_step f_word_step fd_word_step)
    (m_word_step : mg "word_step" = some (.ref f_word_step))
    {f_law_cells : Addr} {fd_law_cells : FuncData} (F_law_cells : Fun K "_law_cells" "_law_cells" s_law_cells f_law_cells fd_law_cells)
    (m_law_cells : mg "_law_cells" = some (.ref f_law_cells))
    {f_law_same : Addr} {fd_law_same : FuncData} (F_law_same : Fun K "_law_same" "_law_same" s_law_same f_law_same fd_law_same)
    (m_law_same : mg "_law_same" = some (.ref f_law_same))
    {f_law_told : Addr} {fd_law_told : FuncData} (F_law_told : Fun K "_law_told" "_law_told" s_law_told f_law_told fd_law_told)
    (m_law_told : mg "_law_told" = some (.ref f_law_told))
    {f_law_few : Addr} {fd_law_few : FuncData} (F_law_few : Fun K "_law_few" "_law_few" s_law_few f_law_few fd_law_few)
    (m_law_few : mg "_law_few" = some (.ref f_law_few))
    {f_law_list : Addr} {fd_law_list : FuncData} (F_law_list : Fun K "_law_list" "_law_list" s_law_list f_law_list fd_law_list)
    (m_law_list : mg "_law_list" = some (.ref f_law_list))
    {f_main_step : Addr} {fd_main_step : FuncData} (F_main_step : Fun K "main_step" "main_step" s_main_step f_main_step fd_main_step)
    (m_main_step : mg "main_step" = some (.ref f_main_step))
    {f_law_words : Addr} {fd_law_words : FuncData} (F_law_words : Fun K "_law_words" "_law_words" s_law_words f_law_words fd_law_words)
    (m_law_words : mg "_law_words" = some (.ref f_law_words))
    {f_law_blocks : Addr} {fd_law_blocks : FuncData} (F_law_blocks : Fun K "_law_blocks" "_law_blocks" s_law_blocks f_law_blocks fd_law_blocks)
    (m_law_blocks : mg "_law_blocks" = some (.ref f_law_blocks))
    {f_law_right : Addr} {fd_law_right : FuncData} (F_law_right : Fun K "_law_right" "_law_right" s_law_right f_law_right fd_law_right)
    (m_law_right : mg "_law_right" = some (.ref f_law_right))
    {f_ring_played : Addr} {fd_ring_played : FuncData} (F_ring_played : Fun K "ring_played" "ring_played" s_ring_played f_ring_played fd_ring_played)
    (m_ring_played : mg "ring_played" = some (.ref f_ring_played))
    {f_law : Addr} {fd_law : FuncData} (F_law : Fun K "law" "law" s_law f_law fd_law)
    : FnG P w K mg base 5 f_law fd_law ["script"] (spOf K (sp_law aRingPlay)) := by
  have o_RingPlay_init := ok_RingPlay_init (P := P) (w := w) (base := base) F_RingPlay_init g  (len_RingPlay_init aRingPlay) red_RingPlay_init
  have b_RingPlay_init := F_RingPlay_init.binds (ps := ["self", "places"]) fun _ _ _ _ _ _ us hl => match us, hl with | [_, _], _ => rfl
  have k_RingPlay_init : CalM P w K mg base "RingPlay" (cRingPlay aRingPlay) 1 ["self", "places"] (sp_RingPlay_init aRingPlay) := ⟨⟨_, _, o_RingPlay_init, g.g_RingPlay, m_RingPlay_init, b_RingPlay_init⟩⟩
  have o_may_put := ok_may_put (P := P) (w := w) (base := base) F_may_put g  (len_may_put aRingPlay) red_may_put
  have b_may_put := F_may_put.binds (ps := ["play", "words"]) fun _ _ _ _ _ _ us hl => match us, hl with | [_, _], _ => rfl
  have k_may_put : Cal P w K mg base "may_put" 1 ["play", "words"] (sp_may_put aRingPlay) := ⟨⟨_, _, o_may_put, m_may_put, F_may_put.kp, b_may_put⟩⟩
  have o_may_take := ok_may_take (P := P) (w := w) (base := base) F_may_take g  (len_may_take aRingPlay) red_may_take
  have b_may_take := F_may_take.binds (ps := ["play"]) fun _ _ _ _ _ _ us hl => match us, hl with | [_], _ => rfl
  have k_may_take : Cal P w K mg base "may_take" 1 ["play"] (sp_may_take aRingPlay) := ⟨⟨_, _, o_may_take, m_may_take, F_may_take.kp, b_may_take⟩⟩
  have o_put_word := ok_put_word (P := P) (w := w) (base := base) F_put_word g  (len_put_word aRingPlay) red_put_word
  have b_put_word := F_put_word.binds (ps := ["play", "number", "words"]) fun _ _ _ _ _ _ us hl => match us, hl with | [_, _, _], _ => rfl
  have k_put_word : Cal P w K mg base "put_word" 1 ["play", "number", "words"] (sp_put_word aRingPlay) := ⟨⟨_, _, o_put_word, m_put_word, F_put_word.kp, b_put_word⟩⟩
  have o_take_word := ok_take_word (P := P) (w := w) (base := base) F_take_word g  (len_take_word aRingPlay) red_take_word
  have b_take_word := F_take_word.binds (ps := ["play", "number"]) fun _ _ _ _ _ _ us hl => match us, hl with | [_, _], _ => rfl
  have k_take_word : Cal P w K mg base "take_word" 1 ["play", "number"] (sp_take_word aRingPlay) := ⟨⟨_, _, o_take_word, m_take_word, F_take_word.kp, b_take_word⟩⟩
  have o_ring_fault := ok_ring_fault (P := P) (w := w) (base := base) F_ring_fault g  (len_ring_fault) red_ring_fault
  have b_ring_fault := F_ring_fault.binds (ps := ["words", "taken"]) fun _ _ _ _ _ _ us hl => match us, hl with | [_, _], _ => rfl
  have k_ring_fault : Cal P w K mg base "ring_fault" 1 ["words", "taken"] sp_ring_fault := ⟨⟨_, _, o_ring_fault, m_ring_fault, F_ring_fault.kp, b_ring_fault⟩⟩
  have o_wrong_blocks := ok_wrong_blocks (P := P) (w := w) (base := base) F_wrong_blocks g  (len_wrong_blocks) red_wrong_blocks
  have b_wrong_blocks := F_wrong_blocks.binds (ps := ["places", "side"]) fun _ _ _ _ _ _ us hl => match us, hl with | [_, _], _ => rfl
  have k_wrong_blocks : Cal P w K mg base "wrong_blocks" 1 ["places", "side"] sp_wrong_blocks := ⟨⟨_, _, o_wrong_blocks, m_wrong_blocks, F_wrong_blocks.kp, b_wrong_blocks⟩⟩
  have o_law_tape := ok_law_tape (P := P) (w := w) (base := base) F_law_tape g  (len_law_tape) red_law_tape
  have b_law_tape := F_law_tape.binds (ps := ["script"]) fun _ _ _ _ _ _ us hl => match us, hl with | [_], _ => rfl
  have k_law_tape : Cal P w K mg base "_law_tape" 1 ["script"] sp_law_tape := ⟨⟨_, _, o_law_tape, m_law_tape, F_law_tape.kp, b_law_tape⟩⟩
  have o_law_draw := ok_law_draw (P := P) (w := w) (base := base) F_law_draw g  (len_law_draw) red_law_draw
  have b_law_draw := F_law_draw.binds (ps := ["rows", "size"]) fun _ _ _ _ _ _ us hl => match us, hl with | [_, _], _ => rfl
  have k_law_draw : Cal P w K mg base "_law_draw" 1 ["rows", "size"] sp_law_draw := ⟨⟨_, _, o_law_draw, m_law_draw, F_law_draw.kp, b_law_draw⟩⟩
  have o_law_is := ok_law_is (P := P) (w := w) (base := base) F_law_is g  (len_law_is) red_law_is
  have b_law_is := F_law_is.binds (ps := ["told", "due"]) fun _ _ _ _ _ _ us hl => match us, hl with | [_, _], _ => rfl
  have k_law_is : Cal P w K mg base "_law_is" 1 ["told", "due"] sp_law_is := ⟨⟨_, _, o_law_is, m_law_is, F_law_is.kp, b_law_is⟩⟩
  have o_law_play := ok_law_play (P := P) (w := w) (base := base) F_law_play g  (len_law_play) red_law_play
  have b_law_play := F_law_play.binds (ps := ["places", "side", "blocks", "words"]) fun _ _ _ _ _ _ us hl => match us, hl with | [_, _, _, _], _ => rfl
  have k_law_play : Cal P w K mg base "_law_play" 1 ["places", "side", "blocks", "words"] sp_law_play := ⟨⟨_, _, o_law_play, m_law_play, F_law_play.kp, b_law_play⟩⟩
  have o_law_fault := ok_law_fault (P := P) (w := w) (base := base) F_law_fault g  (len_law_fault) red_law_fault
  have b_law_fault := F_law_fault.binds (ps := ["words", "taken"]) fun _ _ _ _ _ _ us hl => match us, hl with | [_, _], _ => rfl
  have k_law_fault : Cal P w K mg base "_law_fault" 1 ["words", "taken"] sp_law_fault := ⟨⟨_, _, o_law_fault, m_law_fault, F_law_fault.kp, b_law_fault⟩⟩
  have o_handler_block := ok_handler_block (P := P) (w := w) (base := base) F_handler_block g k_may_put k_put_word k_may_take k_take_word (len_handler_block aRingPlay) red_handler_block
  have b_handler_block := F_handler_block.binds (ps := ["play", "side", "words"]) fun _ _ _ _ _ _ us hl => match us, hl with | [_, _, _], _ => rfl
  have k_handler_block : Cal P w K mg base "handler_block" 2 ["play", "side", "words"] (sp_handler_block aRingPlay) := ⟨⟨_, _, o_handler_block, m_handler_block, F_handler_block.kp, b_handler_block⟩⟩
  have o_word_step := ok_word_step (P := P) (w := w) (base := base) F_word_step g k_take_word k_put_word (len_word_step aRingPlay) red_word_step
  have b_word_step := F_word_step.binds (ps := ["play", "side", "order", "words"]) fun _ _ _ _ _ _ us hl => match us, hl with | [_, _, _, _], _ => rfl
  have k_word_step : Cal P w K mg base "word_step" 2 ["play", "side", "order", "words"] (sp_word_step aRingPlay) := ⟨⟨_, _, o_word_step, m_word_step, F_word_step.kp, b_word_step⟩⟩
  have o_law_cells := ok_law_cells (P := P) (w := w) (base := base) F_law_cells g k_law_draw (len_law_cells) red_law_cells
  have b_law_cells := F_law_cells.binds (ps := ["rows", "count"]) fun _ _ _ _ _ _ us hl => match us, hl with | [_, _], _ => rfl
  have k_law_cells : Cal P w K mg base "_law_cells" 2 ["rows", "count"] sp_law_cells := ⟨⟨_, _, o_law_cells, m_law_cells, F_law_cells.kp, b_law_cells⟩⟩
  have o_law_same := ok_law_same (P := P) (w := w) (base := base) F_law_same g k_law_is (len_law_same) red_law_same
  have b_law_same := F_law_same.binds (ps := ["told", "due"]) fun _ _ _ _ _ _ us hl => match us, hl with | [_, _], _ => rfl
  have k_law_same : Cal P w K mg base "_law_same" 2 ["told", "due"] sp_law_same := ⟨⟨_, _, o_law_same, m_law_same, F_law_same.kp, b_law_same⟩⟩
  have o_law_told := ok_law_told (P := P) (w := w) (base := base) F_law_told g k_law_is (len_law_told) red_law_told
  have b_law_told := F_law_told.binds (ps := ["told", "due"]) fun _ _ _ _ _ _ us hl => match us, hl with | [_, _], _ => rfl
  have k_law_told : Cal P w K mg base "_law_told" 2 ["told", "due"] sp_law_told := ⟨⟨_, _, o_law_told, m_law_told, F_law_told.kp, b_law_told⟩⟩
  have o_law_few := ok_law_few (P := P) (w := w) (base := base) F_law_few g k_law_draw (len_law_few) red_law_few
  have b_law_few := F_law_few.binds (ps := ["rows", "places", "side"]) fun _ _ _ _ _ _ us hl => match us, hl with | [_, _, _], _ => rfl
  have k_law_few : Cal P w K mg base "_law_few" 2 ["rows", "places", "side"] sp_law_few := ⟨⟨_, _, o_law_few, m_law_few, F_law_few.kp, b_law_few⟩⟩
  have o_law_list := ok_law_list (P := P) (w := w) (base := base) F_law_list g k_law_draw (len_law_list) red_law_list
  have b_law_list := F_law_list.binds (ps := ["rows", "words"]) fun _ _ _ _ _ _ us hl => match us, hl with | [_, _], _ => rfl
  have k_law_list : Cal P w K mg base "_law_list" 2 ["rows", "words"] sp_law_list := ⟨⟨_, _, o_law_list, m_law_list, F_law_list.kp, b_law_list⟩⟩
  have o_main_step := ok_main_step (P := P) (w := w) (base := base) F_main_step g k_may_take k_may_put k_word_step (len_main_step aRingPlay) red_main_step
  have b_main_step := F_main_step.binds (ps := ["play", "side", "order", "words"]) fun _ _ _ _ _ _ us hl => match us, hl with | [_, _, _, _], _ => rfl
  have k_main_step : Cal P w K mg base "main_step" 3 ["play", "side", "order", "words"] (sp_main_step aRingPlay) := ⟨⟨_, _, o_main_step, m_main_step, F_main_step.kp, b_main_step⟩⟩
  have o_law_words := ok_law_words (P := P) (w := w) (base := base) F_law_words g k_law_cells k_law_draw (len_law_words) red_law_words
  have b_law_words := F_law_words.binds (ps := ["rows"]) fun _ _ _ _ _ _ us hl => match us, hl with | [_], _ => rfl
  have k_law_words : Cal P w K mg base "_law_words" 3 ["rows"] sp_law_words := ⟨⟨_, _, o_law_words, m_law_words, F_law_words.kp, b_law_words⟩⟩
  have o_law_blocks := ok_law_blocks (P := P) (w := w) (base := base) F_law_blocks g k_law_cells k_law_draw (len_law_blocks) red_law_blocks
  have b_law_blocks := F_law_blocks.binds (ps := ["rows", "places"]) fun _ _ _ _ _ _ us hl => match us, hl with | [_, _], _ => rfl
  have k_law_blocks : Cal P w K mg base "_law_blocks" 3 ["rows", "places"] sp_law_blocks := ⟨⟨_, _, o_law_blocks, m_law_blocks, F_law_blocks.kp, b_law_blocks⟩⟩
  have o_law_right := ok_law_right (P := P) (w := w) (base := base) F_law_right g k_law_is k_law_same k_law_told k_law_fault k_ring_fault (len_law_right aRingPlay) red_law_right
  have b_law_right := F_law_right.binds (ps := ["play", "due", "words"]) fun _ _ _ _ _ _ us hl => match us, hl with | [_, _, _], _ => rfl
  have k_law_right : Cal P w K mg base "_law_right" 3 ["play", "due", "words"] (sp_law_right aRingPlay) := ⟨⟨_, _, o_law_right, m_law_right, F_law_right.kp, b_law_right⟩⟩
  have o_ring_played := ok_ring_played (P := P) (w := w) (base := base) F_ring_played g k_RingPlay_init k_handler_block k_main_step (len_ring_played aRingPlay) red_ring_played
  have b_ring_played := F_ring_played.binds (ps := ["places", "side", "order", "blocks", "words"]) fun _ _ _ _ _ _ us hl => match us, hl with | [_, _, _, _, _], _ => rfl
  have k_ring_played : Cal P w K mg base "ring_played" 4 ["places", "side", "order", "blocks", "words"] (sp_ring_played aRingPlay) := ⟨⟨_, _, o_ring_played, m_ring_played, F_ring_played.kp, b_ring_played⟩⟩
  have o_law := ok_law (P := P) (w := w) (base := base) F_law g k_law_tape k_law_draw k_law_few k_law_words k_law_list k_law_blocks k_law_play k_ring_played k_law_right k_wrong_blocks k_law_same k_law_is k_ring_fault k_law_told k_law_fault (len_law aRingPlay) red_law
  exact o_law
theorem all_mk {l : PySem.W.OpenLaw} {w : World} {K : PySem.W.Frag} {h : Heap} {mg : Str → Option Value} {fa aRingPlay f_RingPlay_init f_may_put f_may_take f_put_word f_take_word f_ring_fault f_wrong_blocks f_law_tape f_law_draw f_law_is f_law_play f_law_fault f_handler_block f_word_step f_law_cells f_law_same f_law_told f_law_few f_law_list f_main_step f_law_words f_law_blocks f_law_right f_ring_played f_law : Addr} (X : K.In h) (G : h.Ns mainGlobals mg) (hfa : mg "law" = some (.ref fa))
    {od_RingPlay_init an_RingPlay_init : Option Addr} {sl_RingPlay_init : Array (Option Value)} {oc_RingPlay_init kV_RingPlay_init dc_RingPlay_init pm_RingPlay_init cd_RingPlay_init ct_RingPlay_init : Value}
    {od_may_put an_may_put : Option Addr} {sl_may_put : Array (Option Value)} {oc_may_put kV_may_put dc_may_put pm_may_put cd_may_put ct_may_put : Value}
    {od_may_take an_may_take : Option Addr} {sl_may_take : Array (Option Value)} {oc_may_take kV_may_take dc_may_take pm_may_take cd_may_take ct_may_take : Value}
    {od_put_word an_put_word : Option Addr} {sl_put_word : Array (Option Value)} {oc_put_word kV_put_word dc_put_word pm_put_word cd_put_word ct_put_word : Value}
    {od_take_word an_take_word : Option Addr} {sl_take_word : Array (Option Value)} {oc_take_word kV_take_word dc_take_word pm_take_word cd_take_word ct_take_word : Value}
    {od_ring_fault an_ring_fault : Option Addr} {sl_ring_fault : Array (Option Value)} {oc_ring_fault kV_ring_fault dc_ring_fault pm_ring_fault cd_ring_fault ct_ring_fault : Value}
    {od_wrong_blocks an_wrong_blocks : Option Addr} {sl_wrong_blocks : Array (Option Value)} {oc_wrong_blocks kV_wrong_blocks dc_wrong_blocks pm_wrong_blocks cd_wrong_blocks ct_wrong_blocks : Value}
    {od_law_tape an_law_tape : Option Addr} {sl_law_tape : Array (Option Value)} {oc_law_tape kV_law_tape dc_law_tape pm_law_tape cd_law_tape ct_law_tape : Value}
    {od_law_draw an_law_draw : Option Addr} {sl_law_draw : Array (Option Value)} {oc_law_draw kV_law_draw dc_law_draw pm_law_draw cd_law_draw ct_law_draw : Value}
    {od_law_is an_law_is : Option Addr} {sl_law_is : Array (Option Value)} {oc_law_is kV_law_is dc_law_is pm_law_is cd_law_is ct_law_is : Value}
    {od_law_play an_law_play : Option Addr} {sl_law_play : Array (Option Value)} {oc_law_play kV_law_play dc_law_play pm_law_play cd_law_play ct_law_play : Value}
    {od_law_fault an_law_fault : Option Addr} {sl_law_fault : Array (Option Value)} {oc_law_fault kV_law_fault dc_law_fault pm_law_fault cd_law_fault ct_law_fault : Value}
    {od_handler_block an_handler_block : Option Addr} {sl_handler_block : Array (Option Value)} {oc_handler_block kV_handler_block dc_handler_block pm_handler_block cd_handler_block ct_handler_block : Value}
    {od_word_step an_word_step : Option Addr} {sl_word_step : Array (Option Value)} {oc_word_step kV_word_step dc_word_step pm_word_step cd_word_step ct_word_step : Value}
    {od_law_cells an_law_cells : Option Addr} {sl_law_cells : Array (Option Value)} {oc_law_cells kV_law_cells dc_law_cells pm_law_cells cd_law_cells ct_law_cells : Value}
    {od_law_same an_law_same : Option Addr} {sl_law_same : Array (Option Value)} {oc_law_same kV_law_same dc_law_same pm_law_same cd_law_same ct_law_same : Value}
    {od_law_told an_law_told : Option Addr} {sl_law_told : Array (Option Value)} {oc_law_told kV_law_told dc_law_told pm_law_told cd_law_told ct_law_told : Value}
    {od_law_few an_law_few : Option Addr} {sl_law_few : Array (Option Value)} {oc_law_few kV_law_few dc_law_few pm_law_few cd_law_few ct_law_few : Value}
    {od_law_list an_law_list : Option Addr} {sl_law_list : Array (Option Value)} {oc_law_list kV_law_list dc_law_list pm_law_list cd_law_list ct_law_list : Value}
    {od_main_step an_main_step : Option Addr} {sl_main_step : Array (Option Value)} {oc_main_step kV_main_step dc_main_step pm_main_step cd_main_step ct_main_step : Value}
    {od_law_words an_law_words : Option Addr} {sl_law_words : Array (Option Value)} {oc_law_words kV_law_words dc_law_words pm_law_words cd_law_words ct_law_words : Value}
    {od_law_blocks an_law_blocks : Option Addr} {sl_law_blocks : Array (Option Value)} {oc_law_blocks kV_law_blocks dc_law_blocks pm_law_blocks cd_law_blocks ct_law_blocks : Value}
    {od_law_right an_law_right : Option Addr} {sl_law_right : Array (Option Value)} {oc_law_right kV_law_right dc_law_right pm_law_right cd_law_right ct_law_right : Value}
    {od_ring_played an_ring_played : Option Addr} {sl_ring_played : Array (Option Value)} {oc_ring_played kV_ring_played dc_ring_played pm_ring_played cd_ring_played ct_ring_played : Value}
    {od_law an_law : Option Addr} {sl_law : Array (Option Value)} {oc_law kV_law dc_law pm_law cd_law ct_law : Value}
    (aC_RingPlay : PySem.W.nsIn K mainGlobals "RingPlay" = some (some (.ref aRingPlay)))
    (a_RingPlay_init : PySem.W.findIn K (.ref aRingPlay) "__init__" = some (some (.ref f_RingPlay_init)))
    (i_RingPlay_init : PySem.W.isFn K (.ref f_RingPlay_init) = true)
    (l_RingPlay_init : K.lookup f_RingPlay_init = some ⟨oc_RingPlay_init, od_RingPlay_init, .func (PySem.W.fnOf "__init__" "RingPlay.__init__" (defArgs s_RingPlay_init) (defBody s_RingPlay_init) (defScope s_RingPlay_init) .none kV_RingPlay_init dc_RingPlay_init pm_RingPlay_init an_RingPlay_init cd_RingPlay_init ct_RingPlay_init), sl_RingPlay_init⟩)
    (c_RingPlay_init : PySem.W.codeIn K cd_RingPlay_init "RingPlay.__init__" = true)
    (k_RingPlay_init : PySem.W.keepIn K (.ref f_RingPlay_init) = true)
    (a_may_put : PySem.W.nsIn K mainGlobals "may_put" = some (some (.ref f_may_put)))
    (l_may_put : K.lookup f_may_put = some ⟨oc_may_put, od_may_put, .func (PySem.W.fnOf "may_put" "may_put" (defArgs s_may_put) (defBody s_may_put) (defScope s_may_put) .none kV_may_put dc_may_put pm_may_put an_may_put cd_may_put ct_may_put), sl_may_put⟩)
    (c_may_put : PySem.W.codeIn K cd_may_put "may_put" = true)
    (k_may_put : PySem.W.keepIn K (.ref f_may_put) = true)
    (a_may_take : PySem.W.nsIn K mainGlobals "may_take" = some (some (.ref f_may_take)))
    (l_may_take : K.lookup f_may_take = some ⟨oc_may_take, od_may_take, .func (PySem.W.fnOf "may_take" "may_take" (defArgs s_may_take) (defBody s_may_take) (defScope s_may_take) .none kV_may_take dc_may_take pm_may_take an_may_take cd_may_take ct_may_take), sl_may_take⟩)
    (c_may_take : PySem.W.codeIn K cd_may_take "may_take" = true)
    (k_may_take : PySem.W.keepIn K (.ref f_may_take) = true)
    (a_put_word : PySem.W.nsIn K mainGlobals "put_word" = some (some (.ref f_put_word)))
    (l_put_word : K.lookup f_put_word = some ⟨oc_put_word, od_put_word, .func (PySem.W.fnOf "put_word" "put_word" (defArgs s_put_word) (defBody s_put_word) (defScope s_put_word) .none kV_put_word dc_put_word pm_put_word an_put_word cd_put_word ct_put_word), sl_put_word⟩)
    (c_put_word : PySem.W.codeIn K cd_put_word "put_word" = true)
    (k_put_word : PySem.W.keepIn K (.ref f_put_word) = true)
    (a_take_word : PySem.W.nsIn K mainGlobals "take_word" = some (some (.ref f_take_word)))
    (l_take_word : K.lookup f_take_word = some ⟨oc_take_word, od_take_word, .func (PySem.W.fnOf "take_word" "take_word" (defArgs s_take_word) (defBody s_take_word) (defScope s_take_word) .none kV_take_word dc_take_word pm_take_word an_take_word cd_take_word ct_take_word), sl_take_word⟩)
    (c_take_word : PySem.W.codeIn K cd_take_word "take_word" = true)
    (k_take_word : PySem.W.keepIn K (.ref f_take_word) = true)
    (a_ring_fault : PySem.W.nsIn K mainGlobals "ring_fault" = some (some (.ref f_ring_fault)))
    (l_ring_fault : K.lookup f_ring_fault = some ⟨oc_ring_fault, od_ring_fault, .func (PySem.W.fnOf "ring_fault" "ring_fault" (defArgs s_ring_fault) (defBody s_ring_fault) (defScope s_ring_fault) .none kV_ring_fault dc_ring_fault pm_ring_fault an_ring_fault cd_ring_fault ct_ring_fault), sl_ring_fault⟩)
    (c_ring_fault : PySem.W.codeIn K cd_ring_fault "ring_fault" = true)
    (k_ring_fault : PySem.W.keepIn K (.ref f_ring_fault) = true)
    (a_wrong_blocks : PySem.W.nsIn K mainGlobals "wrong_blocks" = some (some (.ref f_wrong_blocks)))
    (l_wrong_blocks : K.lookup f_wrong_blocks = some ⟨oc_wrong_blocks, od_wrong_blocks, .func (PySem.W.fnOf "wrong_blocks" "wrong_blocks" (defArgs s_wrong_blocks) (defBody s_wrong_blocks) (defScope s_wrong_blocks) .none kV_wrong_blocks dc_wrong_blocks pm_wrong_blocks an_wrong_blocks cd_wrong_blocks ct_wrong_blocks), sl_wrong_blocks⟩)
    (c_wrong_blocks : PySem.W.codeIn K cd_wrong_blocks "wrong_blocks" = true)
    (k_wrong_blocks : PySem.W.keepIn K (.ref f_wrong_blocks) = true)
    (a_law_tape : PySem.W.nsIn K mainGlobals "_law_tape" = some (some (.ref f_law_tape)))
    (l_law_tape : K.lookup f_law_tape = some ⟨oc_law_tape, od_law_tape, .func (PySem.W.fnOf "_law_tape" "_law_tape" (defArgs s_law_tape) (defBody s_law_tape) (defScope s_law_tape) .none kV_law_tape dc_law_tape pm_law_tape an_law_tape cd_law_tape ct_law_tape), sl_law_tape⟩)
    (c_law_tape : PySem.W.codeIn K cd_law_tape "_law_tape" = true)
    (k_law_tape : PySem.W.keepIn K (.ref f_law_tape) = true)
    (a_law_draw : PySem.W.nsIn K mainGlobals "_law_draw" = some (some (.ref f_law_draw)))
    (l_law_draw : K.lookup f_law_draw = some ⟨oc_law_draw, od_law_draw, .func (PySem.W.fnOf "_law_draw" "_law_draw" (defArgs s_law_draw) (defBody s_law_draw) (defScope s_law_draw) .none kV_law_draw dc_law_draw pm_law_draw an_law_draw cd_law_draw ct_law_draw), sl_law_draw⟩)
    (c_law_draw : PySem.W.codeIn K cd_law_draw "_law_draw" = true)
    (k_law_draw : PySem.W.keepIn K (.ref f_law_draw) = true)
    (a_law_is : PySem.W.nsIn K mainGlobals "_law_is" = some (some (.ref f_law_is)))
    (l_law_is : K.lookup f_law_is = some ⟨oc_law_is, od_law_is, .func (PySem.W.fnOf "_law_is" "_law_is" (defArgs s_law_is) (defBody s_law_is) (defScope s_law_is) .none kV_law_is dc_law_is pm_law_is an_law_is cd_law_is ct_law_is), sl_law_is⟩)
    (c_law_is : PySem.W.codeIn K cd_law_is "_law_is" = true)
    (k_law_is : PySem.W.keepIn K (.ref f_law_is) = true)
    (a_law_play : PySem.W.nsIn K mainGlobals "_law_play" = some (some (.ref f_law_play)))
    (l_law_play : K.lookup f_law_play = some ⟨oc_law_play, od_law_play, .func (PySem.W.fnOf "_law_play" "_law_play" (defArgs s_law_play) (defBody s_law_play) (defScope s_law_play) .none kV_law_play dc_law_play pm_law_play an_law_play cd_law_play ct_law_play), sl_law_play⟩)
    (c_law_play : PySem.W.codeIn K cd_law_play "_law_play" = true)
    (k_law_play : PySem.W.keepIn K (.ref f_law_play) = true)
    (a_law_fault : PySem.W.nsIn K mainGlobals "_law_fault" = some (some (.ref f_law_fault)))
    (l_law_fault : K.lookup f_law_fault = some ⟨oc_law_fault, od_law_fault, .func (PySem.W.fnOf "_law_fault" "_law_fault" (defArgs s_law_fault) (defBody s_law_fault) (defScope s_law_fault) .none kV_law_fault dc_law_fault pm_law_fault an_law_fault cd_law_fault ct_law_fault), sl_law_fault⟩)
    (c_law_fault : PySem.W.codeIn K cd_law_fault "_law_fault" = true)
    (k_law_fault : PySem.W.keepIn K (.ref f_law_fault) = true)
    (a_handler_block : PySem.W.nsIn K mainGlobals "handler_block" = some (some (.ref f_handler_block)))
    (l_handler_block : K.lookup f_handler_block = some ⟨oc_handler_block, od_handler_block, .func (PySem.W.fnOf "handler_block" "handler_block" (defArgs s_handler_block) (defBody s_handler_block) (defScope s_handler_block) .none kV_handler_block dc_handler_block pm_handler_block an_handler_block cd_handler_block ct_handler_block), sl_handler_block⟩)
    (c_handler_block : PySem.W.codeIn K cd_handler_block "handler_block" = true)
    (k_handler_block : PySem.W.keepIn K (.ref f_handler_block) = true)
    (a_word_step : PySem.W.nsIn K mainGlobals "word_step" = some (some (.ref f_word_step)))
    (l_word_step : K.lookup f_word_step = some ⟨oc_word_step, od_word_step, .func (PySem.W.fnOf "word_step" "word_step" (defArgs s_word_step) (defBody s_word_step) (defScope s_word_step) .none kV_word_step dc_word_step pm_word_step an_word_step cd_word_step ct_word_step), sl_word_step⟩)
    (c_word_step : PySem.W.codeIn K cd_word_step "word_step" = true)
    (k_word_step : PySem.W.keepIn K (.ref f_word_step) = true)
    (a_law_cells : PySem.W.nsIn K mainGlobals "_law_cells" = some (some (.ref f_law_cells)))
    (l_law_cells : K.lookup f_law_cells = some ⟨oc_law_cells, od_law_cells, .func (PySem.W.fnOf "_law_cells" "_law_cells" (defArgs s_law_cells) (defBody s_law_cells) (defScope s_law_cells) .none kV_law_cells dc_law_cells pm_law_cells an_law_cells cd_law_cells ct_law_cells), sl_law_cells⟩)
    (c_law_cells : PySem.W.codeIn K cd_law_cells "_law_cells" = true)
    (k_law_cells : PySem.W.keepIn K (.ref f_law_cells) = true)
    (a_law_same : PySem.W.nsIn K mainGlobals "_law_same" = some (some (.ref f_law_same)))
    (l_law_same : K.lookup f_law_same = some ⟨oc_law_same, od_law_same, .func (PySem.W.fnOf "_law_same" "_law_same" (defArgs s_law_same) (defBody s_law_same) (defScope s_law_same) .none kV_law_same dc_law_same pm_law_same an_law_same cd_law_same ct_law_same), sl_law_same⟩)
    (c_law_same : PySem.W.codeIn K cd_law_same "_law_same" = true)
    (k_law_same : PySem.W.keepIn K (.ref f_law_same) = true)
    (a_law_told : PySem.W.nsIn K mainGlobals "_law_told" = some (some (.ref f_law_told)))
    (l_law_told : K.lookup f_law_told = some ⟨oc_law_told, od_law_told, .func (PySem.W.fnOf "_law_told" "_law_told" (defArgs s_law_told) (defBody s_law_told) (defScope s_law_told) .none kV_law_told dc_law_told pm_law_told an_law_told cd_law_told ct_law_told), sl_law_told⟩)
    (c_law_told : PySem.W.codeIn K cd_law_told "_law_told" = true)
    (k_law_told : PySem.W.keepIn K (.ref f_law_told) = true)
    (a_law_few : PySem.W.nsIn K mainGlobals "_law_few" = some (some (.ref f_law_few)))
    (l_law_few : K.lookup f_law_few = some ⟨oc_law_few, od_law_few, .func (PySem.W.fnOf "_law_few" "_law_few" (defArgs s_law_few) (defBody s_law_few) (defScope s_law_few) .none kV_law_few dc_law_few pm_law_few an_law_few cd_law_few ct_law_few), sl_law_few⟩)
    (c_law_few : PySem.W.codeIn K cd_law_few "_law_few" = true)
    (k_law_few : PySem.W.keepIn K (.ref f_law_few) = true)
    (a_law_list : PySem.W.nsIn K mainGlobals "_law_list" = some (some (.ref f_law_list)))
    (l_law_list : K.lookup f_law_list = some ⟨oc_law_list, od_law_list, .func (PySem.W.fnOf "_law_list" "_law_list" (defArgs s_law_list) (defBody s_law_list) (defScope s_law_list) .none kV_law_list dc_law_list pm_law_list an_law_list cd_law_list ct_law_list), sl_law_list⟩)
    (c_law_list : PySem.W.codeIn K cd_law_list "_law_list" = true)
    (k_law_list : PySem.W.keepIn K (.ref f_law_list) = true)
    (a_main_step : PySem.W.nsIn K mainGlobals "main_step" = some (some (.ref f_main_step)))
    (l_main_step : K.lookup f_main_step = some ⟨oc_main_step, od_main_step, .func (PySem.W.fnOf "main_step" "main_step" (defArgs s_main_step) (defBody s_main_step) (defScope s_main_step) .none kV_main_step dc_main_step pm_main_step an_main_step cd_main_step ct_main_step), sl_main_step⟩)
    (c_main_step : PySem.W.codeIn K cd_main_step "main_step" = true)
    (k_main_step : PySem.W.keepIn K (.ref f_main_step) = true)
    (a_law_words : PySem.W.nsIn K mainGlobals "_law_words" = some (some (.ref f_law_words)))
    (l_law_words : K.lookup f_law_words = some ⟨oc_law_words, od_law_words, .func (PySem.W.fnOf "_law_words" "_law_words" (defArgs s_law_words) (defBody s_law_words) (defScope s_law_words) .none kV_law_words dc_law_words pm_law_words an_law_words cd_law_words ct_law_words), sl_law_words⟩)
    (c_law_words : PySem.W.codeIn K cd_law_words "_law_words" = true)
    (k_law_words : PySem.W.keepIn K (.ref f_law_words) = true)
    (a_law_blocks : PySem.W.nsIn K mainGlobals "_law_blocks" = some (some (.ref f_law_blocks)))
    (l_law_blocks : K.lookup f_law_blocks = some ⟨oc_law_blocks, od_law_blocks, .func (PySem.W.fnOf "_law_blocks" "_law_blocks" (defArgs s_law_blocks) (defBody s_law_blocks) (defScope s_law_blocks) .none kV_law_blocks dc_law_blocks pm_law_blocks an_law_blocks cd_law_blocks ct_law_blocks), sl_law_blocks⟩)
    (c_law_blocks : PySem.W.codeIn K cd_law_blocks "_law_blocks" = true)
    (k_law_blocks : PySem.W.keepIn K (.ref f_law_blocks) = true)
    (a_law_right : PySem.W.nsIn K mainGlobals "_law_right" = some (some (.ref f_law_right)))
    (l_law_right : K.lookup f_law_right = some ⟨oc_law_right, od_law_right, .func (PySem.W.fnOf "_law_right" "_law_right" (defArgs s_law_right) (defBody s_law_right) (defScope s_law_right) .none kV_law_right dc_law_right pm_law_right an_law_right cd_law_right ct_law_right), sl_law_right⟩)
    (c_law_right : PySem.W.codeIn K cd_law_right "_law_right" = true)
    (k_law_right : PySem.W.keepIn K (.ref f_law_right) = true)
    (a_ring_played : PySem.W.nsIn K mainGlobals "ring_played" = some (some (.ref f_ring_played)))
    (l_ring_played : K.lookup f_ring_played = some ⟨oc_ring_played, od_ring_played, .func (PySem.W.fnOf "ring_played" "ring_played" (defArgs s_ring_played) (defBody s_ring_played) (defScope s_ring_played) .none kV_ring_played dc_ring_played pm_ring_played an_ring_played cd_ring_played ct_ring_played), sl_ring_played⟩)
    (c_ring_played : PySem.W.codeIn K cd_ring_played "ring_played" = true)
    (k_ring_played : PySem.W.keepIn K (.ref f_ring_played) = true)
    (a_law : PySem.W.nsIn K mainGlobals "law" = some (some (.ref f_law)))
    (l_law : K.lookup f_law = some ⟨oc_law, od_law, .func (PySem.W.fnOf "law" "law" (defArgs s_law) (defBody s_law) (defScope s_law) .none kV_law dc_law pm_law an_law cd_law ct_law), sl_law⟩)
    (c_law : PySem.W.codeIn K cd_law "law" = true)
    (k_law : PySem.W.keepIn K (.ref f_law) = true)
    (z_len : PySem.W.nsIn K mainGlobals "len" = some none)
    (z_range : PySem.W.nsIn K mainGlobals "range" = some none)
    (z_enumerate : PySem.W.nsIn K mainGlobals "enumerate" = some none)
    (z_int : PySem.W.nsIn K mainGlobals "int" = some none)
    (z_isinstance : PySem.W.nsIn K mainGlobals "isinstance" = some none)
    (z_bool : PySem.W.nsIn K mainGlobals "bool" = some none)
    (z_list : PySem.W.nsIn K mainGlobals "list" = some none)
    (z_repr : PySem.W.nsIn K mainGlobals "repr" = some none)
    (pg_RingPlay : PySem.W.plainGet K aRingPlay Str.empty = true)
    (hd_RingPlay : PySem.W.hasDictIn K aRingPlay = true)
    (po_RingPlay : PySem.W.plainOver K aRingPlay = true)
    (sa_RingPlay : PySem.W.findIn K (.ref aRingPlay) "__setattr__" = some (some (.builtin "object.__setattr__")))
    (mk_RingPlay : PySem.W.makesIn K aRingPlay = true)
    (kc_RingPlay : PySem.W.keepIn K (.ref aRingPlay) = true)
    (n_RingPlay_0 : PySem.W.findIn K (.ref aRingPlay) "taken" = some none)
    (n_RingPlay_1 : PySem.W.findIn K (.ref aRingPlay) "p" = some none)
    (n_RingPlay_2 : PySem.W.findIn K (.ref aRingPlay) "q" = some none)
    (n_RingPlay_3 : PySem.W.findIn K (.ref aRingPlay) "at" = some none)
    (n_RingPlay_4 : PySem.W.findIn K (.ref aRingPlay) "slots" = some none)
    (ic_RingPlay : PySem.W.findIn K (.ref aRingPlay) "__class__" = some (some (.builtin "object.__class__")))
    (in_RingPlay : PySem.W.specialIn K (.builtin "object.__class__") "__get__" = some (some (.builtin "getset_descriptor.__get__")))
    (it_RingPlay : PySem.W.takesIn K (.builtin "object.__class__") = some true)
    (im_RingPlay : PySem.W.mroIn K aRingPlay (.type "object") = some true)
    : ∃ fd : FuncData, (∀ (s : Shared) (v : Value), BindsTo s fd ⟨[v], []⟩ [("script", v)]) ∧ ∀ base : Heap, K.In base → base.Ns mainGlobals mg → FnG l.prog w K mg base 5 fa fd ["script"] (spOf K (sp_law 0)) := by
  have e := hfa.symm.trans (PySem.W.mg_of X G a_law)
  cases e
  have cl_RingPlay : Cls K aRingPlay := ⟨pg_RingPlay, hd_RingPlay, po_RingPlay, sa_RingPlay⟩
  have ck_RingPlay : ClsOk K (cRingPlay aRingPlay) := ⟨cl_RingPlay, by intro f hf; simp only [List.mem_cons, List.not_mem_nil, or_false] at hf; rcases hf with rfl | rfl | rfl | rfl | rfl; all_goals first | exact n_RingPlay_0 | exact n_RingPlay_1 | exact n_RingPlay_2 | exact n_RingPlay_3 | exact n_RingPlay_4, by show (["taken", "p", "q", "at", "slots"] : List Str).Nodup; decide +kernel, by show 5 < 1000; decide⟩
  have g : Gx K mg aRingPlay := ⟨PySem.W.mg_none_of X G z_len, PySem.W.mg_none_of X G z_range, PySem.W.mg_none_of X G z_enumerate, PySem.W.mg_none_of X G z_int, PySem.W.mg_none_of X G z_isinstance, PySem.W.mg_none_of X G z_bool, PySem.W.mg_none_of X G z_list, PySem.W.mg_none_of X G z_repr, PySem.W.mg_of X G aC_RingPlay, ck_RingPlay, ⟨cl_RingPlay, ic_RingPlay, in_RingPlay, it_RingPlay, im_RingPlay, if_pos (beq_self_eq_true _)⟩⟩
  have F_RingPlay_init := fun_mk (st := s_RingPlay_init) l_RingPlay_init c_RingPlay_init k_RingPlay_init
  have F_may_put := fun_mk (st := s_may_put) l_may_put c_may_put k_may_put
  have F_may_take := fun_mk (st := s_may_take) l_may_take c_may_take k_may_take
  have F_put_word := fun_mk (st := s_put_word) l_put_word c_put_word k_put_word
  have F_take_word := fun_mk (st := s_take_word) l_take_word c_take_word k_take_word
  have F_ring_fault := fun_mk (st := s_ring_fault) l_ring_fault c_ring_fault k_ring_fault
  have F_wrong_blocks := fun_mk (st := s_wrong_blocks) l_wrong_blocks c_wrong_blocks k_wrong_blocks
  have F_law_tape := fun_mk (st := s_law_tape) l_law_tape c_law_tape k_law_tape
  have F_law_draw := fun_mk (st := s_law_draw) l_law_draw c_law_draw k_law_draw
  have F_law_is := fun_mk (st := s_law_is) l_law_is c_law_is k_law_is
  have F_law_play := fun_mk (st := s_law_play) l_law_play c_law_play k_law_play
  have F_law_fault := fun_mk (st := s_law_fault) l_law_fault c_law_fault k_law_fault
  have F_handler_block := fun_mk (st := s_handler_block) l_handler_block c_handler_block k_handler_block
  have F_word_step := fun_mk (st := s_word_step) l_word_step c_word_step k_word_step
  have F_law_cells := fun_mk (st := s_law_cells) l_law_cells c_law_cells k_law_cells
  have F_law_same := fun_mk (st := s_law_same) l_law_same c_law_same k_law_same
  have F_law_told := fun_mk (st := s_law_told) l_law_told c_law_told k_law_told
  have F_law_few := fun_mk (st := s_law_few) l_law_few c_law_few k_law_few
  have F_law_list := fun_mk (st := s_law_list) l_law_list c_law_list k_law_list
  have F_main_step := fun_mk (st := s_main_step) l_main_step c_main_step k_main_step
  have F_law_words := fun_mk (st := s_law_words) l_law_words c_law_words k_law_words
  have F_law_blocks := fun_mk (st := s_law_blocks) l_law_blocks c_law_blocks k_law_blocks
  have F_law_right := fun_mk (st := s_law_right) l_law_right c_law_right k_law_right
  have F_ring_played := fun_mk (st := s_ring_played) l_ring_played c_ring_played k_ring_played
  have F_law := fun_mk (st := s_law) l_law c_law k_law
  exact ⟨PySem.W.fnOf "law" "law" (defArgs s_law) (defBody s_law) (defScope s_law) .none kV_law dc_law pm_law an_law cd_law ct_law, fun s v => .of_eq rfl, fun base _ _ => ok_all g F_RingPlay_init ⟨mk_RingPlay, a_RingPlay_init, i_RingPlay_init, kc_RingPlay⟩ F_may_put (PySem.W.mg_of X G a_may_put) F_may_take (PySem.W.mg_of X G a_may_take) F_put_word (PySem.W.mg_of X G a_put_word) F_take_word (PySem.W.mg_of X G a_take_word) F_ring_fault (PySem.W.mg_of X G a_ring_fault) F_wrong_blocks (PySem.W.mg_of X G a_wrong_blocks) F_law_tape (PySem.W.mg_of X G a_law_tape) F_law_draw (PySem.W.mg_of X G a_law_draw) F_law_is (PySem.W.mg_of X G a_law_is) F_law_play (PySem.W.mg_of X G a_law_play) F_law_fault (PySem.W.mg_of X G a_law_fault) F_handler_block (PySem.W.mg_of X G a_handler_block) F_word_step (PySem.W.mg_of X G a_word_step) F_law_cells (PySem.W.mg_of X G a_law_cells) F_law_same (PySem.W.mg_of X G a_law_same) F_law_told (PySem.W.mg_of X G a_law_told) F_law_few (PySem.W.mg_of X G a_law_few) F_law_list (PySem.W.mg_of X G a_law_list) F_main_step (PySem.W.mg_of X G a_main_step) F_law_words (PySem.W.mg_of X G a_law_words) F_law_blocks (PySem.W.mg_of X G a_law_blocks) F_law_right (PySem.W.mg_of X G a_law_right) F_ring_played (PySem.W.mg_of X G a_ring_played) F_law⟩
/-- the script, read alone -/
theorem sp_start {K : PySem.W.Frag} {H : Hp} {a : Addr} {ns : List Int} {E : XK} (hl : ns.length ≤ 63) (hS : SqL K H a (ns.map V.int)) : spOf K (sp_law 0) [.ref a] H (fun v _ => v = .bl true) E := by
  refine ⟨H, fun _ => Rg0, [.fz (.rol (ns.map D.int))], fun r _ => r = .fz (.bl true), ⟨fun _ _ h => h, rfl, fun i t h => ?_, fun i j a h => h.elim, fun i a h => h.elim, fun i a h => h.elim, fun i v h => by simp at h⟩, ⟨ns, rfl, hl, rfl⟩, ?_⟩
  · cases i with
    | zero => cases h; exact ⟨_, rfl, .fz (.rol hS (IsDs.of_ints ns))⟩
    | succ i => simp at h
  · rintro r ts' rfl F' H' B' R v s r o
    cases o.is with
    | fz h => cases h; rfl
end Zl
open PySem PySem.W PyProof.Rows
set_option maxRecDepth 100000 in
set_option maxHeartbeats 0 in
theorem PySem.Challenge.cw_betweenanytwosteps_k61_rings_count_first_holds : PySem.Challenge.rw_betweenanytwosteps_k61_rings_count_first.Holds := by
  w_on; o_law; k_head; (case hw => w_witness2)
  k_fill
  refine Zl.walk_ofG (l := PySem.Challenge.rw_betweenanytwosteps_k61_rings_count_first) (n := 63) (k := 5) (x := "script") (sp := fun w => Zl.spOf _ (Zl.sp_law 0)) rfl (by decide) rfl ⟨rfl, by decide, by decide⟩ (fun w h Y => PySem.W.kIn_of Y) ?F (fun _ _ a ns hl hS => Zl.sp_start hl hS)
  case F =>
    intro w mg fa h KX G hmg
    refine' Zl.all_mk KX G hmg ?aC_RingPlay ?a_RingPlay_init ?i_RingPlay_init ?l_RingPlay_init ?c_RingPlay_init ?k_RingPlay_init ?a_may_put ?l_may_put ?c_may_put ?k_may_put ?a_may_take ?l_may_take ?c_may_take ?k_may_take ?a_put_word ?l_put_word ?c_put_word ?k_put_word ?a_take_word ?l_take_word ?c_take_word ?k_take_word ?a_ring_fault ?l_ring_fault ?c_ring_fault ?k_ring_fault ?a_wrong_blocks ?l_wrong_blocks ?c_wrong_blocks ?k_wrong_blocks ?a_law_tape ?l_law_tape ?c_law_tape ?k_law_tape ?a_law_draw ?l_law_draw ?c_law_draw ?k_law_draw ?a_law_is ?l_law_is ?c_law_is ?k_law_is ?a_law_play ?l_law_play ?c_law_play ?k_law_play ?a_law_fault ?l_law_fault ?c_law_fault ?k_law_fault ?a_handler_block ?l_handler_block ?c_handler_block ?k_handler_block ?a_word_step ?l_word_step ?c_word_step ?k_word_step ?a_law_cells ?l_law_cells ?c_law_cells ?k_law_cells ?a_law_same ?l_law_same ?c_law_same ?k_law_same ?a_law_told ?l_law_told ?c_law_told ?k_law_told ?a_law_few ?l_law_few ?c_law_few ?k_law_few ?a_law_list ?l_law_list ?c_law_list ?k_law_list ?a_main_step ?l_main_step ?c_main_step ?k_main_step ?a_law_words ?l_law_words ?c_law_words ?k_law_words ?a_law_blocks ?l_law_blocks ?c_law_blocks ?k_law_blocks ?a_law_right ?l_law_right ?c_law_right ?k_law_right ?a_ring_played ?l_ring_played ?c_ring_played ?k_ring_played ?a_law ?l_law ?c_law ?k_law ?z_len ?z_range ?z_enumerate ?z_int ?z_isinstance ?z_bool ?z_list ?z_repr ?pg_RingPlay ?hd_RingPlay ?po_RingPlay ?sa_RingPlay ?mk_RingPlay ?kc_RingPlay ?n_RingPlay_0 ?n_RingPlay_1 ?n_RingPlay_2 ?n_RingPlay_3 ?n_RingPlay_4 ?ic_RingPlay ?in_RingPlay ?it_RingPlay ?im_RingPlay
    (case aC_RingPlay => k_is); (case a_RingPlay_init => k_is); (case i_RingPlay_init => k_is); (case l_RingPlay_init => k_is); (case c_RingPlay_init => k_is); (case k_RingPlay_init => k_is); (case a_may_put => k_is); (case l_may_put => k_is)
    (case c_may_put => k_is); (case k_may_put => k_is); (case a_may_take => k_is); (case l_may_take => k_is); (case c_may_take => k_is); (case k_may_take => k_is); (case a_put_word => k_is); (case l_put_word => k_is)
    (case c_put_word => k_is); (case k_put_word => k_is); (case a_take_word => k_is); (case l_take_word => k_is); (case c_take_word => k_is); (case k_take_word => k_is); (case a_ring_fault => k_is); (case l_ring_fault => k_is)
    (case c_ring_fault => k_is); (case k_ring_fault => k_is); (case a_wrong_blocks => k_is); (case l_wrong_blocks => k_is); (case c_wrong_blocks => k_is); (case k_wrong_blocks => k_is); (case a_law_tape => k_is); (case l_law_tape => k_is)
    (case c_law_tape => k_is); (case k_law_tape => k_is); (case a_law_draw => k_is); (case l_law_draw => k_is); (case c_law_draw => k_is); (case k_law_draw => k_is); (case a_law_is => k_is); (case l_law_is => k_is)
    (case c_law_is => k_is); (case k_law_is => k_is); (case a_law_play => k_is); (case l_law_play => k_is); (case c_law_play => k_is); (case k_law_play => k_is); (case a_law_fault => k_is); (case l_law_fault => k_is)
    (case c_law_fault => k_is); (case k_law_fault => k_is); (case a_handler_block => k_is); (case l_handler_block => k_is); (case c_handler_block => k_is); (case k_handler_block => k_is); (case a_word_step => k_is); (case l_word_step => k_is)
    (case c_word_step => k_is); (case k_word_step => k_is); (case a_law_cells => k_is); (case l_law_cells => k_is); (case c_law_cells => k_is); (case k_law_cells => k_is); (case a_law_same => k_is); (case l_law_same => k_is)
    (case c_law_same => k_is); (case k_law_same => k_is); (case a_law_told => k_is); (case l_law_told => k_is); (case c_law_told => k_is); (case k_law_told => k_is); (case a_law_few => k_is); (case l_law_few => k_is)
    (case c_law_few => k_is); (case k_law_few => k_is); (case a_law_list => k_is); (case l_law_list => k_is); (case c_law_list => k_is); (case k_law_list => k_is); (case a_main_step => k_is); (case l_main_step => k_is)
    (case c_main_step => k_is); (case k_main_step => k_is); (case a_law_words => k_is); (case l_law_words => k_is); (case c_law_words => k_is); (case k_law_words => k_is); (case a_law_blocks => k_is); (case l_law_blocks => k_is)
    (case c_law_blocks => k_is); (case k_law_blocks => k_is); (case a_law_right => k_is); (case l_law_right => k_is); (case c_law_right => k_is); (case k_law_right => k_is); (case a_ring_played => k_is); (case l_ring_played => k_is)
    (case c_ring_played => k_is); (case k_ring_played => k_is); (case a_law => k_is); (case l_law => k_is); (case c_law => k_is); (case k_law => k_is); (case z_len => k_is); (case z_range => k_is)
    (case z_enumerate => k_is); (case z_int => k_is); (case z_isinstance => k_is); (case z_bool => k_is); (case z_list => k_is); (case z_repr => k_is); (case pg_RingPlay => k_is); (case hd_RingPlay => k_is)
    (case po_RingPlay => k_is); (case sa_RingPlay => k_is); (case mk_RingPlay => k_is); (case kc_RingPlay => k_is); (case n_RingPlay_0 => k_is); (case n_RingPlay_1 => k_is); (case n_RingPlay_2 => k_is); (case n_RingPlay_3 => k_is)
    (case n_RingPlay_4 => k_is); (case ic_RingPlay => k_is); (case in_RingPlay => k_is); (case it_RingPlay => k_is); (case im_RingPlay => k_is)
