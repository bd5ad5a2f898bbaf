import PyProof.Rows.All
import Wide.All
import OpenK.AllK
import Wide.FinOn
import HandS.ForMost
import HandS.IsInst
import HandS.Flow
import HandS.Lambda
import HandS.TupAny
import HandS.Codes
import HandS.Style
import HandS.TupMul
import PyProof.MaxThree
import PyProof.ReprRoads
import PyProof.ReprLen
import PyProof.StrLawsRepr
import PyProof.FitsInt
import HandS.Deep
import HandS.Text
import HandS.Dict
import HandS.Small
import HandS.SetKeys
import HandS.Iter
import KE.KDictKeyed
import HandS.DictComp
import KE.SortData
import HandS.Zip
import HandS.Conv
import HandS.SortKw
import KE.SortKeyHeap
import HandS.EndOwn
import HandS.More
import PySem.Challenge.RW_betweenanytwosteps_k59_orders_of_levels
set_option Elab.async false
set_option linter.all false
set_option maxRecDepth 100000
set_option maxHeartbeats 4000000
/-! The one def of the text that makes a lambda, if there is one. -/
namespace Zl
open PySem PySem.Spec PyProof.Rows L2
/-- where its table stands, and the lambda's name -/
abbrev lamT : Addr := 141
@[irreducible] def lamTab : Option (Addr × Str) := some (lamT, (("by_limits" : Str) ++ (".<locals>." : Str) ++ ("<lambda>" : Str)))
theorem lam_at : lamTab = some (lamT, (("by_limits" : Str) ++ (".<locals>." : Str) ++ ("<lambda>" : Str))) := by unfold lamTab; rfl
theorem lam_only {p : Addr × Str} (h : lamTab = some p) : p = (lamT, (("by_limits" : Str) ++ (".<locals>." : Str) ++ ("<lambda>" : Str))) := by rw [lam_at] at h; exact (Option.some.inj h).symm
end Zl

/-! The Z layer: pure data in place of heaps. -/
namespace Zl
open PySem PySem.Spec PyProof.Rows L2

/-- a class of the text: where it stands, its fields in the order in which __init__ stores them -/
structure Cd where
  C : Addr
  ns : List Str

/-- data that nobody changes any more -/
inductive D where
  | non | bl (b : Bool) | int (i : Int) | str (s : Str)
  | tup (ds : List D) | lst (ds : List D)
  /-- a list that can be read alone: the script, a list of the module -/
  | rol (ds : List D)
  /-- a tuple that can be read alone: a constant of the module -/
  | rot (ds : List D)
  | ins (c : Cd) (ds : List D)
  /-- a dict: its keys ints and texts (b: tuples of these), l: nobody changes it any more, it may be walked -/
  | map (b l : Bool) (ks : List (List Key)) (ds : List D)
  /-- whatever it be -/
  | unk
  /-- a built-in type, a class of the text, as a value -/
  | ty (n : String) | cls (C : Addr)

/-- a dict's object, as it stands -/
def mO (b : Bool) (kvs : List (List Key × V)) : HO := match b with
  | true => .dT kvs
  | false => .dK (kvs.map fun p => (p.1.headD (.inl 0), p.2))
/-- l: locked -/
def lO (l : Bool) (o : Obj) (u : HO) : HO := match l with
  | true => .frz o u
  | false => u
/-- keys as the kind wants them -/
def kO (b : Bool) (ks : List (List Key)) : Prop := ks.Nodup ∧ (b = false → ∀ k ∈ ks, ∃ x, k = [x])
mutual
inductive IsD (K : PySem.W.Frag) (F : Hp) : V → D → Prop
  | non : IsD K F .non .non
  | bl (b : Bool) : IsD K F (.bl b) (.bl b)
  | int (i : Int) : IsD K F (.int i) (.int i)
  | str (s : Str) : IsD K F (.str s) (.str s)
  | ty (n : String) : IsD K F (.ty n) (.ty n)
  | cls (C : Addr) : IsD K F (.ref C) (.cls C)
  | tup {a : Addr} {vs : List V} {ds : List D} : F a = some (.tup vs) → IsDs K F vs ds → IsD K F (.ref a) (.tup ds)
  | lst {a : Addr} {vs : List V} {ds : List D} : F a = some (.lst vs) → IsDs K F vs ds → IsD K F (.ref a) (.lst ds)
  | rol {a : Addr} {vs : List V} {ds : List D} : SqL K F a vs → IsDs K F vs ds → IsD K F (.ref a) (.rol ds)
  | rot {a : Addr} {vs : List V} {ds : List D} : SqT K F a vs → IsDs K F vs ds → IsD K F (.ref a) (.rot ds)
  | ins {a dx : Addr} {c : Cd} {vs : List V} {ds : List D} : F a = some (.ins c.C dx (c.ns.zip vs)) → vs.length ≤ c.ns.length → IsDs K F vs ds → IsD K F (.ref a) (.ins c ds)
  | map {a : Addr} {b l : Bool} {o : Obj} {kvs : List (List Key × V)} {ks : List (List Key)} {ds : List D} : F a = some (lO l o (mO b kvs)) → kvs.map (·.1) = ks → kO b ks → IsDs K F (kvs.map (·.2)) ds → IsD K F (.ref a) (.map b l ks ds)
  | unk {a : Addr} : IsD K F (.ref a) .unk
inductive IsDs (K : PySem.W.Frag) (F : Hp) : List V → List D → Prop
  | nil : IsDs K F [] []
  | cons {v : V} {vs : List V} {d : D} {ds : List D} : IsD K F v d → IsDs K F vs ds → IsDs K F (v :: vs) (d :: ds)
end

theorem Same.sqT {K : PySem.W.Frag} {H H' : Hp} {a : Addr} {xs : List V} (e : Same H H') (h : SqT K H a xs) : SqT K H' a xs := by
  rcases h with (h | ⟨o, h⟩) | h
  · exact .inl (.inl (e _ _ h))
  · exact .inl (.inr ⟨o, e _ _ h⟩)
  · exact .inr h

section
variable {K : PySem.W.Frag} {F F' : Hp}
mutual
theorem IsD.mono (s : Same F F') : ∀ {v : V} {d : D}, IsD K F v d → IsD K F' v d
  | _, _, .non => .non
  | _, _, .bl b => .bl b
  | _, _, .int i => .int i
  | _, _, .str x => .str x
  | _, _, .ty n => .ty n
  | _, _, .cls C => .cls C
  | _, _, .tup h r => .tup (s _ _ h) (IsDs.mono s r)
  | _, _, .lst h r => .lst (s _ _ h) (IsDs.mono s r)
  | _, _, .rol h r => .rol (s.seq h) (IsDs.mono s r)
  | _, _, .rot h r => .rot (Same.sqT s h) (IsDs.mono s r)
  | _, _, .ins h l r => .ins (s _ _ h) l (IsDs.mono s r)
  | _, _, .map h e k r => .map (s _ _ h) e k (IsDs.mono s r)
  | _, _, .unk => .unk
theorem IsDs.mono (s : Same F F') : ∀ {vs : List V} {ds : List D}, IsDs K F vs ds → IsDs K F' vs ds
  | _, _, .nil => .nil
  | _, _, .cons h r => .cons (IsD.mono s h) (IsDs.mono s r)
end
theorem IsDs.length : ∀ {vs : List V} {ds : List D}, IsDs K F vs ds → vs.length = ds.length
  | _, _, .nil => rfl
  | _, _, .cons _ r => by rw [List.length_cons, List.length_cons, IsDs.length r]
theorem IsDs.get : ∀ {vs : List V} {ds : List D} {i : Nat} {d : D}, IsDs K F vs ds → ds[i]? = some d → ∃ v, vs[i]? = some v ∧ IsD K F v d
  | _, _, _, _, .nil, e => by simp at e
  | _, _, 0, _, .cons h _, e => by simp at e; subst e; exact ⟨_, rfl, h⟩
  | _, _, i + 1, d, .cons _ r, e => by
    obtain ⟨v, h1, h2⟩ := IsDs.get (i := i) (d := d) r (by simpa using e)
    exact ⟨v, by simpa using h1, h2⟩
theorem IsDs.getV : ∀ {vs : List V} {ds : List D} {i : Nat} {v : V}, IsDs K F vs ds → vs[i]? = some v → ∃ d, ds[i]? = some d ∧ IsD K F v d
  | _, _, _, _, .nil, e => by simp at e
  | _, _, 0, _, .cons h _, e => by simp at e; subst e; exact ⟨_, rfl, h⟩
  | _, _, i + 1, d, .cons _ r, e => by
    obtain ⟨v, h1, h2⟩ := IsDs.getV (i := i) r (by simpa using e)
    exact ⟨v, by simpa using h1, h2⟩
theorem IsDs.append : ∀ {vs ws : List V} {ds es : List D}, IsDs K F vs ds → IsDs K F ws es → IsDs K F (vs ++ ws) (ds ++ es)
  | _, _, _, _, .nil, r => r
  | _, _, _, _, .cons h t, r => .cons h (IsDs.append t r)
theorem IsDs.take : ∀ {vs : List V} {ds : List D} (n : Nat), IsDs K F vs ds → IsDs K F (vs.take n) (ds.take n)
  | _, _, 0, _ => .nil
  | _, _, _ + 1, .nil => .nil
  | _, _, n + 1, .cons h r => .cons h (IsDs.take n r)
theorem IsDs.drop : ∀ {vs : List V} {ds : List D} (n : Nat), IsDs K F vs ds → IsDs K F (vs.drop n) (ds.drop n)
  | _, _, 0, r => r
  | _, _, _ + 1, .nil => .nil
  | _, _, n + 1, .cons _ r => IsDs.drop n r
theorem IsDs.set : ∀ {vs : List V} {ds : List D} (n : Nat) {v : V} {d : D}, IsDs K F vs ds → IsD K F v d → IsDs K F (vs.set n v) (ds.set n d)
  | _, _, _, _, _, .nil, _ => .nil
  | _, _, 0, _, _, .cons _ r, q => .cons q r
  | _, _, n + 1, _, _, .cons h r, q => .cons h (IsDs.set n r q)
theorem IsDs.dropLast : ∀ {vs : List V} {ds : List D}, IsDs K F vs ds → IsDs K F vs.dropLast ds.dropLast
  | _, _, .nil => .nil
  | _, _, .cons h .nil => .nil
  | _, _, .cons h (.cons h2 r) => by
    show IsDs K F (_ :: List.dropLast (_ :: _)) (_ :: List.dropLast (_ :: _))
    exact .cons h (IsDs.dropLast (.cons h2 r))
theorem IsDs.replicate {v : V} {d : D} (h : IsD K F v d) : ∀ n : Nat, IsDs K F (List.replicate n v) (List.replicate n d)
  | 0 => .nil
  | n + 1 => .cons h (IsDs.replicate h n)
theorem IsDs.reverse : ∀ {vs : List V} {ds : List D}, IsDs K F vs ds → IsDs K F vs.reverse ds.reverse
  | _, _, .nil => .nil
  | _, _, .cons h r => by
    rw [List.reverse_cons, List.reverse_cons]
    exact (IsDs.reverse r).append (.cons h .nil)
theorem IsDs.eraseIdx : ∀ {vs : List V} {ds : List D} (n : Nat), IsDs K F vs ds → IsDs K F (vs.eraseIdx n) (ds.eraseIdx n)
  | _, _, _, .nil => .nil
  | _, _, 0, .cons _ r => r
  | _, _, n + 1, .cons h r => .cons h (IsDs.eraseIdx n r)
theorem IsDs.ints : ∀ {vs : List V} {ns : List Int}, IsDs K F vs (ns.map D.int) → vs = ns.map V.int
  | _, [], .nil => rfl
  | _, n :: ns, .cons (.int _) r => by rw [List.map_cons, IsDs.ints r]
theorem IsDs.of_ints : ∀ (ns : List Int), IsDs K F (ns.map V.int) (ns.map D.int)
  | [] => .nil
  | n :: ns => .cons (.int n) (IsDs.of_ints ns)
end

/-- what a name holds: data, or an object of one's own (nobody else sees it) -/
inductive T where
  | fz (d : D)
  | lst (ds : List D)
  | ins (c : Cd) (ts : List T)
  | map (b : Bool) (ks : List (List Key)) (ts : List T)
  /-- the part that stood here stands elsewhere: the object at a -/
  | hole (a : Addr)
  /-- t, and it is the object at a -/
  | at_ (a : Addr) (t : T)

mutual
def T.fr : T → D
  | .fz d => d
  | .lst ds => .lst ds
  | .ins c ts => .ins c (T.frs ts)
  | .map b ks ts => .map b false ks (T.frs ts)
  | .hole _ => .unk
  | .at_ _ t => t.fr
def T.frs : List T → List D
  | [] => []
  | t :: ts => t.fr :: T.frs ts
end

/-- no table of code objects -/
def NT (o : HO) : Prop := ∀ ps, o ≠ .tbl ps
abbrev Rg := Addr → Prop
abbrev Rg0 : Rg := fun _ => False

mutual
inductive IsT (K : PySem.W.Frag) (F H : Hp) : Rg → V → T → Prop
  | fz {R : Rg} {v : V} {d : D} : IsD K F v d → IsT K F H R v (.fz d)
  | lst {R : Rg} {a : Addr} {vs : List V} {ds : List D} : R a → H a = some (.lst vs) → IsDs K F vs ds → IsT K F H R (.ref a) (.lst ds)
  | ins {R R' : Rg} {a dx : Addr} {c : Cd} {vs : List V} {ts : List T} : R a → H a = some (.ins c.C dx (c.ns.zip vs)) → vs.length ≤ c.ns.length → ¬ R' a → (∀ b, R' b → R b) → IsTs K F H R' vs ts → IsT K F H R (.ref a) (.ins c ts)
  | map {R R' : Rg} {a : Addr} {b : Bool} {kvs : List (List Key × V)} {ks : List (List Key)} {ts : List T} : R a → H a = some (mO b kvs) → kvs.map (·.1) = ks → kO b ks → ¬ R' a → (∀ b, R' b → R b) → IsTs K F H R' (kvs.map (·.2)) ts → IsT K F H R (.ref a) (.map b ks ts)
  | hole {R : Rg} {a : Addr} : IsT K F H R (.ref a) (.hole a)
  | at_ {R : Rg} {a : Addr} {t : T} : IsT K F H R (.ref a) t → IsT K F H R (.ref a) (.at_ a t)
inductive IsTs (K : PySem.W.Frag) (F H : Hp) : Rg → List V → List T → Prop
  | nil {R : Rg} : IsTs K F H R [] []
  | cons {R R1 R2 : Rg} {v : V} {vs : List V} {t : T} {ts : List T} : (∀ b, R1 b → R b) → (∀ b, R2 b → R b) → (∀ b, R1 b → R2 b → False) → IsT K F H R1 v t → IsTs K F H R2 vs ts → IsTs K F H R (v :: vs) (t :: ts)
end

section
variable {K : PySem.W.Frag} {F F' H H' : Hp}
mutual
theorem IsT.monoN (s : Same F F') : ∀ {R R' : Rg} {v : V} {t : T}, (∀ a o, R a → H a = some o → NT o → H' a = some o) → (∀ a, R a → R' a) → IsT K F H R v t → IsT K F' H' R' v t
  | _, _, _, _, _, _, .fz h => .fz (h.mono s)
  | _, _, _, _, k, i, .lst r h q => .lst (i _ r) (k _ _ r h nofun) (q.mono s)
  | _, _, _, _, k, i, .ins r h l n j q => .ins (i _ r) (k _ _ r h nofun) l n (fun b z => i b (j b z)) (IsTs.monoN s (fun a o z => k a o (j a z)) (fun _ z => z) q)
  | _, _, _, _, k, i, .map (b := b) r h e ko n j q => .map (i _ r) (k _ _ r h (by cases b <;> exact nofun)) e ko n (fun b z => i b (j b z)) (IsTs.monoN s (fun a o z => k a o (j a z)) (fun _ z => z) q)
  | _, _, _, _, k, i, .hole => .hole
  | _, _, _, _, k, i, .at_ q => .at_ (IsT.monoN s k i q)
theorem IsTs.monoN (s : Same F F') : ∀ {R R' : Rg} {vs : List V} {ts : List T}, (∀ a o, R a → H a = some o → NT o → H' a = some o) → (∀ a, R a → R' a) → IsTs K F H R vs ts → IsTs K F' H' R' vs ts
  | _, _, _, _, _, _, .nil => .nil
  | _, _, _, _, k, i, .cons j1 j2 d h r => .cons (fun b z => i b (j1 b z)) (fun b z => i b (j2 b z)) d (IsT.monoN s (fun a o z => k a o (j1 a z)) (fun _ z => z) h) (IsTs.monoN s (fun a o z => k a o (j2 a z)) (fun _ z => z) r)
end
mutual
theorem IsT.mono (s : Same F F') : ∀ {R R' : Rg} {v : V} {t : T}, (∀ a o, R a → H a = some o → H' a = some o) → (∀ a, R a → R' a) → IsT K F H R v t → IsT K F' H' R' v t
  | _, _, _, _, _, _, .fz h => .fz (h.mono s)
  | _, _, _, _, k, i, .lst r h q => .lst (i _ r) (k _ _ r h) (q.mono s)
  | _, _, _, _, k, i, .ins r h l n j q => .ins (i _ r) (k _ _ r h) l n (fun b z => i b (j b z)) (IsTs.mono s (fun a o z => k a o (j a z)) (fun _ z => z) q)
  | _, _, _, _, k, i, .map r h e ko n j q => .map (i _ r) (k _ _ r h) e ko n (fun b z => i b (j b z)) (IsTs.mono s (fun a o z => k a o (j a z)) (fun _ z => z) q)
  | _, _, _, _, k, i, .hole => .hole
  | _, _, _, _, k, i, .at_ q => .at_ (IsT.mono s k i q)
theorem IsTs.mono (s : Same F F') : ∀ {R R' : Rg} {vs : List V} {ts : List T}, (∀ a o, R a → H a = some o → H' a = some o) → (∀ a, R a → R' a) → IsTs K F H R vs ts → IsTs K F' H' R' vs ts
  | _, _, _, _, _, _, .nil => .nil
  | _, _, _, _, k, i, .cons j1 j2 d h r => .cons (fun b z => i b (j1 b z)) (fun b z => i b (j2 b z)) d (IsT.mono s (fun a o z => k a o (j1 a z)) (fun _ z => z) h) (IsTs.mono s (fun a o z => k a o (j2 a z)) (fun _ z => z) r)
end
mutual
/-- an object of one's own that is not changed any more -/
theorem IsT.freeze : ∀ {R : Rg} {v : V} {t : T}, Same F F' → (∀ a o, R a → H a = some o → NT o → F' a = some o) → IsT K F H R v t → IsD K F' v t.fr
  | _, _, _, s, _, .fz h => h.mono s
  | _, _, _, s, k, .lst r h q => .lst (k _ _ r h nofun) (q.mono s)
  | _, _, _, s, k, .ins r h l n j q => .ins (k _ _ r h nofun) l (IsTs.freeze s (fun a o z => k a o (j a z)) q)
  | _, _, _, s, k, .map (b := b) r h e ko n j q => .map (l := false) (o := default) (k _ _ r h (by cases b <;> exact nofun)) e ko (IsTs.freeze s (fun a o z => k a o (j a z)) q)
  | _, _, _, s, k, .hole => .unk
  | _, _, _, s, k, @IsT.at_ _ _ _ _ _ t q => (IsT.freeze (t := t) s k q : IsD K F' _ t.fr)
theorem IsTs.freeze : ∀ {R : Rg} {vs : List V} {ts : List T}, Same F F' → (∀ a o, R a → H a = some o → NT o → F' a = some o) → IsTs K F H R vs ts → IsDs K F' vs (T.frs ts)
  | _, _, _, _, _, .nil => .nil
  | _, _, _, s, k, .cons j1 j2 d h r => .cons (IsT.freeze s (fun a o z => k a o (j1 a z)) h) (IsTs.freeze s (fun a o z => k a o (j2 a z)) r)
end
end

/-- what may have happened: F: what is read only, H: all, R: the own region -/
structure Step (F H : Hp) (R : Rg) (F' H' : Hp) (R' : Rg) : Prop where
  le : Same F F'
  keep : ∀ a o, H a = some o → ¬ R a → NT o → H' a = some o
  lv : ∀ a, H a ≠ none → ¬ R a → H' a ≠ none
  fresh : ∀ a, R' a → R a ∨ H a = none
  newF : ∀ a, F' a ≠ none → F a ≠ none ∨ R a ∨ H a = none
section
variable {F H F1 H1 F2 H2 : Hp} {R R1 R2 R' : Rg}
/-- all is kept -/
theorem Step.same (s : Same F F1) (k : Same H H1) (f : ∀ a, R1 a → R a ∨ H a = none) (n : ∀ a, F1 a ≠ none → F a ≠ none ∨ R a ∨ H a = none) : Step F H R F1 H1 R1 := ⟨s, fun a o h _ _ => k a o h, fun a h _ => by
  obtain ⟨o, q⟩ := Option.ne_none_iff_exists'.mp h
  rw [k a o q]; simp, f, n⟩
/-- all outside the region is kept -/
theorem Step.out (s : Same F F1) (k : ∀ a o, H a = some o → ¬ R a → H1 a = some o) (f : ∀ a, R1 a → R a ∨ H a = none) (n : ∀ a, F1 a ≠ none → F a ≠ none ∨ R a ∨ H a = none) : Step F H R F1 H1 R1 := ⟨s, fun a o h r _ => k a o h r, fun a h r => by
  obtain ⟨o, q⟩ := Option.ne_none_iff_exists'.mp h
  rw [k a o q r]; simp, f, n⟩
theorem Step.refl : Step F H R F H R := .same (fun _ _ h => h) (fun _ _ h => h) (fun _ h => .inl h) fun _ h => .inl h
theorem Step.gone (s : Step F H R F1 H1 R1) {a : Addr} (h : H1 a = none) : R a ∨ H a = none := by
  cases q : H a with
  | none => exact .inr rfl
  | some o =>
    by_cases r : R a
    · exact .inl r
    · exact absurd h (s.lv a (by rw [q]; simp) r)
theorem Step.trans (s : Step F H R F1 H1 R1) (t : Step F1 H1 R1 F2 H2 R2) : Step F H R F2 H2 R2 where
  le := fun a o h => t.le a o (s.le a o h)
  keep := fun a o h n nt => t.keep a o (s.keep a o h n nt) (fun r => by
    rcases s.fresh a r with q | q
    · exact n q
    · rw [h] at q; cases q) nt
  lv := fun a h n => t.lv a (s.lv a h n) fun r => by
    rcases s.fresh a r with q | q
    · exact n q
    · exact h q
  fresh := fun a h => by
    rcases t.fresh a h with r | r
    · exact s.fresh a r
    · exact s.gone r
  newF := fun a h => by
    rcases t.newF a h with r | r | r
    · exact s.newF a r
    · exact .inr (s.fresh a r)
    · exact .inr (s.gone r)
theorem Step.less (s : Step F H R F1 H1 R1) (h : ∀ a, R2 a → R1 a) : Step F H R F1 H1 R2 := ⟨s.le, s.keep, s.lv, fun a r => s.fresh a (h a r), s.newF⟩
theorem Step.more (s : Step F H R F1 H1 R1) (h : ∀ a, R a → R2 a) : Step F H R2 F1 H1 R1 :=
  ⟨s.le, fun a o q n => s.keep a o q fun r => n (h a r), fun a q n => s.lv a q fun r => n (h a r), fun a r => (s.fresh a r).imp (h a) id, fun a q => (s.newF a q).imp id (.imp (h a) id)⟩
end

abbrev Ev := List (Option T)
/-- the table of the def that makes a lambda: what it tells is known and bears the lambda's name -/
def TabAt (F H : Hp) (p : Addr × Str) : Prop := F p.1 = none ∧ ∃ ps : Array Value, H p.1 = some (.tbl ps) ∧ TriplesOk ps.toList ∧ ∀ (pos : Pos) (cv : Value), codeAmong pos ps.toList = some cv → ∃ c, cv = .ref c ∧ F c = some (LamX.CodeO c p.2)
/-- all tuples are read alone -/
structure Tq (F H : Hp) : Prop where
  tup : ∀ a xs, H a = some (.tup xs) → F a = some (.tup xs)
  tab : ∀ p, lamTab = some p → TabAt F H p
def U (B : Nat → Rg) : Rg := fun a => ∃ i, B i a
/-- two regions together -/
def Ru (R S : Rg) : Rg := fun a => R a ∨ S a

/-- more is read only -/
theorem Tq.le {F F' H : Hp} (t : Tq F H) (s : Same F F') (n : ∀ a, (∃ ps, H a = some (.tbl ps)) → F a = none → F' a = none) : Tq F' H := ⟨fun a xs h => s _ _ (t.tup a xs h), fun p e => by
  obtain ⟨nf, ps, h1, h2, h3⟩ := t.tab p e
  exact ⟨n _ ⟨ps, h1⟩ nf, ps, h1, h2, fun pos cv h => let ⟨c, q, f⟩ := h3 pos cv h; ⟨c, q, s _ _ f⟩⟩⟩
/-- other things stand in the heap -/
theorem Tq.re {F H H' : Hp} (t : Tq F H) (h1 : ∀ a xs, H' a = some (.tup xs) → H a = some (.tup xs)) (h2 : ∀ a ps, H a = some (.tbl ps) → H' a = some (.tbl ps)) : Tq F H' := ⟨fun a xs h => t.tup a xs (h1 a xs h), fun p e => by
  obtain ⟨nf, ps, g1, g2, g3⟩ := t.tab p e
  exact ⟨nf, ps, h2 _ _ g1, g2, g3⟩⟩
theorem Tq.upd {F H : Hp} {a : Addr} {o : HO} (t : Tq F H) (hn : ∀ ps, H a ≠ some (.tbl ps)) (ht : ∀ xs, o ≠ .tup xs := by intro _ z; cases z) : Tq F (upd H a o) := t.re (fun b xs h => by
  by_cases z : b = a
  · subst z; rw [upd_same] at h; exact absurd (Option.some.inj h) (ht xs)
  · rwa [upd_ne z] at h) fun b ps h => by
  have z : b ≠ a := fun z => hn ps (by rw [← z]; exact h)
  rw [upd_ne z]; exact h
/-- the frame's names hold the data env; pv: the arguments that stay in their slots -/
structure Rel (K : PySem.W.Frag) (pv : List (Option V)) (F H : Hp) (σ : L2.St) (env : Ev) (B : Nat → Rg) : Prop where
  sub : Same F H
  len : σ.length = env.length
  at_ : ∀ (i : Nat) (t : T), env[i]? = some (some t) → ∃ v, σ[i]? = some (some v) ∧ IsT K F H (B i) v t
  dis : ∀ i j a, B i a → B j a → i = j
  off : ∀ i a, B i a → F a = none
  live : ∀ i a, B i a → H a ≠ none
  fix : ∀ (i : Nat) (v : V), pv[i]? = some (some v) → σ[i]? = some (some v)
  tp : Tq F H

/-- a value of its own beside the frame's -/
structure OwnV (K : PySem.W.Frag) (F H : Hp) (B : Nat → Rg) (R : Rg) (v : V) (t : T) : Prop where
  is : IsT K F H R v t
  dis : ∀ i a, R a → B i a → False
  off : ∀ a, R a → F a = none
  live : ∀ a, R a → H a ≠ none

/-- new objects alone -/
structure Alloc (F H F' H' : Hp) (R : Rg) : Prop where
  le : Same F F'
  kp : Same H H'
  sub : Same F' H'
  newF : ∀ a, F' a ≠ none → F a ≠ none ∨ H a = none
  new : ∀ a, R a → H a = none
  off : ∀ a, R a → F' a = none
  live : ∀ a, R a → H' a ≠ none
  tp : Tq F H → Tq F' H'

section
variable {K : PySem.W.Frag} {pv : List (Option V)} {F H F' H' : Hp} {σ : L2.St} {env : Ev} {B B' : Nat → Rg} {R R' : Rg} {v : V} {t : T} {d : D}
theorem Alloc.refl (s : Same F H) : Alloc F H F H Rg0 := ⟨fun _ _ h => h, fun _ _ h => h, s, fun _ h => .inl h, fun _ h => h.elim, fun _ h => h.elim, fun _ h => h.elim, id⟩
theorem Rel.none_of (r : Rel K pv F H σ env B) {a : Addr} (h : H a = none) : F a = none := by
  cases q : F a with
  | none => rfl
  | some o => rw [r.sub a o q] at h; cases h
theorem Rel.alloc (r : Rel K pv F H σ env B) (a : Alloc F H F' H' R) : Rel K pv F' H' σ env B ∧ Step F H (U B) F' H' (Ru (U B) R) ∧ (∀ i b, R b → B i b → False) := by
  refine ⟨⟨a.sub, r.len, fun i t e => ?_, r.dis, fun i b hb => ?_, fun i b hb => ?_, r.fix, a.tp r.tp⟩, .same a.le a.kp (fun b h => h.imp id (a.new b)) fun b h => (a.newF b h).imp id .inr, fun i b h1 h2 => r.live i b h2 (a.new b h1)⟩
  · obtain ⟨v, e1, e2⟩ := r.at_ i t e
    exact ⟨v, e1, e2.mono a.le (fun b o _ h => a.kp b o h) fun _ z => z⟩
  · cases q : F' b with
    | none => rfl
    | some o =>
      rcases a.newF b (by rw [q]; simp) with z | z
      · exact absurd (r.off i b hb) z
      · exact absurd z (r.live i b hb)
  · cases q : H b with
    | none => exact absurd q (r.live i b hb)
    | some o => rw [a.kp b o q]; simp
/-- a new value beside the frame -/
theorem Rel.own (r : Rel K pv F H σ env B) (a : Alloc F H F' H' R) (h : IsT K F' H' R v t) : OwnV K F' H' B R v t :=
  ⟨h, (r.alloc a).2.2, a.off, a.live⟩
/-- frozen data beside the frame -/
theorem OwnV.fz (h : IsD K F v d) : OwnV K F H B Rg0 v (.fz d) := ⟨.fz h, fun _ _ z => z.elim, fun _ z => z.elim, fun _ z => z.elim⟩
/-- freeze a value beside the frame -/
theorem Rel.freezeV (r : Rel K pv F H σ env B) (o : OwnV K F H B R v t) : ∃ F', Rel K pv F' H σ env B ∧ Step F H (Ru (U B) R) F' H (U B) ∧ IsD K F' v t.fr := by
  classical
  have off_ : ∀ {a : Addr}, ¬ (R a ∧ ∀ ps, H a ≠ some (.tbl ps)) → (if R a ∧ ∀ ps, H a ≠ some (.tbl ps) then H a else F a) = F a := fun z => if_neg z
  have hl : Same F (fun a => if R a ∧ ∀ ps, H a ≠ some (.tbl ps) then H a else F a) := fun a x h => (off_ fun z => by rw [o.off a z.1] at h; cases h).trans h
  refine ⟨fun a => if R a ∧ ∀ ps, H a ≠ some (.tbl ps) then H a else F a, ⟨fun a x h => ?_, r.len, fun i t e => ?_, r.dis, fun i a hb => ?_, r.live, r.fix, r.tp.le hl fun a ⟨ps, e⟩ n => (off_ fun z => z.2 ps e).trans n⟩, .same hl (Same.refl _) (fun a h => .inl (.inl h)) fun a h => ?_, ?_⟩
  · replace h : (if R a ∧ ∀ ps, H a ≠ some (.tbl ps) then H a else F a) = some x := h
    by_cases z : R a ∧ ∀ ps, H a ≠ some (.tbl ps)
    · rw [if_pos z] at h; exact h
    · rw [if_neg z] at h; exact r.sub a x h
  · obtain ⟨v, e1, e2⟩ := r.at_ i t e
    exact ⟨v, e1, e2.mono hl (fun b o _ h => h) fun _ z => z⟩
  · exact (off_ fun z => o.dis i a z.1 hb).trans (r.off i a hb)
  · by_cases z : R a
    · exact .inr (.inl (.inr z))
    · refine .inl ?_
      have h2 : (if R a ∧ ∀ ps, H a ≠ some (.tbl ps) then H a else F a) ≠ none := h
      rwa [if_neg fun y => z y.1] at h2
  · exact o.is.freeze hl fun a x z e nt => (if_pos (⟨z, fun ps q => nt ps (Option.some.inj (e.symm.trans q))⟩ : R a ∧ ∀ ps, H a ≠ some (.tbl ps))).trans e
end
end Zl

namespace Zl
open PySem PySem.Spec PyProof.Rows L2

/-! ### names -/
def gt : Ev → Nat → Option T
  | [], _ => none
  | o :: _, 0 => o
  | _ :: r, n + 1 => gt r n
def st : Ev → Nat → T → Ev
  | [], _, _ => []
  | _ :: r, 0, t => some t :: r
  | o :: r, n + 1, t => o :: st r n t
def cl : Ev → Nat → Ev
  | [], _ => []
  | _ :: r, 0 => none :: r
  | o :: r, n + 1 => o :: cl r n
theorem gt_some : ∀ {env : Ev} {i : Nat} {t : T}, gt env i = some t → env[i]? = some (some t)
  | _ :: _, 0, _, h => by simpa [gt] using h
  | _ :: r, n + 1, _, h => by simpa using gt_some (env := r) (i := n) h
theorem st_eq : ∀ (env : Ev) (i : Nat) (t : T), st env i t = env.set i (some t)
  | [], _, _ => rfl
  | _ :: _, 0, _ => rfl
  | o :: r, n + 1, t => by show o :: st r n t = _; rw [st_eq r n t]; rfl
theorem cl_eq : ∀ (env : Ev) (i : Nat), cl env i = env.set i none
  | [], _ => rfl
  | _ :: _, 0 => rfl
  | o :: r, n + 1 => by show o :: cl r n = _; rw [cl_eq r n]; rfl

/-! ### arguments: data, or the name where it lies -/
abbrev It2 := D ⊕ Nat
inductive ItemOk (K : PySem.W.Frag) (F : Hp) (σ : L2.St) : V → It2 → Prop
  | d {v : V} {d : D} : IsD K F v d → ItemOk K F σ v (.inl d)
  | s {v : V} {j : Nat} : σ[j]? = some (some v) → ItemOk K F σ v (.inr j)
inductive ItemsOk (K : PySem.W.Frag) (F : Hp) (σ : L2.St) : List V → List It2 → Prop
  | nil : ItemsOk K F σ [] []
  | cons {v : V} {vs : List V} {a : It2} {as : List It2} : ItemOk K F σ v a → ItemsOk K F σ vs as → ItemsOk K F σ (v :: vs) (a :: as)
theorem ItemOk.mono {K : PySem.W.Frag} {F F' : Hp} {σ : L2.St} {v : V} {a : It2} (s : Same F F') : ItemOk K F σ v a → ItemOk K F' σ v a
  | .d h => .d (h.mono s)
  | .s h => .s h
theorem ItemsOk.mono {K : PySem.W.Frag} {F F' : Hp} {σ : L2.St} (s : Same F F') : ∀ {vs : List V} {as : List It2}, ItemsOk K F σ vs as → ItemsOk K F' σ vs as
  | _, _, .nil => .nil
  | _, _, .cons h r => .cons (h.mono s) (r.mono s)
/-- the data that an item is now -/
def rs (env : Ev) : It2 → Option D
  | .inl d => some d
  | .inr j => match gt env j with
    | some t => some t.fr
    | none => none
def rss (env : Ev) : List It2 → Option (List D)
  | [] => some []
  | a :: as => match rs env a with
    | some d => match rss env as with
      | some ds => some (d :: ds)
      | none => none
    | none => none
mutual
/-- data as it stands now -/
inductive Pk (K : PySem.W.Frag) (F H : Hp) : V → D → Prop
  | d {v : V} {d : D} : IsD K F v d → Pk K F H v d
  | lst {a : Addr} {vs : List V} {ds : List D} : H a = some (.lst vs) → IsDs K F vs ds → Pk K F H (.ref a) (.lst ds)
  | ins {a dx : Addr} {c : Cd} {vs : List V} {ds : List D} : H a = some (.ins c.C dx (c.ns.zip vs)) → vs.length ≤ c.ns.length → Pk K F H (.ref a) (.ins c ds)
  | map {a : Addr} {b : Bool} {kvs : List (List Key × V)} {ks : List (List Key)} {ds : List D} : H a = some (mO b kvs) → kvs.map (·.1) = ks → kO b ks → Pks K F H (kvs.map (·.2)) ds → Pk K F H (.ref a) (.map b false ks ds)
  | unk {a : Addr} : Pk K F H (.ref a) .unk
inductive Pks (K : PySem.W.Frag) (F H : Hp) : List V → List D → Prop
  | nil : Pks K F H [] []
  | cons {v : V} {vs : List V} {d : D} {ds : List D} : Pk K F H v d → Pks K F H vs ds → Pks K F H (v :: vs) (d :: ds)
end
section
variable {K : PySem.W.Frag} {F H : Hp}
mutual
theorem Pk.of : ∀ {R : Rg} {v : V} {t : T}, IsT K F H R v t → Pk K F H v t.fr
  | _, _, _, .fz h => .d h
  | _, _, _, .lst _ h q => .lst h q
  | _, _, _, .ins _ h l _ _ q => .ins h l
  | _, _, _, .map _ h e ko _ _ q => .map h e ko (Pks.of q)
  | _, _, _, .hole => .unk
  | _, _, _, @IsT.at_ _ _ _ _ _ t q => (Pk.of (t := t) q : Pk K F H _ t.fr)
theorem Pks.of : ∀ {R : Rg} {vs : List V} {ts : List T}, IsTs K F H R vs ts → Pks K F H vs (T.frs ts)
  | _, _, _, .nil => .nil
  | _, _, _, .cons _ _ _ h r => .cons (Pk.of h) (Pks.of r)
end
theorem Pks.ofDs : ∀ {vs : List V} {ds : List D}, IsDs K F vs ds → Pks K F H vs ds
  | _, _, .nil => .nil
  | _, _, .cons h r => .cons (.d h) (Pks.ofDs r)
end
section
variable {K : PySem.W.Frag} {pv : List (Option V)} {F H : Hp} {σ : L2.St} {env : Ev} {B : Nat → Rg} {R : Rg} {v : V} {t : T} {d : D}
theorem Rel.pk (r : Rel K pv F H σ env B) {a : It2} (h : ItemOk K F σ v a) (e : rs env a = some d) : Pk K F H v d := by
  cases h with
  | d h => cases e; exact .d h
  | @s j h =>
    have e' : (match gt env j with | some t => some t.fr | none => none) = some d := e
    cases q : gt env j with
    | none => rw [q] at e'; cases e'
    | some t =>
      rw [q] at e'; cases e'
      obtain ⟨u, e1, e2⟩ := r.at_ j t (gt_some q)
      rw [h] at e1; cases e1
      exact .of e2
theorem Rel.pks (r : Rel K pv F H σ env B) : ∀ {vs : List V} {as : List It2} {ds : List D}, ItemsOk K F σ vs as → rss env as = some ds → Pks K F H vs ds
  | _, _, _, .nil, e => by cases e; exact .nil
  | _, _, _, @ItemsOk.cons _ _ _ _ _ a as h hr, e => by
    have e' : (match rs env a with | some d => (match rss env as with | some ds => some (d :: ds) | none => none) | none => none) = some _ := e
    cases q : rs env a with
    | none => rw [q] at e'; cases e'
    | some d =>
      rw [q] at e'
      cases q2 : rss env as with
      | none => simp only [q2] at e'; cases e'
      | some ds => simp only [q2] at e'; cases e'; exact .cons (r.pk h q) (r.pks hr q2)
theorem Pk.int {i : Int} : Pk K F H v (.int i) → v = .int i
  | .d (.int _) => rfl
theorem Pk.bl {i : Bool} : Pk K F H v (.bl i) → v = .bl i
  | .d (.bl _) => rfl
theorem Pk.str {i : Str} : Pk K F H v (.str i) → v = .str i
  | .d (.str _) => rfl
theorem Pk.non : Pk K F H v .non → v = .non
  | .d .non => rfl
theorem Pk.lst1 (s : Same F H) {ds : List D} : Pk K F H v (.lst ds) → ∃ a vs, v = .ref a ∧ H a = some (.lst vs) ∧ IsDs K F vs ds
  | .d (.lst h r) => ⟨_, _, rfl, s _ _ h, r⟩
  | .lst h r => ⟨_, _, rfl, h, r⟩
theorem Pk.rot1 (s : Same F H) {ds : List D} : Pk K F H v (.rot ds) → ∃ a vs, v = .ref a ∧ SqT K H a vs ∧ IsDs K F vs ds
  | .d (.rot h r) => ⟨_, _, rfl, Same.sqT s h, r⟩
theorem Pk.rol1 (s : Same F H) {ds : List D} : Pk K F H v (.rol ds) → ∃ a vs, v = .ref a ∧ SqL K H a vs ∧ IsDs K F vs ds
  | .d (.rol h r) => ⟨_, _, rfl, s.seq h, r⟩
theorem Pk.tup1 (s : Same F H) {ds : List D} : Pk K F H v (.tup ds) → ∃ a vs, v = .ref a ∧ SqT K H a vs ∧ IsDs K F vs ds
  | .d (.tup h r) => ⟨_, _, rfl, .of (s _ _ h), r⟩
end

/-! ### readings over data -/
abbrev WE := Ev → (T → Ev → Prop) → Prop
abbrev WO := Ev → (It2 → Ev → Prop) → Prop
abbrev WA := Ev → (List It2 → Ev → Prop) → Prop
abbrev WT := Ev → (Bool → Ev → Prop) → Prop
/-- the arguments that stay in their slots are those of the mask -/
def Mask (pm : List Bool) (pv : List (Option V)) : Prop := ∀ (i : Nat), pm[i]? = some true ↔ ∃ v, pv[i]? = some (some v)

def TZ (X : Cx) (pm : List Bool) (w : WE) : TE := fun σ H Q => ∃ pv F B env P, Mask pm pv ∧ Rel X.K pv F H σ env B ∧ w env P ∧
  ∀ t env', P t env' → ∀ F' H' B' R v, Step F H (U B) F' H' (Ru (U B') R) → Rel X.K pv F' H' σ env' B' → OwnV X.K F' H' B' R v t → Q v H'
def TOz (X : Cx) (pm : List Bool) (w : WO) : TE := fun σ H Q => ∃ pv F B env P, Mask pm pv ∧ Rel X.K pv F H σ env B ∧ w env P ∧
  ∀ a env', P a env' → ∀ F' H' B' v, Step F H (U B) F' H' (U B') → Rel X.K pv F' H' σ env' B' → ItemOk X.K F' σ v a → Q v H'
def TAz (X : Cx) (pm : List Bool) (w : WA) : TA := fun σ H Q => ∃ pv F B env P, Mask pm pv ∧ Rel X.K pv F H σ env B ∧ w env P ∧
  ∀ as env', P as env' → ∀ F' H' B' vs, Step F H (U B) F' H' (U B') → Rel X.K pv F' H' σ env' B' → ItemsOk X.K F' σ vs as → Q vs H'
def TTz (X : Cx) (pm : List Bool) (w : WT) : TT := fun σ H Q => ∃ pv F B env P, Mask pm pv ∧ Rel X.K pv F H σ env B ∧ w env P ∧
  ∀ b env', P b env' → ∀ F' H' B', Step F H (U B) F' H' (U B') → Rel X.K pv F' H' σ env' B' → Q b H'
abbrev ZE (X : Cx) (pm : List Bool) (e : Expr) (w : WE) : Prop := PE X e (TZ X pm w)
abbrev ZO (X : Cx) (pm : List Bool) (e : Expr) (w : WO) : Prop := PE X e (TOz X pm w)
abbrev ZA (X : Cx) (pm : List Bool) (es : List Expr) (w : WA) : Prop := PA X es (TAz X pm w)
abbrev ZT (X : Cx) (pm : List Bool) (e : Expr) (w : WT) : Prop := PT X e (TTz X pm w)
section
variable {X : Cx} {e : Expr} {es : List Expr}
theorem pe_imp {t t' : TE} (h : PE X e t) (i : ∀ σ H Q, t' σ H Q → t σ H Q) : PE X e t' := ⟨fun p s σ H Q I q => h.run p s σ H Q I (i _ _ _ q)⟩
theorem pt_imp {t t' : TT} (h : PT X e t) (i : ∀ σ H Q, t' σ H Q → t σ H Q) : PT X e t' := ⟨fun p s σ H Q I q => h.run p s σ H Q I (i _ _ _ q)⟩
theorem pw_imp {t t' : TT} (h : PW X e t) (i : ∀ σ H Q, t' σ H Q → t σ H Q) : PW X e t' := ⟨fun wh p s σ H Q I q => h.run wh p s σ H Q I (i _ _ _ q)⟩
theorem pa_imp {t t' : TA} (h : PA X es t) (i : ∀ σ H Q, t' σ H Q → t σ H Q) : PA X es t' := ⟨fun po p s σ H Q I q => h.run po p s σ H Q I (i _ _ _ q)⟩
end

section
variable {K : PySem.W.Frag} {pv : List (Option V)} {F H F1 H1 : Hp} {σ : L2.St} {env env1 : Ev} {B B1 : Nat → Rg} {R R1 : Rg}
theorem U_l : ∀ a, U B a → Ru (U B) R a := fun _ h => .inl h
theorem Step.l (s : Step F H R F1 H1 (Ru (U B1) R1)) : Step F H R F1 H1 (U B1) := s.less U_l
theorem Step.r0 (s : Step F H R F1 H1 (U B1)) : Step F H R F1 H1 (Ru (U B1) Rg0) := s.less fun _ h => h.elim id False.elim
end

/-! ### operands -/
/-- a value, frozen -/
def oV (w : WE) : WO := fun env P => w env fun t e => P (.inl t.fr) e
/-- a name where it lies -/
def oS (i : Nat) : WO := fun env P => match gt env i with
  | some _ => P (.inr i) env
  | none => False
def aNil : WA := fun env P => P [] env
def aCons (o : WO) (r : WA) : WA := fun env P => o env fun a e1 => r e1 fun as e2 => P (a :: as) e2
section
variable {X : Cx} {pm : List Bool} {e : Expr} {es : List Expr} {w : WE} {o : WO} {wr : WA} {i : Nat} {x : Str} {pos : Pos}
theorem zo_v (h : ZE X pm e w) : ZO X pm e (oV w) := pe_imp h fun σ H Q ⟨pv, F, B, env, P, m, rel, hw, hq⟩ =>
  ⟨pv, F, B, env, fun t e => P (.inl t.fr) e, m, rel, hw, fun t e1 h1 F1 H1 B1 R1 v s1 r1 o1 => by
    obtain ⟨F2, r2, s2, d2⟩ := r1.freezeV o1
    exact hq _ _ h1 F2 H1 B1 v (s1.trans s2) r2 (.d d2)⟩
theorem zo_s (i : Nat) {x : Str} {pos : Pos} (hN : X.N[i]? = some x := by rfl) (hv : Vis X.env.scope x := by first | exact Or.inl rfl | exact Or.inr (Or.inl rfl) | exact Or.inr (Or.inr rfl)) (hd : (x == ("__debug__" : Str)) = false := by decide)
    (hcd : (x == ("__classdict__" : Str)) = false := by decide) : ZO X pm (.Name x pos) (oS i) := pe_imp (pe_var hN hv hd hcd) fun σ H Q ⟨pv, F, B, env, P, m, rel, hw, hq⟩ => by
  have hw' : (match gt env i with | some _ => P (.inr i) env | none => False) := hw
  cases g : gt env i with
  | none => rw [g] at hw'; exact hw'.elim
  | some t =>
    rw [g] at hw'
    obtain ⟨v, e1, e2⟩ := rel.at_ i t (gt_some g)
    exact ⟨v, e1, hq _ _ hw' F H B v .refl rel (.s e1)⟩
theorem za_nil : ZA X pm [] aNil := pa_imp pa_nil fun σ H Q ⟨pv, F, B, env, P, m, rel, hw, hq⟩ => hq _ _ hw F H B [] .refl rel .nil
theorem za_cons (h : ZO X pm e o) (hr : ZA X pm es wr) (hs : starEach (e :: es) X.env = (false, eval e X.env) :: starEach es X.env := by rfl) : ZA X pm (e :: es) (aCons o wr) :=
  pa_imp (pa_cons h hr hs) fun σ H Q ⟨pv, F, B, env, P, m, rel, hw, hq⟩ =>
    ⟨pv, F, B, env, _, m, rel, hw, fun a e1 h1 F1 H1 B1 v s1 r1 i1 => ⟨pv, F1, B1, e1, _, m, r1, h1, fun as e2 h2 F2 H2 B2 vs s2 r2 i2 =>
      hq _ _ h2 F2 H2 B2 _ (s1.trans s2) r2 (.cons (i1.mono s2.le) i2)⟩⟩
end

/-! ### operators by values -/
/-- a pure operator: g tells, over data, what comes out -/
structure Op2 (K : PySem.W.Frag) (r : R2) (g : D → D → (T → Prop) → Prop) : Prop where
  run : ∀ (F H : Hp) (v u : V) (x y : D) (P : T → Prop) (Q : VK), Same F H → Pk K F H v x → Pk K F H u y → g x y P →
    (∀ (z : T) (w' : V) (F' H' : Hp) (R : Rg), P z → Alloc F H F' H' R → IsT K F' H' R w' z → Q w' H') → r v u H Q
structure OpN (K : PySem.W.Frag) (r : List V → Hp → VK → Prop) (g : List D → (T → Prop) → Prop) : Prop where
  run : ∀ (F H : Hp) (vs : List V) (ds : List D) (P : T → Prop) (Q : VK), Same F H → Pks K F H vs ds → g ds P →
    (∀ (z : T) (w' : V) (F' H' : Hp) (R : Rg), P z → Alloc F H F' H' R → IsT K F' H' R w' z → Q w' H') → r vs H Q
structure Op1 (K : PySem.W.Frag) (r : V → Hp → VK → Prop) (g : D → (T → Prop) → Prop) : Prop where
  run : ∀ (F H : Hp) (v : V) (x : D) (P : T → Prop) (Q : VK), Same F H → Pk K F H v x → g x P →
    (∀ (z : T) (w' : V) (F' H' : Hp) (R : Rg), P z → Alloc F H F' H' R → IsT K F' H' R w' z → Q w' H') → r v H Q
def wOp2 (g : D → D → (T → Prop) → Prop) (oa ob : WO) : WE := fun env P => oa env fun a e1 => ob e1 fun b e2 => match rs e2 a, rs e2 b with
  | some x, some y => g x y fun z => P z e2
  | _, _ => False
def wOp1 (g : D → (T → Prop) → Prop) (oa : WO) : WE := fun env P => oa env fun a e1 => match rs e1 a with
  | some x => g x fun z => P z e1
  | _ => False
def wOpN (g : List D → (T → Prop) → Prop) (wa : WA) : WE := fun env P => wa env fun as e1 => match rss e1 as with
  | some ds => g ds fun z => P z e1
  | none => False
section
variable {X : Cx} {pm : List Bool} {a b e : Expr} {oa ob : WO} {wa : WA} {pos : Pos}
theorem tz_op2 {r : R2} {g} (O : Op2 X.K r g) {σ H Q} : TZ X pm (wOp2 g oa ob) σ H Q → tOp r (TOz X pm oa) (TOz X pm ob) σ H Q := fun ⟨pv, F, B, env, P, m, rel, hw, hq⟩ => by
  refine ⟨pv, F, B, env, _, m, rel, hw, fun a e1 h1 F1 H1 B1 v s1 r1 i1 => ⟨pv, F1, B1, e1, _, m, r1, h1, fun b e2 h2 F2 H2 B2 u s2 r2 i2 => ?_⟩⟩
  have h2' : (match rs e2 a, rs e2 b with | some x, some y => g x y fun z => P z e2 | _, _ => False) := h2
  cases qa : rs e2 a with
  | none => rw [qa] at h2'; exact h2'.elim
  | some x =>
    cases qb : rs e2 b with
    | none => rw [qa, qb] at h2'; exact h2'.elim
    | some y =>
      rw [qa, qb] at h2'
      refine O.run F2 H2 v u x y _ _ r2.sub (r2.pk (i1.mono s2.le) qa) (r2.pk i2 qb) h2' fun z w' F3 H3 R3 hz al it => ?_
      obtain ⟨r3, s3, d3⟩ := r2.alloc al
      exact hq z e2 hz F3 H3 B2 R3 w' ((s1.trans s2).trans s3) r3 (r2.own al it)
theorem tz_op1 {r : V → Hp → VK → Prop} {g} (O : Op1 X.K r g) {σ H Q} : TZ X pm (wOp1 g oa) σ H Q → tUn r (TOz X pm oa) σ H Q := fun ⟨pv, F, B, env, P, m, rel, hw, hq⟩ => by
  refine ⟨pv, F, B, env, _, m, rel, hw, fun a e1 h1 F1 H1 B1 v s1 r1 i1 => ?_⟩
  have h1' : (match rs e1 a with | some x => g x fun z => P z e1 | _ => False) := h1
  cases qa : rs e1 a with
  | none => rw [qa] at h1'; exact h1'.elim
  | some x =>
    rw [qa] at h1'
    refine O.run F1 H1 v x _ _ r1.sub (r1.pk i1 qa) h1' fun z w' F3 H3 R3 hz al it => ?_
    obtain ⟨r3, s3, d3⟩ := r1.alloc al
    exact hq z e1 hz F3 H3 B1 R3 w' (s1.trans s3) r3 (r1.own al it)
theorem tz_opN {r : List V → Hp → VK → Prop} {g} (O : OpN X.K r g) {σ H Q} : TZ X pm (wOpN g wa) σ H Q → tCB r (TAz X pm wa) σ H Q := fun ⟨pv, F, B, env, P, m, rel, hw, hq⟩ => by
  refine ⟨pv, F, B, env, _, m, rel, hw, fun as e1 h1 F1 H1 B1 vs s1 r1 i1 => ?_⟩
  have h1' : (match rss e1 as with | some ds => g ds fun z => P z e1 | none => False) := h1
  cases qa : rss e1 as with
  | none => rw [qa] at h1'; exact h1'.elim
  | some ds =>
    rw [qa] at h1'
    refine O.run F1 H1 vs ds _ _ r1.sub (r1.pks i1 qa) h1' fun z w' F3 H3 R3 hz al it => ?_
    obtain ⟨r3, s3, d3⟩ := r1.alloc al
    exact hq z e1 hz F3 H3 B1 R3 w' (s1.trans s3) r3 (r1.own al it)
theorem ze_op2 {op : Operator} {r : R2} {g} (hr : OpR X (binaryOp op) r) (O : Op2 X.K r g) (ha : ZO X pm a oa) (hb : ZO X pm b ob) : ZE X pm (.BinOp a op b pos) (wOp2 g oa ob) := pe_imp (pe_op hr ha hb) fun _ _ _ => tz_op2 O
theorem ze_un {op : UnaryOp} {r : V → Hp → VK → Prop} {g} (hr : UnR X (unaryOp op) r) (O : Op1 X.K r g) (ha : ZO X pm a oa) : ZE X pm (.UnaryOp op a pos) (wOp1 g oa) := pe_imp (pe_un hr ha) fun _ _ _ => tz_op1 O
theorem ze_cmp {op : CmpOp} {r : R2} {g} (hr : OpR X (compareOp op) r) (O : Op2 X.K r g) (ha : ZO X pm a oa) (hb : ZO X pm b ob) (hm : behindInMarks op b = false) : ZE X pm (.Compare a [op] [b] pos) (wOp2 g oa ob) := pe_imp (pe_cmpR hr ha hb hm) fun _ _ _ => tz_op2 O
theorem ze_ix {r : R2} {g} (hr : IxR X r) (O : Op2 X.K r g) (ha : ZO X pm a oa) (hb : ZO X pm b ob) (hp : PlainIx b) : ZE X pm (.Subscript a b pos) (wOp2 g oa ob) := pe_imp (pe_ix hr ha hb hp) fun _ _ _ => tz_op2 O
end

/-! ### constants, names as values -/
def wC (d : D) : WE := fun env P => P (.fz d) env
/-- a name's value; an object of one's own is frozen -/
def wVar (i : Nat) : WE := fun env P => match gt env i with
  | some (.fz d) => P (.fz d) env
  | some t => P (.fz t.fr) (st env i (.fz t.fr))
  | none => False
/-- a name's value, the name given up -/
def wMov (i : Nat) : WE := fun env P => match gt env i with
  | some t => P t (cl env i)
  | none => False
section
variable {K : PySem.W.Frag} {pv : List (Option V)} {F H : Hp} {σ : L2.St} {env : Ev} {B : Nat → Rg} {t : T} {i : Nat}
theorem IsT.ofD {R : Rg} {v : V} {d : D} (h : IsD K F v d) : IsT K F H R v (.fz d) := .fz h
/-- the name i is given up: its value stands beside the frame -/
theorem Rel.take (r : Rel K pv F H σ env B) (e : gt env i = some t) : ∃ v, σ[i]? = some (some v) ∧ Rel K pv F H σ (cl env i) (fun j => if j = i then Rg0 else B j) ∧ OwnV K F H (fun j => if j = i then Rg0 else B j) (B i) v t ∧
    (∀ a, Ru (U fun j => if j = i then Rg0 else B j) (B i) a → U B a) := by
  obtain ⟨v, e1, e2⟩ := r.at_ i t (gt_some e)
  have sub : ∀ j a, (if j = i then Rg0 else B j) a → B j a ∧ j ≠ i := fun j a h => by
    by_cases z : j = i
    · rw [if_pos z] at h; exact h.elim
    · rw [if_neg z] at h; exact ⟨h, z⟩
  refine ⟨v, e1, ⟨r.sub, by rw [cl_eq, List.length_set]; exact r.len, fun j u h => ?_, fun j k a h1 h2 => r.dis j k a (sub _ _ h1).1 (sub _ _ h2).1, fun j a h => r.off j a (sub _ _ h).1, fun j a h => r.live j a (sub _ _ h).1, r.fix, r.tp⟩,
    ⟨e2, fun j a h1 h2 => (sub _ _ h2).2 (r.dis j i a (sub _ _ h2).1 h1), fun a h => r.off i a h, fun a h => r.live i a h⟩, fun a h => ?_⟩
  · rw [cl_eq] at h
    by_cases z : j = i
    · subst z
      rw [List.getElem?_set] at h
      split at h
      · split at h <;> cases h
      · rename_i h'; exact absurd rfl h'
    · rw [List.getElem?_set_ne (Ne.symm z)] at h
      obtain ⟨u', e3, e4⟩ := r.at_ j u h
      refine ⟨u', e3, ?_⟩
      show IsT K F H (if j = i then Rg0 else B j) u' u
      rw [if_neg z]
      exact e4
  · rcases h with ⟨j, h⟩ | h
    · exact ⟨j, (sub _ _ h).1⟩
    · exact ⟨i, h⟩
/-- a value beside the frame is held by the name i -/
theorem Rel.put {v : V} {R : Rg} (r : Rel K pv F H σ env B) (o : OwnV K F H B R v t) (hp : ∀ u, pv[i]? = some (some u) → σ[i]? = some (some v) ∧ u = v) (hi : i < σ.length) :
    Rel K pv F H (σ.set i (some v)) (st env i t) (fun j => if j = i then R else B j) ∧ (∀ a, U (fun j => if j = i then R else B j) a → Ru (U B) R a) := by
  have hl := r.len
  have cs : ∀ j a, (if j = i then R else B j) a → (j = i ∧ R a) ∨ (j ≠ i ∧ B j a) := fun j a h => by
    by_cases z : j = i
    · rw [if_pos z] at h; exact .inl ⟨z, h⟩
    · rw [if_neg z] at h; exact .inr ⟨z, h⟩
  refine ⟨⟨r.sub, by rw [st_eq, List.length_set, List.length_set]; exact hl, fun j u h => ?_, fun j k a h1 h2 => ?_, fun j a h => ?_, fun j a h => ?_, fun j u h => ?_, r.tp⟩, fun a ⟨j, h⟩ => ?_⟩
  · rw [st_eq] at h
    by_cases z : j = i
    · subst z
      rw [List.getElem?_set_self (by omega)] at h
      cases h
      refine ⟨v, List.getElem?_set_self hi, ?_⟩
      show IsT K F H (if j = j then R else B j) v _
      rw [if_pos rfl]
      exact o.is
    · rw [List.getElem?_set_ne (Ne.symm z)] at h
      obtain ⟨u', e3, e4⟩ := r.at_ j u h
      refine ⟨u', by rw [List.getElem?_set_ne (Ne.symm z)]; exact e3, ?_⟩
      show IsT K F H (if j = i then R else B j) u' u
      rw [if_neg z]
      exact e4
  · rcases cs _ _ h1 with ⟨z, h1⟩ | ⟨z, h1⟩ <;> rcases cs _ _ h2 with ⟨y, h2⟩ | ⟨y, h2⟩
    · rw [z, y]
    · exact (o.dis k a h1 h2).elim
    · exact (o.dis j a h2 h1).elim
    · exact r.dis j k a h1 h2
  · rcases cs _ _ h with ⟨z, h⟩ | ⟨z, h⟩
    · exact o.off a h
    · exact r.off j a h
  · rcases cs _ _ h with ⟨z, h⟩ | ⟨z, h⟩
    · exact o.live a h
    · exact r.live j a h
  · by_cases z : j = i
    · subst z
      rw [List.getElem?_set_self hi, (hp u h).2]
    · rw [List.getElem?_set_ne (Ne.symm z)]
      exact r.fix j u h
  · rcases cs _ _ h with ⟨z, h⟩ | ⟨z, h⟩
    · exact .inr h
    · exact .inl ⟨j, h⟩
theorem set_same {σ : L2.St} {i : Nat} {v : V} (e : σ[i]? = some (some v)) : σ.set i (some v) = σ := by
  apply List.ext_getElem?
  intro j
  by_cases z : j = i
  · subst z
    rw [e, List.getElem?_set_self]
    exact (List.getElem?_eq_some_iff.mp e).1
  · rw [List.getElem?_set_ne (Ne.symm z)]
end
theorem st_cl : ∀ (env : Ev) (i : Nat) (t : T), st (cl env i) i t = st env i t
  | [], _, _ => rfl
  | _ :: _, 0, _ => rfl
  | o :: r, n + 1, t => congrArg (List.cons o) (st_cl r n t)
section
variable {K : PySem.W.Frag} {pv : List (Option V)} {F H : Hp} {σ : L2.St} {env : Ev} {B : Nat → Rg} {t : T} {i : Nat}
/-- the name i's object is frozen where it lies -/
theorem Rel.freezeS (r : Rel K pv F H σ env B) (e : gt env i = some t) : ∃ v F' B', σ[i]? = some (some v) ∧ Rel K pv F' H σ (st env i (.fz t.fr)) B' ∧ Step F H (U B) F' H (U B') ∧ IsD K F' v t.fr := by
  obtain ⟨v, e1, r1, o1, s1⟩ := r.take e
  obtain ⟨F', r2, s2, d2⟩ := r1.freezeV o1
  have hi := (List.getElem?_eq_some_iff.mp e1).1
  obtain ⟨r3, s3⟩ := r2.put (i := i) (OwnV.fz d2) (fun u h => ⟨e1, by have := r.fix i u h; rw [e1] at this; cases this; rfl⟩) hi
  rw [set_same e1, st_cl] at r3
  exact ⟨v, F', _, e1, r3, (s2.more s1).less fun a h => (s3 a h).elim id False.elim, d2⟩
end
section
variable {X : Cx} {pm : List Bool} {pos : Pos}
theorem ze_c {e : Expr} {v : V} {d : D} (h : PE X e (tC v)) (hd : ∀ K F, IsD K F v d) : ZE X pm e (wC d) := pe_imp h fun σ H Q ⟨pv, F, B, env, P, m, rel, hw, hq⟩ => hq _ _ hw F H B Rg0 v Step.refl.r0 rel (OwnV.fz (hd _ _))
theorem ze_int {i : Int} {j} : ZE X pm (.Constant (.int i) j pos) (wC (.int i)) := ze_c pe_int fun _ _ => .int i
theorem ze_bl {b : Bool} {j} : ZE X pm (.Constant (.bool b) j pos) (wC (.bl b)) := ze_c pe_bl fun _ _ => .bl b
theorem ze_non {j} : ZE X pm (.Constant .none j pos) (wC .non) := ze_c pe_non fun _ _ => .non
theorem ze_str {x : Str} {j} : ZE X pm (.Constant (.str x) j pos) (wC (.str x)) := ze_c pe_str fun _ _ => .str x
theorem ze_var (i : Nat) {x : Str} (hN : X.N[i]? = some x := by rfl) (hv : Vis X.env.scope x := by first | exact Or.inl rfl | exact Or.inr (Or.inl rfl) | exact Or.inr (Or.inr rfl)) (hd : (x == ("__debug__" : Str)) = false := by decide)
    (hcd : (x == ("__classdict__" : Str)) = false := by decide) : ZE X pm (.Name x pos) (wVar i) := pe_imp (pe_var hN hv hd hcd) fun σ H Q ⟨pv, F, B, env, P, m, rel, hw, hq⟩ => by
  have hw' : (match gt env i with | some (.fz d) => P (.fz d) env | some t => P (.fz t.fr) (st env i (.fz t.fr)) | none => False) := hw
  cases g : gt env i with
  | none => rw [g] at hw'; exact hw'.elim
  | some t =>
    rw [g] at hw'
    have go : ∀ t' : T, gt env i = some t' → P (.fz t'.fr) (st env i (.fz t'.fr)) → tVar i σ H Q := fun t' g' h' => by
      obtain ⟨v, F', B', e1, r1, s1, d1⟩ := rel.freezeS g'
      exact ⟨v, e1, hq _ _ h' F' H B' Rg0 v s1.r0 r1 (OwnV.fz d1)⟩
    cases t with
    | fz d =>
      obtain ⟨v, e1, e2⟩ := rel.at_ i _ (gt_some g)
      cases e2 with
      | fz h => exact ⟨v, e1, hq _ _ hw' F H B Rg0 v Step.refl.r0 rel (OwnV.fz h)⟩
    | lst ds => exact go _ g hw'
    | ins c ts => exact go _ g hw'
    | map b ks ts => exact go _ g hw'
    | hole w => exact go _ g hw'
    | at_ w t => exact go _ g hw'
theorem ze_mov (i : Nat) {x : Str} (hN : X.N[i]? = some x := by rfl) (hv : Vis X.env.scope x := by first | exact Or.inl rfl | exact Or.inr (Or.inl rfl) | exact Or.inr (Or.inr rfl)) (hd : (x == ("__debug__" : Str)) = false := by decide)
    (hcd : (x == ("__classdict__" : Str)) = false := by decide) : ZE X pm (.Name x pos) (wMov i) := pe_imp (pe_var hN hv hd hcd) fun σ H Q ⟨pv, F, B, env, P, m, rel, hw, hq⟩ => by
  have hw' : (match gt env i with | some t => P t (cl env i) | none => False) := hw
  cases g : gt env i with
  | none => rw [g] at hw'; exact hw'.elim
  | some t =>
    rw [g] at hw'
    obtain ⟨v, e1, r1, o1, s1⟩ := rel.take g
    exact ⟨v, e1, hq _ _ hw' F H _ _ v (Step.refl.less s1) r1 o1⟩
end
end Zl

namespace Zl
open PySem PySem.Spec PyProof.Rows L2

section
variable {K : PySem.W.Frag} {F H : Hp} {p : Addr} {o : HO}
theorem Alloc.own (s : Same F H) (h : H p = none) (ht : ∀ xs, o ≠ .tup xs := by intro _ z; cases z) : Alloc F H F (upd H p o) (fun a => a = p) := by
  have np : ∀ a x, H a = some x → a ≠ p := fun a x e z => by subst z; rw [h] at e; cases e
  have k : Same H (upd H p o) := fun a x e => by rw [upd_ne (np a x e)]; exact e
  refine ⟨fun _ _ h => h, k, fun a x e => k a x (s a x e), fun _ h => .inl h, fun a e => by subst e; exact h, fun a e => ?_, fun a e => ?_, fun tq => tq.upd (fun ps z => by rw [h] at z; cases z) ht⟩
  · subst e
    cases q : F a with
    | none => rfl
    | some x => rw [s a x q] at h; cases h
  · subst e; rw [upd_same]; simp
theorem Alloc.frz (s : Same F H) (h : H p = none) : Alloc F H (upd F p o) (upd H p o) Rg0 := by
  have np : ∀ a x, H a = some x → a ≠ p := fun a x e z => by subst z; rw [h] at e; cases e
  refine ⟨fun a x e => by rw [upd_ne (np a x (s a x e))]; exact e, fun a x e => by rw [upd_ne (np a x e)]; exact e, fun a x e => ?_, fun a e => ?_, fun _ h => h.elim, fun _ h => h.elim, fun _ h => h.elim, fun tq => ⟨fun a xs e => ?_, fun q e => ?_⟩⟩
  · by_cases z : a = p
    · subst z; rw [upd_same] at e ⊢; exact e
    · rw [upd_ne z] at e ⊢; exact s a x e
  · by_cases z : a = p
    · subst z; exact .inr h
    · rw [upd_ne z] at e; exact .inl e
  · by_cases z : a = p
    · subst z; rw [upd_same] at e ⊢; exact e
    · rw [upd_ne z] at e ⊢; exact tq.tup a xs e
  · obtain ⟨nf, ps, g1, g2, g3⟩ := tq.tab q e
    have n1 := np _ _ g1
    exact ⟨by rw [upd_ne n1]; exact nf, ps, by rw [upd_ne n1]; exact g1, g2, fun pos cv hc => let ⟨c, r, f⟩ := g3 pos cv hc; ⟨c, r, by rw [upd_ne (np _ _ (s _ _ f))]; exact f⟩⟩
end

/-! ### data for == -/
mutual
def D.py : D → PyData
  | .non => .none
  | .bl b => .bool b
  | .int i => .int i
  | .str s => .str s
  | .tup ds => .tuple (D.pys ds)
  | .lst ds => .list (D.pys ds)
  | .rol ds => .list (D.pys ds)
  | .ins _ _ => .none
  | .map _ _ _ _ => .none
  | .unk => .none
  | .rot _ => .none
  | .ty _ => .none
  | .cls _ => .none
def D.pys : List D → List PyData
  | [] => []
  | d :: ds => d.py :: D.pys ds
end
/-- data of at most that depth, its texts in order -/
def D.ok : Nat → D → Bool
  | _, .non => true
  | _, .bl _ => true
  | _, .int _ => true
  | _, .str s => PyData.strOk s
  | n + 1, .tup ds => ds.all (D.ok n)
  | n + 1, .lst ds => ds.all (D.ok n)
  | n + 1, .rol ds => ds.all (D.ok n)
  | _, _ => false
theorem pys_all {n : Nat} (ih : ∀ d : D, D.ok n d = true → d.py.canLay0 = true ∧ d.py.depth ≤ n) : ∀ ds : List D, ds.all (D.ok n) = true → PyData.canLayAll0 (D.pys ds) = true ∧ PyData.depthAll (D.pys ds) ≤ n
  | [], _ => ⟨rfl, Nat.zero_le _⟩
  | d :: ds, h => by
    rw [List.all_cons, Bool.and_eq_true] at h
    obtain ⟨a, b⟩ := ih d h.1
    obtain ⟨c, e⟩ := pys_all ih ds h.2
    refine ⟨?_, ?_⟩
    · show (d.py.canLay0 && PyData.canLayAll0 (D.pys ds)) = true
      rw [a, c]; rfl
    · show max d.py.depth (PyData.depthAll (D.pys ds)) ≤ n
      omega
theorem D.ok_py : ∀ (n : Nat) (d : D), D.ok n d = true → d.py.canLay0 = true ∧ d.py.depth ≤ n
  | n, .non, _ => ⟨rfl, Nat.zero_le _⟩
  | n, .bl _, _ => ⟨rfl, Nat.zero_le _⟩
  | n, .int _, _ => ⟨rfl, Nat.zero_le _⟩
  | n, .str s, h => ⟨by cases n <;> exact h, Nat.zero_le _⟩
  | 0, .tup ds, h => by cases h
  | 0, .lst ds, h => by cases h
  | 0, .rol ds, h => by cases h
  | n + 1, .tup ds, h => by
    obtain ⟨a, b⟩ := pys_all (D.ok_py n) ds h
    exact ⟨a, Nat.succ_le_succ b⟩
  | n + 1, .lst ds, h => by
    obtain ⟨a, b⟩ := pys_all (D.ok_py n) ds h
    exact ⟨a, Nat.succ_le_succ b⟩
  | n + 1, .rol ds, h => by
    obtain ⟨a, b⟩ := pys_all (D.ok_py n) ds h
    exact ⟨a, Nat.succ_le_succ b⟩
  | 0, .ins _ _, h => by cases h
  | 0, .map _ _ _ _, h => by cases h
  | _ + 1, .map _ _ _ _, h => by cases h
  | 0, .unk, h => by cases h
  | 0, .rot _, h => by cases h
  | _ + 1, .unk, h => by cases h
  | _ + 1, .rot _, h => by cases h
  | 0, .ty _, h => by cases h
  | 0, .cls _, h => by cases h
  | _ + 1, .ins _ _, h => by cases h
  | _ + 1, .ty _, h => by cases h
  | _ + 1, .cls _, h => by cases h
theorem D.ok_shaped {d : D} (h : D.ok 60 d = true) : SeqAt.shaped d.py = true := by
  obtain ⟨a, b⟩ := D.ok_py 60 d h
  unfold SeqAt.shaped
  rw [a, decide_eq_true (by omega : d.py.depth ≤ 64)]
  rfl
section
variable {K : PySem.W.Frag} {F H : Hp}
theorem ok_dps (s : Same F H) {n : Nat} (ih : ∀ (d : D) (v : V), D.ok n d = true → IsD K F v d → Dp K H v d.py) : ∀ (ds : List D) (vs : List V), ds.all (D.ok n) = true → IsDs K F vs ds → DpAll K H vs (D.pys ds)
  | [], _, _, .nil => .nil
  | d :: ds, _, h, .cons q r => by
    rw [List.all_cons, Bool.and_eq_true] at h
    exact .cons (ih d _ h.1 q) (ok_dps s ih ds _ h.2 r)
theorem ok_dp (s : Same F H) : ∀ (n : Nat) (d : D) (v : V), D.ok n d = true → IsD K F v d → Dp K H v d.py
  | _, .non, _, _, .non => .non
  | _, .bl b, _, _, .bl _ => .bl b
  | _, .int i, _, _, .int _ => .int i
  | _, .str x, _, _, .str _ => .str x
  | 0, .tup ds, _, h, _ => by cases h
  | 0, .lst ds, _, h, _ => by cases h
  | 0, .rol ds, _, h, _ => by cases h
  | n + 1, .tup ds, _, h, .tup hq hr => .tup (.of (s _ _ hq)) (ok_dps s (ok_dp s n) ds _ h hr)
  | n + 1, .lst ds, _, h, .lst hq hr => .lst (.inl (.inl (s _ _ hq))) (ok_dps s (ok_dp s n) ds _ h hr)
  | n + 1, .rol ds, _, h, .rol hq hr => .lst (s.seq hq) (ok_dps s (ok_dp s n) ds _ h hr)
  | 0, .ins _ _, _, h, _ => by cases h
  | 0, .map _ _ _ _, _, h, _ => by cases h
  | _ + 1, .map _ _ _ _, _, h, _ => by cases h
  | 0, .unk, _, h, _ => by cases h
  | 0, .rot _, _, h, _ => by cases h
  | _ + 1, .unk, _, h, _ => by cases h
  | _ + 1, .rot _, _, h, _ => by cases h
  | 0, .ty _, _, h, _ => by cases h
  | 0, .cls _, _, h, _ => by cases h
  | _ + 1, .ins _ _, _, h, _ => by cases h
  | _ + 1, .ty _, _, h, _ => by cases h
  | _ + 1, .cls _, _, h, _ => by cases h
theorem Pk.dp (s : Same F H) {d : D} {v : V} (h : D.ok 60 d = true) : Pk K F H v d → Dp K H v d.py
  | .d q => ok_dp s 60 d v h q
  | .lst (ds := ds) q r => .lst (.inl (.inl q)) (ok_dps s (ok_dp s 59) ds _ h r)
  | .ins _ _ => by cases h
  | .map _ _ _ _ => by cases h
  | .unk => by cases h
end
def D.eqb (x y : D) : Bool := PyData.eqv x.py y.py
/-- == of two scalars -/
def eqS : D → D → Option Bool
  | .int i, .int j => some (decide (i = j))
  | .str i, .str j => some (decide (i = j))
  | .bl i, .bl j => some (decide (i = j))
  | .non, .non => some true
  | .non, .int _ => some false
  | .int _, .non => some false
  | .non, .str _ => some false
  | .str _, .non => some false
  | .non, .bl _ => some false
  | .bl _, .non => some false
  | .int _, .str _ => some false
  | .str _, .int _ => some false
  | _, _ => none
def eqK (x y : D) (k : Bool → Prop) : Prop := match eqS x y with
  | some b => k b
  | none => D.ok 60 x = true ∧ D.ok 60 y = true ∧ k (D.eqb x y)
def gEq (x y : D) (k : T → Prop) : Prop := eqK x y fun b => k (.fz (.bl b))
def gNe (x y : D) (k : T → Prop) : Prop := eqK x y fun b => k (.fz (.bl (!b)))
section
variable {X : Cx} {K : PySem.W.Frag} {F H : Hp}
theorem eqS_V {x y : D} {v u : V} {b : Bool} (e : eqS x y = some b) (hv : Pk K F H v x) (hu : Pk K F H u y) : scal v u = true ∧ decide (v = u) = b := by
  cases x <;> cases y <;> cases e
  all_goals
    first | rw [hv.int] | rw [hv.str] | rw [hv.bl] | rw [hv.non]
    first | rw [hu.int] | rw [hu.str] | rw [hu.bl] | rw [hu.non]
    refine ⟨rfl, ?_⟩
    first
      | rfl
      | (apply decide_eq_decide.mpr; constructor <;> intro z <;> first | (injection z) | (rw [z]))
theorem op2_eq : Op2 K (fun x y H Q => rEq x y H Q ∨ rEqD K x y H Q) gEq := ⟨fun F H v u x y P Q s hv hu h hq => by
  have h' : (match eqS x y with | some b => P (.fz (.bl b)) | none => D.ok 60 x = true ∧ D.ok 60 y = true ∧ P (.fz (.bl (D.eqb x y)))) := h
  cases e : eqS x y with
  | some b =>
    rw [e] at h'
    obtain ⟨a, c⟩ := eqS_V e hv hu
    exact .inl ⟨a, by rw [c]; exact hq _ _ F H Rg0 h' (.refl s) (.fz (.bl b))⟩
  | none =>
    rw [e] at h'
    obtain ⟨a, b, c⟩ := h'
    exact .inr ⟨x.py, y.py, hv.dp s a, hu.dp s b, D.ok_shaped a, D.ok_shaped b, hq _ _ F H Rg0 c (.refl s) (.fz (.bl _))⟩⟩
theorem op2_ne : Op2 K (fun x y H Q => rNe x y H Q ∨ rNeD K x y H Q) gNe := ⟨fun F H v u x y P Q s hv hu h hq => by
  have h' : (match eqS x y with | some b => P (.fz (.bl (!b))) | none => D.ok 60 x = true ∧ D.ok 60 y = true ∧ P (.fz (.bl (!D.eqb x y)))) := h
  cases e : eqS x y with
  | some b =>
    rw [e] at h'
    obtain ⟨a, c⟩ := eqS_V e hv hu
    exact .inl ⟨a, by rw [c]; exact hq _ _ F H Rg0 h' (.refl s) (.fz (.bl _))⟩
  | none =>
    rw [e] at h'
    obtain ⟨a, b, c⟩ := h'
    exact .inr ⟨x.py, y.py, hv.dp s a, hu.dp s b, D.ok_shaped a, D.ok_shaped b, hq _ _ F H Rg0 c (.refl s) (.fz (.bl _))⟩⟩
theorem or_eq (hu : X.A.units + 64 < cLine) : OpR X (compareOp .Eq) (fun x y H Q => rEq x y H Q ∨ rEqD X.K x y H Q) := op_eq.or (op_eqD hu)
theorem or_ne (hu : X.A.units + 64 < cLine) : OpR X (compareOp .NotEq) (fun x y H Q => rNe x y H Q ∨ rNeD X.K x y H Q) := op_ne.or (op_neD hu)
end

/-! ### arithmetic, + -/
def gAdd : D → D → (T → Prop) → Prop
  | .int i, .int j, k => k (.fz (.int (i + j)))
  | .str x, .str y, k => x.length + y.length ≤ sizeLine ∧ k (.fz (.str (x ++ y)))
  | .lst xs, .lst ys, k => xs.length + ys.length ≤ sizeLine ∧ k (.lst (xs ++ ys))
  | .tup xs, .tup ys, k => xs.length + ys.length ≤ sizeLine ∧ k (.fz (.tup (xs ++ ys)))
  | _, _, _ => False
def rAddAll (K : PySem.W.Frag) : R2 := fun x y H Q => rI0 (fun i j => V.int (i + j)) x y H Q ∨ (∃ i j, x = .str i ∧ y = .str j ∧ i.length + j.length ≤ sizeLine ∧ Q (.str (i ++ j)) H) ∨ rCat x y H Q ∨ rCatA K x y H Q
def gSub : D → D → (T → Prop) → Prop
  | .int i, .int j, k => k (.fz (.int (i - j)))
  | _, _, _ => False
def gMul : D → D → (T → Prop) → Prop
  | .int i, .int j, k => CMul i j ∧ k (.fz (.int (i * j)))
  | .lst xs, .int n, k => (-(2 ^ 63) ≤ n ∧ n < 2 ^ 63 ∧ xs.length * n.toNat ≤ sizeLine) ∧ k (.lst (List.replicate n.toNat xs).flatten)
  | _, _, _ => False
def gMod : D → D → (T → Prop) → Prop
  | .int i, .int j, k => 0 < j ∧ k (.fz (.int (i % j)))
  | _, _, _ => False
def gDiv : D → D → (T → Prop) → Prop
  | .int i, .int j, k => (0 < j ∧ j < 1073741824) ∧ k (.fz (.int (i / j)))
  | _, _, _ => False
def gPow : D → D → (T → Prop) → Prop
  | .int i, .int j, k => CPow i j ∧ k (.fz (.int (i ^ j.toNat)))
  | _, _, _ => False
def gNeg : D → (T → Prop) → Prop
  | .int i, k => k (.fz (.int (-i)))
  | _, _ => False
def gCmp (p : Int → Int → Bool) : D → D → (T → Prop) → Prop
  | .int i, .int j, k => k (.fz (.bl (p i j)))
  | _, _, _ => False
section
variable {X : Cx} {K : PySem.W.Frag}
theorem IsDs.flat {F : Hp} {vs : List V} {ds : List D} (h : IsDs K F vs ds) : ∀ n : Nat, IsDs K F (List.replicate n vs).flatten (List.replicate n ds).flatten
  | 0 => .nil
  | n + 1 => by
    rw [List.replicate_succ, List.replicate_succ, List.flatten_cons, List.flatten_cons]
    exact h.append (IsDs.flat h n)
theorem op2_add : Op2 K (rAddAll K) gAdd := ⟨fun F H v u x y P Q s hv hu h hq => by
  cases x <;> cases y <;> first
    | exact h.elim
    | skip
  · rename_i i j
    exact .inl ⟨i, j, hv.int, hu.int, hq _ _ F H Rg0 h (.refl s) (.fz (.int _))⟩
  · rename_i i j
    exact .inr (.inl ⟨i, j, hv.str, hu.str, h.1, hq _ _ F H Rg0 h.2 (.refl s) (.fz (.str _))⟩)
  · rename_i xs ys
    obtain ⟨a, vs, rfl, h1, d1⟩ := hv.tup1 s
    obtain ⟨b, us, rfl, h2, d2⟩ := hu.tup1 s
    have l1 := d1.length
    have l2 := d2.length
    refine .inr (.inr (.inr ⟨a, b, vs, us, rfl, rfl, h1, h2, by have := h.1; omega, fun e => ?_, fun _ e => ?_, fun _ _ p hp => ?_⟩))
    · subst e
      cases d1
      exact hq _ _ F H Rg0 h.2 (.refl s) (.fz (match hu with | .d q => q))
    · subst e
      cases d2
      have h2 := h.2
      rw [List.append_nil] at h2
      exact hq _ _ F H Rg0 h2 (.refl s) (.fz (match hv with | .d q => q))
    · have al := Alloc.frz (o := .tup (vs ++ us)) s hp
      exact hq _ _ _ _ Rg0 h.2 al (.fz (.tup upd_same ((d1.mono al.le).append (d2.mono al.le))))
  · rename_i xs ys
    obtain ⟨a, vs, rfl, h1, d1⟩ := hv.lst1 s
    obtain ⟨b, us, rfl, h2, d2⟩ := hu.lst1 s
    have l1 := d1.length
    have l2 := d2.length
    refine .inr (.inr (.inl ⟨a, b, vs, us, rfl, rfl, h1, h2, by have := h.1; omega, fun p hp => ?_⟩))
    exact hq _ _ _ _ _ h.2 (Alloc.own s hp) (.lst rfl upd_same (d1.append d2))⟩
theorem or_add : OpR X (binaryOp .Add) (rAddAll X.K) := op_add.or (op_add_str.or (op_cat.or op_catA))
theorem op2_sub : Op2 K (rI0 fun i j => V.int (i - j)) gSub := ⟨fun F H v u x y P Q s hv hu h hq => by
  cases x <;> cases y <;> first
    | exact h.elim
    | exact ⟨_, _, hv.int, hu.int, hq _ _ F H Rg0 h (.refl s) (.fz (.int _))⟩⟩
theorem op2_mul : Op2 K (fun x y H Q => rI CMul (fun i j => V.int (i * j)) x y H Q ∨ rRep x y H Q) gMul := ⟨fun F H v u x y P Q s hv hu h hq => by
  cases x <;> cases y <;> first
    | exact h.elim
    | exact .inl ⟨_, _, hv.int, hu.int, h.1, hq _ _ F H Rg0 h.2 (.refl s) (.fz (.int _))⟩
    | skip
  rename_i xs n
  obtain ⟨a, vs, rfl, h1, d1⟩ := hv.lst1 s
  refine .inr ⟨a, n, vs, rfl, hu.int, h1, h.1.1, h.1.2.1, by rw [d1.length]; exact h.1.2.2, fun p hp => ?_⟩
  exact hq _ _ _ _ _ h.2 (Alloc.own s hp) (.lst rfl upd_same (d1.flat _))⟩
theorem or_mul : OpR X (binaryOp .Mult) (fun x y H Q => rI CMul (fun i j => V.int (i * j)) x y H Q ∨ rRep x y H Q) := op_mul.or op_rep
theorem op2_mod : Op2 K (rI (fun _ j => j ≠ 0) fun i j => V.int (i.fmod j)) gMod := ⟨fun F H v u x y P Q s hv hu h hq => by
  cases x <;> cases y <;> first
    | exact h.elim
    | skip
  rename_i i j
  have h0 : 0 < j := h.1
  refine ⟨i, j, hv.int, hu.int, by omega, ?_⟩
  show Q (.int (i.fmod j)) H
  rw [Int.fmod_eq_emod_of_nonneg _ (by omega)]
  exact hq _ _ F H Rg0 h.2 (.refl s) (.fz (.int _))⟩
theorem op2_div : Op2 K (rI CDivN fun i j => V.int (i.fdiv j)) gDiv := ⟨fun F H v u x y P Q s hv hu h hq => by
  cases x <;> cases y <;> first
    | exact h.elim
    | skip
  rename_i i j
  obtain ⟨⟨h0, h1⟩, h2⟩ := h
  refine ⟨i, j, hv.int, hu.int, ⟨by omega, by omega⟩, ?_⟩
  show Q (.int (i.fdiv j)) H
  rw [Int.fdiv_eq_ediv_of_nonneg _ (by omega)]
  exact hq _ _ F H Rg0 h2 (.refl s) (.fz (.int _))⟩
theorem op2_pow : Op2 K (rI CPow fun i j => V.int (i ^ j.toNat)) gPow := ⟨fun F H v u x y P Q s hv hu h hq => by
  cases x <;> cases y <;> first
    | exact h.elim
    | exact ⟨_, _, hv.int, hu.int, h.1, hq _ _ F H Rg0 h.2 (.refl s) (.fz (.int _))⟩⟩
theorem op1_neg : Op1 K (rU fun i => V.int (-i)) gNeg := ⟨fun F H v x P Q s hv h hq => by
  cases x <;> first
    | exact h.elim
    | exact ⟨_, hv.int, hq _ _ F H Rg0 h (.refl s) (.fz (.int _))⟩⟩
theorem op2_cmp (p : Int → Int → Bool) : Op2 K (rI0 fun i j => V.bl (p i j)) (gCmp p) := ⟨fun F H v u x y P Q s hv hu h hq => by
  cases x <;> cases y <;> first
    | exact h.elim
    | exact ⟨_, _, hv.int, hu.int, hq _ _ F H Rg0 h (.refl s) (.fz (.bl _))⟩⟩
end
abbrev gLt := gCmp fun i j => decide (i < j)
abbrev gLe := gCmp fun i j => decide (i ≤ j)
abbrev gGt := gCmp fun i j => decide (j < i)
abbrev gGe := gCmp fun i j => decide (j ≤ i)

/-! ### is None, is True -/
def D.isNon : D → Bool
  | .non => true
  | _ => false
def gIs : D → D → (T → Prop) → Prop
  | x, .non, k => k (.fz (.bl x.isNon))
  | .bl a, .bl b, k => k (.fz (.bl (decide (a = b))))
  | _, _, _ => False
def gIsNot : D → D → (T → Prop) → Prop
  | x, .non, k => k (.fz (.bl (!x.isNon)))
  | .bl a, .bl b, k => k (.fz (.bl (!decide (a = b))))
  | _, _, _ => False
section
variable {X : Cx} {K : PySem.W.Frag} {F H : Hp}
theorem Pk.isNon {v : V} {x : D} (h : Pk K F H v x) : decide (v = .non) = x.isNon := by
  cases h with
  | lst _ _ => rfl
  | ins _ _ => rfl
  | map _ _ _ _ => rfl
  | unk => rfl
  | d h => cases h <;> rfl
theorem op2_is : Op2 K (fun x y H Q => (y = V.non ∧ Q (V.bl (decide (x = V.non))) H) ∨ rIsB x y H Q) gIs := ⟨fun F H v u x y P Q s hv hu h hq => by
  by_cases z : y = .non
  · subst z
    have h' : P (.fz (.bl x.isNon)) := by cases x <;> exact h
    exact .inl ⟨hu.non, by rw [hv.isNon]; exact hq _ _ F H Rg0 h' (.refl s) (.fz (.bl _))⟩
  · cases x <;> cases y <;> first
      | exact h.elim
      | exact absurd rfl z
      | exact .inr ⟨_, _, hv.bl, hu.bl, hq _ _ F H Rg0 h (.refl s) (.fz (.bl _))⟩⟩
theorem op2_isnot : Op2 K (fun x y H Q => (y = V.non ∧ Q (V.bl (!decide (x = V.non))) H) ∨ rNotB x y H Q) gIsNot := ⟨fun F H v u x y P Q s hv hu h hq => by
  by_cases z : y = .non
  · subst z
    have h' : P (.fz (.bl (!x.isNon))) := by cases x <;> exact h
    exact .inl ⟨hu.non, by rw [hv.isNon]; exact hq _ _ F H Rg0 h' (.refl s) (.fz (.bl _))⟩
  · cases x <;> cases y <;> first
      | exact h.elim
      | exact absurd rfl z
      | exact .inr ⟨_, _, hv.bl, hu.bl, hq _ _ F H Rg0 h (.refl s) (.fz (.bl _))⟩⟩
theorem or_is : OpR X (compareOp .Is) (fun x y H Q => (y = V.non ∧ Q (V.bl (decide (x = V.non))) H) ∨ rIsB x y H Q) := op_isN.or op_isBl
theorem or_isnot : OpR X (compareOp .IsNot) (fun x y H Q => (y = V.non ∧ Q (V.bl (!decide (x = V.non))) H) ∨ rNotB x y H Q) := op_notN.or op_notBl
end

/-! ### subscripts, len -/
def gIx : D → D → (T → Prop) → Prop
  | .lst xs, .int i, k => match atI xs i with
    | some d => k (.fz d)
    | none => False
  | .tup xs, .int i, k => match atI xs i with
    | some d => k (.fz d)
    | none => False
  | .rol xs, .int i, k => match atI xs i with
    | some d => k (.fz d)
    | none => False
  | .str z, .int i, k => z.length ≤ sizeLine ∧ match atI z.cps.toList i with
    | some c => k (.fz (.str ⟨#[c]⟩))
    | none => False
  | _, _, _ => False
section
variable {X : Cx} {K : PySem.W.Frag} {F H : Hp}
theorem IsDs.atI {vs : List V} {ds : List D} {i : Int} {d : D} (h : IsDs K F vs ds) (e : L2.atI ds i = some d) : ∃ v, L2.atI vs i = some v ∧ IsD K F v d := by
  unfold L2.atI at e ⊢
  rw [h.length]
  cases q : ixN ds.length i with
  | none => rw [q] at e; cases e
  | some j =>
    rw [q] at e
    exact h.get (i := j) e
theorem op2_ix : Op2 K (rIx K) gIx := ⟨fun F H v u x y P Q s hv hu h hq => by
  cases x <;> cases y <;> first
    | exact h.elim
    | skip
  · rename_i z i
    obtain ⟨hz, h⟩ := h
    cases q : atI z.cps.toList i with
    | none => simp only [q] at h
    | some c =>
      simp only [q] at h
      exact .inr (.inr ⟨z, i, c, hv.str, hu.int, hz, q, hq _ _ F H Rg0 h (.refl s) (.fz (.str _))⟩)
  · rename_i xs i
    have h : (match atI xs i with | some d => P (.fz d) | none => False) := h
    obtain ⟨a, vs, rfl, h1, d1⟩ := hv.tup1 s
    cases q : atI xs i with
    | none => rw [q] at h; exact h.elim
    | some d =>
      rw [q] at h
      obtain ⟨w', e, hd⟩ := d1.atI q
      exact .inr (.inl ⟨a, vs, i, w', rfl, hu.int, h1, e, hq _ _ F H Rg0 h (.refl s) (.fz hd)⟩)
  · rename_i xs i
    have h : (match atI xs i with | some d => P (.fz d) | none => False) := h
    obtain ⟨a, vs, rfl, h1, d1⟩ := hv.lst1 s
    cases q : atI xs i with
    | none => rw [q] at h; exact h.elim
    | some d =>
      rw [q] at h
      obtain ⟨w', e, hd⟩ := d1.atI q
      exact .inl ⟨a, vs, i, w', rfl, hu.int, SqL.of h1, e, hq _ _ F H Rg0 h (.refl s) (.fz hd)⟩
  · rename_i xs i
    have h : (match atI xs i with | some d => P (.fz d) | none => False) := h
    obtain ⟨a, vs, rfl, h1, d1⟩ := hv.rol1 s
    cases q : atI xs i with
    | none => rw [q] at h; exact h.elim
    | some d =>
      rw [q] at h
      obtain ⟨w', e, hd⟩ := d1.atI q
      exact .inl ⟨a, vs, i, w', rfl, hu.int, h1, e, hq _ _ F H Rg0 h (.refl s) (.fz hd)⟩⟩
end
def gLen : List D → (T → Prop) → Prop
  | [.lst xs], k => k (.fz (.int xs.length))
  | [.tup xs], k => k (.fz (.int xs.length))
  | [.rol xs], k => k (.fz (.int xs.length))
  | [.rot xs], k => k (.fz (.int xs.length))
  | [.str x], k => x.length ≤ sizeLine ∧ k (.fz (.int x.length))
  | _, _ => False
def rLen (K : PySem.W.Frag) : List V → Hp → VK → Prop := fun xs H Q => ∃ x n, xs = [x] ∧ LenV K x H n ∧ Q (.int n) H
section
variable {X : Cx} {K : PySem.W.Frag} {F H : Hp}
theorem Pks.one {vs : List V} {d : D} (h : Pks K F H vs [d]) : ∃ v, vs = [v] ∧ Pk K F H v d := by
  cases h with
  | cons h r => cases r; exact ⟨_, rfl, h⟩
theorem Pks.two {vs : List V} {d e : D} (h : Pks K F H vs [d, e]) : ∃ v u, vs = [v, u] ∧ Pk K F H v d ∧ Pk K F H u e := by
  cases h with
  | cons h r =>
    obtain ⟨u, rfl, q⟩ := r.one
    exact ⟨_, _, rfl, h, q⟩
theorem Pks.three {vs : List V} {d e f : D} (h : Pks K F H vs [d, e, f]) : ∃ v u x, vs = [v, u, x] ∧ Pk K F H v d ∧ Pk K F H u e ∧ Pk K F H x f := by
  cases h with
  | cons h r =>
    obtain ⟨u, x, rfl, q, r⟩ := r.two
    exact ⟨_, _, _, rfl, h, q, r⟩
theorem opn_len : OpN K (rLen K) gLen := ⟨fun F H vs ds P Q s hv h hq => by
  match ds, hv, h with
  | [], _, h => exact h.elim
  | _ :: _ :: _, _, h => (first | exact h.elim | (rename_i d _ _ _; cases d <;> exact h.elim))
  | [d], hv, h =>
    obtain ⟨v, rfl, kv⟩ := hv.one
    cases d <;> first
      | exact h.elim
      | skip
    · rename_i x
      exact ⟨v, x.length, rfl, by rw [kv.str]; exact ⟨h.1, rfl⟩, hq _ _ F H Rg0 h.2 (.refl s) (.fz (.int _))⟩
    · rename_i xs
      obtain ⟨a, us, rfl, h1, d1⟩ := kv.tup1 s
      exact ⟨_, xs.length, rfl, .inr ⟨us, h1, d1.length.symm⟩, hq _ _ F H Rg0 h (.refl s) (.fz (.int _))⟩
    · rename_i xs
      obtain ⟨a, us, rfl, h1, d1⟩ := kv.lst1 s
      exact ⟨_, xs.length, rfl, .inl ⟨us, SqL.of h1, d1.length.symm⟩, hq _ _ F H Rg0 h (.refl s) (.fz (.int _))⟩
    · rename_i xs
      obtain ⟨a, us, rfl, h1, d1⟩ := kv.rol1 s
      exact ⟨_, xs.length, rfl, .inl ⟨us, h1, d1.length.symm⟩, hq _ _ F H Rg0 h (.refl s) (.fz (.int _))⟩
    · rename_i xs
      obtain ⟨a, us, rfl, h1, d1⟩ := kv.rot1 s
      exact ⟨_, xs.length, rfl, .inr ⟨us, h1, d1.length.symm⟩, hq _ _ F H Rg0 h (.refl s) (.fz (.int _))⟩⟩
/-- f(e, ..), f a built-in function; a built-in type -/
theorem ze_callB {x : Str} {p pos : Pos} {id : String} {e : Expr} {es : List Expr} {pm : List Bool} {wa : WA} {r : List V → Hp → VK → Prop} {g} (hc : CallR X (.builtin id) r) (O : OpN X.K r g) (hg : Gl X x) (hm : X.mg x = none) (hv : bootBuiltins x = some (.builtin id)) (ha : ZA X pm (e :: es) wa) (hn : x ≠ "__name__" := by decide) (hdb : (x == ("__debug__" : Str)) = false := by decide)
    (he : starEach (e :: es) X.env = (false, eval e X.env) :: starEach es X.env := by rfl) (hpl : (backTo pos (starEach es X.env)).any (·.1) = false := by rfl) : ZE X pm (.Call (.Name x p) (e :: es) [] pos) (wOpN g wa) :=
  pe_imp (pe_callB hc hg hm hv ha hn hdb he hpl) fun _ _ _ => tz_opN O
theorem ze_callTy {x : Str} {p pos : Pos} {id : String} {e : Expr} {es : List Expr} {pm : List Bool} {wa : WA} {r : List V → Hp → VK → Prop} {g} (hc : CallR X (.type id) r) (O : OpN X.K r g) (hg : Gl X x) (hm : X.mg x = none) (hv : bootBuiltins x = some (.type id)) (ha : ZA X pm (e :: es) wa) (hn : x ≠ "__name__" := by decide) (hdb : (x == ("__debug__" : Str)) = false := by decide)
    (he : starEach (e :: es) X.env = (false, eval e X.env) :: starEach es X.env := by rfl) (hpl : (backTo pos (starEach es X.env)).any (·.1) = false := by rfl) : ZE X pm (.Call (.Name x p) (e :: es) [] pos) (wOpN g wa) :=
  pe_imp (pe_callTy hc hg hm hv ha hn hdb he hpl) fun _ _ _ => tz_opN O
end

/-! ### int, min, max, list, tuple -/
def gInt : List D → (T → Prop) → Prop
  | [.int i], k => k (.fz (.int i))
  | [.bl b], k => k (.fz (.int (if b then 1 else 0)))
  | _, _ => False
def gMin : List D → (T → Prop) → Prop
  | [.int i, .int j], k => k (.fz (.int (min i j)))
  | [.int i, .int j, .int l], k => k (.fz (.int (min (min i j) l)))
  | _, _ => False
def gMax : List D → (T → Prop) → Prop
  | [.int i, .int j], k => k (.fz (.int (max i j)))
  | _, _ => False
def gList : List D → (T → Prop) → Prop
  | [.lst xs], k => k (.lst xs)
  | [.tup xs], k => k (.lst xs)
  | [.rol xs], k => k (.lst xs)
  | _, _ => False
def rMin : List V → Hp → VK → Prop := fun xs H Q => (∃ i j, xs = [.int i, .int j] ∧ Q (.int (if j < i then j else i)) H) ∨ ∃ i j l, xs = [.int i, .int j, .int l] ∧ Q (.int (min (min i j) l)) H
section
variable {X : Cx} {K : PySem.W.Frag} {F H : Hp}
theorem opn_int : OpN K (fun xs H Q => (∃ i, xs = [.int i] ∧ Q (.int i) H) ∨ ∃ k, xs = [.bl k] ∧ Q (.int (if k then 1 else 0)) H) gInt := ⟨fun F H vs ds P Q s hv h hq => by
  match ds, hv, h with
  | [], _, h => exact h.elim
  | _ :: _ :: _, _, h => (first | exact h.elim | (rename_i d _ _ _; cases d <;> exact h.elim))
  | [d], hv, h =>
    obtain ⟨v, rfl, kv⟩ := hv.one
    cases d <;> first
      | exact h.elim
      | exact .inl ⟨_, by rw [kv.int], hq _ _ F H Rg0 h (.refl s) (.fz (.int _))⟩
      | exact .inr ⟨_, by rw [kv.bl], hq _ _ F H Rg0 h (.refl s) (.fz (.int _))⟩⟩
theorem call_min3 (hc : X.calm = true) : CallR X (.builtin "min") (fun xs H Q => ∃ i j l, xs = [.int i, .int j, .int l] ∧ Q (.int (min (min i j) l)) H) := by
  intro pins s σ H xs us Q I r h
  obtain ⟨i, j, l, rfl, q⟩ := h
  obtain ⟨u, us', rfl⟩ : ∃ u us', us = u :: us' := by cases r; exact ⟨_, _, rfl⟩
  cases r with
  | cons r0 r =>
    obtain ⟨w1, w2, rfl, ⟨t1, rfl⟩, ⟨t2, rfl⟩⟩ := vals2 r
    obtain ⟨t0, rfl⟩ := r0
    refine min_three_ints (I.ok.hd hc) fun h' tk k => ⟨_, H, I.kept k, ?_, q⟩
    by_cases h1 : j < i
    · rw [if_pos h1]
      by_cases h2 : l < j
      · rw [if_pos h2]; exact ⟨_, by congr 1; omega⟩
      · rw [if_neg h2]; exact ⟨_, by congr 1; omega⟩
    · rw [if_neg h1]
      by_cases h2 : l < i
      · rw [if_pos h2]; exact ⟨_, by congr 1; omega⟩
      · rw [if_neg h2]; exact ⟨_, by congr 1; omega⟩
theorem cr_min (hc : X.calm = true) : CallR X (.builtin "min") rMin := (call_min2 hc).or (call_min3 hc)
theorem opn_min : OpN K rMin gMin := ⟨fun F H vs ds P Q s hv h hq => by
  match ds, hv, h with
  | [], _, h => exact h.elim
  | [d], _, h => cases d <;> exact h.elim
  | [d, e], hv, h =>
    obtain ⟨v, u, rfl, kv, hu⟩ := hv.two
    cases d <;> cases e <;> first
      | exact h.elim
      | skip
    rename_i i j
    refine .inl ⟨i, j, by rw [kv.int, hu.int], ?_⟩
    have e : (if j < i then j else i) = min i j := by omega
    rw [e]
    exact hq _ _ F H Rg0 h (.refl s) (.fz (.int _))
  | [d, e, f], hv, h =>
    obtain ⟨v, u, x, rfl, kv, hu, hx⟩ := hv.three
    cases d <;> cases e <;> cases f <;> first
      | exact h.elim
      | skip
    exact .inr ⟨_, _, _, by rw [kv.int, hu.int, hx.int], hq _ _ F H Rg0 h (.refl s) (.fz (.int _))⟩
  | d :: e :: f :: g :: r, _, h => cases d <;> cases e <;> cases f <;> exact h.elim⟩
theorem opn_max : OpN K (fun xs H Q => ∃ i j, xs = [.int i, .int j] ∧ Q (.int (if i < j then j else i)) H) gMax := ⟨fun F H vs ds P Q s hv h hq => by
  match ds, hv, h with
  | [], _, h => exact h.elim
  | [d], _, h => cases d <;> exact h.elim
  | [d, e], hv, h =>
    obtain ⟨v, u, rfl, kv, hu⟩ := hv.two
    cases d <;> cases e <;> first
      | exact h.elim
      | skip
    rename_i i j
    refine ⟨i, j, by rw [kv.int, hu.int], ?_⟩
    have e : (if i < j then j else i) = max i j := by omega
    rw [e]
    exact hq _ _ F H Rg0 h (.refl s) (.fz (.int _))
  | d :: e :: f :: r, _, h => cases d <;> cases e <;> exact h.elim⟩
theorem opn_list : OpN K (fun xs H Q => ∃ p ys, xs = [V.ref p] ∧ (SqL K H p ys ∨ SqT K H p ys) ∧ ∀ (l : Addr), H l = none → Q (V.ref l) (upd H l (HO.lst ys))) gList := ⟨fun F H vs ds P Q s hv h hq => by
  match ds, hv, h with
  | [], _, h => exact h.elim
  | _ :: _ :: _, _, h => (first | exact h.elim | (rename_i d _ _ _; cases d <;> exact h.elim))
  | [d], hv, h =>
    obtain ⟨v, rfl, kv⟩ := hv.one
    cases d <;> first
      | exact h.elim
      | skip
    · obtain ⟨a, us, rfl, h1, d1⟩ := kv.tup1 s
      exact ⟨a, us, rfl, .inr h1, fun p hp => hq _ _ _ _ _ h (Alloc.own s hp) (.lst rfl upd_same d1)⟩
    · obtain ⟨a, us, rfl, h1, d1⟩ := kv.lst1 s
      exact ⟨a, us, rfl, .inl (SqL.of h1), fun p hp => hq _ _ _ _ _ h (Alloc.own s hp) (.lst rfl upd_same d1)⟩
    · obtain ⟨a, us, rfl, h1, d1⟩ := kv.rol1 s
      exact ⟨a, us, rfl, .inl h1, fun p hp => hq _ _ _ _ _ h (Alloc.own s hp) (.lst rfl upd_same d1)⟩⟩
end
/-! ### slices -/
def wSl (g : D → Option Int → Option Int → (T → Prop) → Prop) (oa : WO) (ol oh : Option WO) : WE := fun env P => oa env fun a e1 =>
  (match ol with
    | none => fun (k : Option Int → Ev → Prop) => k none e1
    | some o => fun k => o e1 fun b e2 => match rs e2 b with
      | some (.int i) => k (some i) e2
      | _ => False) fun lo e2 =>
  (match oh with
    | none => fun (k : Option Int → Ev → Prop) => k none e2
    | some o => fun k => o e2 fun b e3 => match rs e3 b with
      | some (.int i) => k (some i) e3
      | _ => False) fun hi e3 => match rs e3 a with
  | some x => g x lo hi fun z => P z e3
  | none => False
def cutD (xs : List D) (lo hi : Option Int) : List D := (xs.drop (HT.sIx xs.length 0 lo)).take (HT.sIx xs.length xs.length hi - HT.sIx xs.length 0 lo)
def gSl : D → Option Int → Option Int → (T → Prop) → Prop
  | .lst xs, lo, hi, k => k (.lst (cutD xs lo hi))
  | .rol xs, lo, hi, k => k (.lst (cutD xs lo hi))
  | .tup xs, lo, hi, k => k (.fz (.tup (cutD xs lo hi)))
  | .str z, lo, hi, k => z.length ≤ sizeLine ∧ k (.fz (.str (Txt.slice z lo hi)))
  | _, _, _, _ => False
def rSlAll (K : PySem.W.Frag) : V → Option Int → Option Int → Hp → VK → Prop := fun x lo hi H Q => rSlL K x lo hi H Q ∨ rSlA K x lo hi H Q ∨ C8.rSlX x lo hi H Q
section
variable {X : Cx} {K : PySem.W.Frag} {F H : Hp}
theorem IsDs.cut {vs : List V} {ds : List D} (h : IsDs K F vs ds) (lo hi : Option Int) : IsDs K F (cutV vs lo hi) (cutD ds lo hi) := by
  unfold cutV cutD
  rw [h.length]
  exact (h.drop _).take _
theorem cutD_whole {ds : List D} {lo hi : Option Int} (h : HT.sIx ds.length 0 lo = 0 ∧ HT.sIx ds.length ds.length hi = ds.length) : cutD ds lo hi = ds := by
  unfold cutD
  rw [h.1, h.2]
  simp
theorem slr_all : SlR X (rSlAll X.K) := sl_list.or (sl_tupA.or C8.sl_txt)
theorem sl_run {v : V} {x : D} {lo hi : Option Int} {P : T → Prop} {Q : VK} (s : Same F H) (hv : Pk K F H v x) (h : gSl x lo hi P)
    (hq : ∀ (z : T) (w' : V) (F' H' : Hp) (R : Rg), P z → Alloc F H F' H' R → IsT K F' H' R w' z → Q w' H') : rSlAll K v lo hi H Q := by
  cases x <;> first
    | exact h.elim
    | skip
  · rename_i z
    exact .inr (.inr ⟨z, hv.str, h.1, hq _ _ F H Rg0 h.2 (.refl s) (.fz (.str _))⟩)
  · rename_i xs
    obtain ⟨a, us, rfl, h1, d1⟩ := hv.tup1 s
    have h : P (.fz (.tup (cutD xs lo hi))) := h
    refine .inr (.inl ⟨a, us, rfl, h1, fun e => ?_, fun e p hp => ?_⟩)
    · rw [d1.length] at e
      rw [cutD_whole e] at h
      exact hq _ _ F H Rg0 h (.refl s) (.fz (match hv with | .d q => q))
    · have al := Alloc.frz (o := .tup (cutV us lo hi)) s hp
      exact hq _ _ _ _ Rg0 h al (.fz (.tup upd_same ((d1.cut lo hi).mono al.le)))
  · rename_i xs
    obtain ⟨a, us, rfl, h1, d1⟩ := hv.lst1 s
    exact .inl ⟨a, us, rfl, SqL.of h1, fun p hp => hq _ _ _ _ _ h (Alloc.own s hp) (.lst rfl upd_same (d1.cut lo hi))⟩
  · rename_i xs
    obtain ⟨a, us, rfl, h1, d1⟩ := hv.rol1 s
    exact .inl ⟨a, us, rfl, h1, fun p hp => hq _ _ _ _ _ h (Alloc.own s hp) (.lst rfl upd_same (d1.cut lo hi))⟩
end
section
variable {X : Cx} {pm : List Bool} {e l u : Expr} {oe ol ou : WO} {pos p2 : Pos}
theorem po_z (h : ZO X pm l ol) : PO X (some l) (tPart (TOz X pm ol)) := po_some h
/-- the parts of a slice -/
def TPz (X : Cx) (pm : List Bool) : Option WO → TO
  | none => tNoPart
  | some o => tPart (TOz X pm o)
theorem ze_sl {lo hi : Option Expr} {wl wh : Option WO} (he : ZO X pm e oe) (hl : PO X lo (TPz X pm wl)) (hh : PO X hi (TPz X pm wh)) : ZE X pm (.Subscript e (.Slice lo hi none p2) pos) (wSl gSl oe wl wh) :=
  pe_imp (pe_slice slr_all he hl hh) fun σ H Q ⟨pv, F, B, env, P, m, rel, hw, hq⟩ => by
    refine ⟨pv, F, B, env, _, m, rel, hw, fun a e1 h1 F1 H1 B1 v s1 r1 i1 => ?_⟩
    have fin : ∀ (lo hi : Option Int) (e3 : Ev) (F3 H3 : Hp) (B3 : Nat → Rg), Step F H (U B) F3 H3 (U B3) → Rel X.K pv F3 H3 σ e3 B3 → Same F1 F3 → (match rs e3 a with | some x => gSl x lo hi fun z => P z e3 | none => False) → rSlAll X.K v lo hi H3 Q := fun lo hi e3 F3 H3 B3 s3 r3 le h3 => by
      cases q : rs e3 a with
      | none => rw [q] at h3; exact h3.elim
      | some x =>
        rw [q] at h3
        refine sl_run r3.sub (r3.pk (i1.mono le) q) h3 fun z w' F4 H4 R4 hz al it => ?_
        obtain ⟨r4, s4, d4⟩ := r3.alloc al
        exact hq z e3 hz F4 H4 B3 R4 w' (s3.trans s4) r4 (r3.own al it)
    have snd : ∀ (lo : Option Int) (e2 : Ev) (F2 H2 : Hp) (B2 : Nat → Rg), Step F H (U B) F2 H2 (U B2) → Rel X.K pv F2 H2 σ e2 B2 → Same F1 F2 →
        ((match wh with | none => fun (k : Option Int → Ev → Prop) => k none e2 | some o => fun k => o e2 fun b e3 => match rs e3 b with | some (.int i) => k (some i) e3 | _ => False) fun hi e3 => match rs e3 a with | some x => gSl x lo hi fun z => P z e3 | none => False) →
        TPz X pm wh σ H2 fun hi H3 => rSlAll X.K v lo hi H3 Q := fun lo e2 F2 H2 B2 s2 r2 le h2 => by
      cases wh with
      | none => exact fin lo none e2 F2 H2 B2 s2 r2 le h2
      | some o =>
        refine ⟨pv, F2, B2, e2, _, m, r2, h2, fun b e3 h3 F3 H3 B3 u s3 r3 i3 => ?_⟩
        have h3 : (match rs e3 b with | some (.int i) => (match rs e3 a with | some x => gSl x lo (some i) fun z => P z e3 | none => False) | _ => False) := h3
        cases q : rs e3 b with
        | none => rw [q] at h3; exact h3.elim
        | some y =>
          rw [q] at h3
          cases y <;> first
            | exact h3.elim
            | skip
          rename_i i
          exact ⟨i, (r3.pk i3 q).int, fin lo (some i) e3 F3 H3 B3 (s2.trans s3) r3 (le.trans s3.le) h3⟩
    cases wl with
    | none => exact snd none e1 F1 H1 B1 s1 r1 (Same.refl _) h1
    | some o =>
      refine ⟨pv, F1, B1, e1, _, m, r1, h1, fun b e2 h2 F2 H2 B2 u s2 r2 i2 => ?_⟩
      cases q : rs e2 b with
      | none => simp only [q] at h2
      | some y =>
        simp only [q] at h2
        cases y <;> first
          | exact h2.elim
          | skip
        rename_i i
        exact ⟨i, (r2.pk i2 q).int, snd (some i) e2 F2 H2 B2 (s1.trans s2) r2 s2.le h2⟩
end
end Zl

namespace Zl
open PySem PySem.Spec PyProof.Rows L2

theorem IsDs.isEmpty {K : PySem.W.Frag} {F : Hp} {vs : List V} {ds : List D} (h : IsDs K F vs ds) : vs.isEmpty = ds.isEmpty := by cases h <;> rfl
/-! ### tests -/
def wB (w : WE) : WT := fun env P => w env fun t e => match t with
  | .fz (.bl b) => P b e
  | _ => False
def wNot (c : WT) : WT := fun env P => c env fun b e => P (!b) e
def wAnd (a b : WT) : WT := fun env P => a env fun k e => (k = true → b e P) ∧ (k = false → P false e)
def wOr (a b : WT) : WT := fun env P => a env fun k e => (k = true → P true e) ∧ (k = false → b e P)
def wAndV (a b : WE) : WE := fun env P => wB a env fun k e => (k = true → b e P) ∧ (k = false → P (.fz (.bl false)) e)
def wOrV (a b : WE) : WE := fun env P => wB a env fun k e => (k = true → P (.fz (.bl true)) e) ∧ (k = false → b e P)
def wNotV (a : WE) : WE := fun env P => wB a env fun k e => P (.fz (.bl (!k))) e
def wIfE (c : WT) (a b : WE) : WE := fun env P => c env fun k e => (k = true → a e P) ∧ (k = false → b e P)
def wChain (g g' : D → D → (T → Prop) → Prop) (oa ob oc : WO) : WE := fun env P => oa env fun a e1 => ob e1 fun b e2 => match rs e2 a, rs e2 b with
  | some x, some y => g x y fun z => match z with
    | .fz (.bl k) => (k = true → oc e2 fun c e3 => match rs e3 b, rs e3 c with
        | some y', some z' => g' y' z' fun u => P u e3
        | _, _ => False) ∧ (k = false → P (.fz (.bl false)) e2)
    | _ => False
  | _, _ => False
/-- truth of any value -/
def gTru (d : D) (k : Bool → Prop) : Prop := match d with
  | .non => k false
  | .bl b => k b
  | .int i => k (i != 0)
  | .str y => y.length ≤ sizeLine ∧ k ((y.length : Int) != 0)
  | .lst xs => k (!xs.isEmpty)
  | .rol xs => k (!xs.isEmpty)
  | .tup xs => k (!xs.isEmpty)
  | _ => False
def wTru (o : WO) : WT := fun env P => o env fun a e => match rs e a with
  | some d => gTru d fun b => P b e
  | none => False
section
variable {X : Cx} {pm : List Bool} {a b c e : Expr} {w wa wb : WE} {ta tb tc : WT} {oa ob oc : WO} {pos : Pos} {rest : List Expr}
/-- a value that is a bool, as the reading asks it -/
theorem tz_wB {σ H} {Q : Bool → Hp → Prop} : TTz X pm (wB w) σ H Q → TZ X pm w σ H fun x H1 => ∃ k, x = .bl k ∧ Q k H1 := fun ⟨pv, F, B, env, P, m, rel, hw, hq⟩ =>
  ⟨pv, F, B, env, _, m, rel, hw, fun t e1 h1 F1 H1 B1 R1 v s1 r1 o1 => by
    cases t with
    | fz d =>
      cases d <;> first
        | exact h1.elim
        | skip
      rename_i k
      cases o1.is with
      | fz q =>
        cases q
        exact ⟨k, rfl, hq k e1 h1 F1 H1 B1 s1.l r1⟩
    | lst _ => exact h1.elim
    | ins _ _ => exact h1.elim
    | map _ _ _ => exact h1.elim
    | hole _ => exact h1.elim
    | at_ _ _ => exact h1.elim⟩
theorem zt_val (h : ZE X pm e w) (hw : ∀ whole : Sem Value, PySem.isTrue e X.env whole = (do
    let v ← whole
    standAt e.pos
    holding [v] (truthy v)) := by intro _; rfl) : ZT X pm e (wB w) := pt_imp (pt_val h hw) fun _ _ _ => tz_wB
theorem zt_cmp {op : CmpOp} {r : R2} {g} (hr : OpR X (compareOp op) r) (O : Op2 X.K r g) (ha : ZO X pm a oa) (hb : ZO X pm b ob) (hm : behindInMarks op b = false) : ZT X pm (.Compare a [op] [b] pos) (wB (wOp2 g oa ob)) :=
  pt_imp (pt_cmpR hr ha hb hm) fun σ H Q h => by
    have h2 := tz_wB h
    exact tz_op2 O h2
theorem tz_chain {r r' : R2} {g g'} (O : Op2 X.K r g) (O' : Op2 X.K r' g') {σ H Q} : TZ X pm (wChain g g' oa ob oc) σ H Q → tChain r r' (TOz X pm oa) (TOz X pm ob) (TOz X pm oc) σ H Q := fun ⟨pv, F, B, env, P, m, rel, hw, hq⟩ => by
  refine ⟨pv, F, B, env, _, m, rel, hw, fun a e1 h1 F1 H1 B1 v s1 r1 i1 => ⟨pv, F1, B1, e1, _, m, r1, h1, fun b e2 h2 F2 H2 B2 u s2 r2 i2 => ?_⟩⟩
  cases qa : rs e2 a with
  | none => simp only [qa] at h2
  | some x =>
    cases qb : rs e2 b with
    | none => simp only [qa, qb] at h2
    | some y =>
      simp only [qa, qb] at h2
      refine O.run F2 H2 v u x y _ _ r2.sub (r2.pk (i1.mono s2.le) qa) (r2.pk i2 qb) h2 fun z w' F3 H3 R3 hz al it => ?_
      obtain ⟨r3, s3, d3⟩ := r2.alloc al
      cases z with
      | lst _ => exact hz.elim
      | ins _ _ => exact hz.elim
      | map _ _ _ => exact hz.elim
      | hole _ => exact hz.elim
      | at_ _ _ => exact hz.elim
      | fz d =>
        cases d <;> first
          | exact hz.elim
          | skip
        rename_i k
        cases it with
        | fz q =>
          cases q
          refine ⟨k, rfl, ?_⟩
          cases k with
          | false =>
            refine iteF ?_
            exact hq _ _ (hz.2 rfl) F3 H3 B2 Rg0 _ (((s1.trans s2).trans s3).l.r0) r3 (OwnV.fz (.bl _))
          | true =>
            refine iteT ?_
            refine ⟨pv, F3, B2, e2, _, m, r3, hz.1 rfl, fun c e3 h3 F4 H4 B4 x' s4 r4 i4 => ?_⟩
            cases qy : rs e3 b with
            | none => simp only [qy] at h3
            | some y' =>
              cases qc : rs e3 c with
              | none => simp only [qy, qc] at h3
              | some z' =>
                simp only [qy, qc] at h3
                refine O'.run F4 H4 u x' y' z' _ _ r4.sub (r4.pk (i2.mono (s3.le.trans s4.le)) qy) (r4.pk i4 qc) h3 fun z2 w2 F5 H5 R5 hz2 al2 it2 => ?_
                obtain ⟨r5, s5, d5⟩ := r4.alloc al2
                exact hq _ _ hz2 F5 H5 B4 R5 w2 ((((s1.trans s2).trans s3.l).trans s4).trans s5) r5 (r4.own al2 it2)
theorem ze_chain {op op' : CmpOp} {r r' : R2} {g g'} (hr : OpR X (compareOp op) r) (hr' : OpR X (compareOp op') r') (O : Op2 X.K r g) (O' : Op2 X.K r' g') (ha : ZO X pm a oa) (hb : ZO X pm b ob) (hc : ZO X pm c oc)
    (hm : lastMarks [op, op'] [b, c] = false := by with_unfolding_all rfl) : ZE X pm (.Compare a [op, op'] [b, c] pos) (wChain g g' oa ob oc) := pe_imp (pe_chain hr hr' ha hb hc hm) fun _ _ _ => tz_chain O O'
theorem zt_chain {op op' : CmpOp} {r r' : R2} {g g'} (hr : OpR X (compareOp op) r) (hr' : OpR X (compareOp op') r') (O : Op2 X.K r g) (O' : Op2 X.K r' g') (ha : ZO X pm a oa) (hb : ZO X pm b ob) (hc : ZO X pm c oc)
    (hm : lastMarks [op, op'] [b, c] = false := by with_unfolding_all rfl) : ZT X pm (.Compare a [op, op'] [b, c] pos) (wB (wChain g g' oa ob oc)) := pt_imp (pt_chain hr hr' ha hb hc hm) fun σ H Q h => by
  have h2 := tz_wB h
  exact tz_chain O O' h2
theorem zt_not (h : ZT X pm a ta) : ZT X pm (.UnaryOp .Not a pos) (wNot ta) := pt_imp (pt_not h) fun σ H Q ⟨pv, F, B, env, P, m, rel, hw, hq⟩ => ⟨pv, F, B, env, _, m, rel, hw, fun b e1 h1 F1 H1 B1 s1 r1 => hq _ _ h1 F1 H1 B1 s1 r1⟩
abbrev ZW (X : Cx) (pm : List Bool) (e : Expr) (w : WT) : Prop := PW X e (TTz X pm w)
theorem zw_and (h : ZT X pm a ta) (h2 : ZW X pm (.BoolOp .And (b :: rest) pos) tb) : ZW X pm (.BoolOp .And (a :: b :: rest) pos) (wAnd ta tb) := pw_imp (pw_and h h2) fun σ H Q ⟨pv, F, B, env, P, m, rel, hw, hq⟩ =>
  ⟨pv, F, B, env, _, m, rel, hw, fun k e1 h1 F1 H1 B1 s1 r1 => by
    cases k with
    | true => exact iteT ⟨pv, F1, B1, e1, _, m, r1, h1.1 rfl, fun k e2 h2 F2 H2 B2 s2 r2 => hq _ _ h2 F2 H2 B2 (s1.trans s2) r2⟩
    | false => exact iteF (hq _ _ (h1.2 rfl) F1 H1 B1 s1 r1)⟩
theorem zw_or (h : ZT X pm a ta) (h2 : ZW X pm (.BoolOp .Or (b :: rest) pos) tb) : ZW X pm (.BoolOp .Or (a :: b :: rest) pos) (wOr ta tb) := pw_imp (pw_or h h2) fun σ H Q ⟨pv, F, B, env, P, m, rel, hw, hq⟩ =>
  ⟨pv, F, B, env, _, m, rel, hw, fun k e1 h1 F1 H1 B1 s1 r1 => by
    cases k with
    | true => exact iteT (hq _ _ (h1.1 rfl) F1 H1 B1 s1 r1)
    | false => exact iteF ⟨pv, F1, B1, e1, _, m, r1, h1.2 rfl, fun k e2 h2 F2 H2 B2 s2 r2 => hq _ _ h2 F2 H2 B2 (s1.trans s2) r2⟩⟩
theorem zw_and1 (h : ZT X pm a ta) : ZW X pm (.BoolOp .And [a] pos) ta := pw_and1 h
theorem zw_or1 (h : ZT X pm a ta) : ZW X pm (.BoolOp .Or [a] pos) ta := pw_or1 h
theorem zt_w (h : ZW X pm e ta) : ZT X pm e ta := h.pt
theorem zt_tru (h : ZO X pm a oa) (hw : ∀ whole : Sem Value, PySem.isTrue a X.env whole = (do
    let v ← whole
    standAt a.pos
    holding [v] (truthy v)) := by intro _; rfl) : ZT X pm a (wTru oa) := pt_imp (pt_truth h hw) fun σ H Q ⟨pv, F, B, env, P, m, rel, hw, hq⟩ =>
  ⟨pv, F, B, env, _, m, rel, hw, fun i e1 h1 F1 H1 B1 v s1 r1 i1 => by
    cases q : rs e1 i with
    | none => simp only [q] at h1
    | some d =>
      simp only [q] at h1
      have k1 := r1.pk i1 q
      have s := r1.sub
      cases d <;> first
        | exact h1.elim
        | skip
      · exact ⟨false, by rw [k1.non]; rfl, hq _ _ h1 F1 H1 B1 s1 r1⟩
      · exact ⟨_, by rw [k1.bl]; rfl, hq _ _ h1 F1 H1 B1 s1 r1⟩
      · exact ⟨_, by rw [k1.int]; rfl, hq _ _ h1 F1 H1 B1 s1 r1⟩
      · exact ⟨_, by rw [k1.str]; exact ⟨h1.1, rfl⟩, hq _ _ h1.2 F1 H1 B1 s1 r1⟩
      · obtain ⟨p, vs, rfl, hq1, hd⟩ := k1.tup1 s
        refine ⟨_, .inr (.inl ⟨vs, hq1, rfl⟩), ?_⟩
        rw [hd.isEmpty]
        exact hq _ _ h1 F1 H1 B1 s1 r1
      · obtain ⟨p, vs, rfl, hq1, hd⟩ := k1.lst1 s
        refine ⟨_, .inl ⟨vs, SqL.of hq1, rfl⟩, ?_⟩
        rw [hd.isEmpty]
        exact hq _ _ h1 F1 H1 B1 s1 r1
      · obtain ⟨p, vs, rfl, hq1, hd⟩ := k1.rol1 s
        refine ⟨_, .inl ⟨vs, hq1, rfl⟩, ?_⟩
        rw [hd.isEmpty]
        exact hq _ _ h1 F1 H1 B1 s1 r1⟩
/-- and, or, not as values -/
theorem ze_one {op} (h : ZE X pm a w) : ZE X pm (.BoolOp op [a] pos) w := pe_one h
theorem ze_and (h : ZE X pm a wa) (h2 : ZE X pm (.BoolOp .And (b :: rest) pos) wb) : ZE X pm (.BoolOp .And (a :: b :: rest) pos) (wAndV wa wb) := pe_imp (pe_and h h2) fun σ H Q ⟨pv, F, B, env, P, m, rel, hw, hq⟩ => by
  refine tz_wB ⟨pv, F, B, env, _, m, rel, hw, fun k e1 h1 F1 H1 B1 s1 r1 => ?_⟩
  cases k with
  | true => exact iteT ⟨pv, F1, B1, e1, _, m, r1, h1.1 rfl, fun t e2 h2 F2 H2 B2 R2 v s2 r2 o2 => hq _ _ h2 F2 H2 B2 R2 v (s1.trans s2) r2 o2⟩
  | false => exact iteF (hq _ _ (h1.2 rfl) F1 H1 B1 Rg0 _ s1.r0 r1 (OwnV.fz (.bl _)))
theorem ze_or (h : ZE X pm a wa) (h2 : ZE X pm (.BoolOp .Or (b :: rest) pos) wb) : ZE X pm (.BoolOp .Or (a :: b :: rest) pos) (wOrV wa wb) := pe_imp (pe_or h h2) fun σ H Q ⟨pv, F, B, env, P, m, rel, hw, hq⟩ => by
  refine tz_wB ⟨pv, F, B, env, _, m, rel, hw, fun k e1 h1 F1 H1 B1 s1 r1 => ?_⟩
  cases k with
  | true => exact iteT (hq _ _ (h1.1 rfl) F1 H1 B1 Rg0 _ s1.r0 r1 (OwnV.fz (.bl _)))
  | false => exact iteF ⟨pv, F1, B1, e1, _, m, r1, h1.2 rfl, fun t e2 h2 F2 H2 B2 R2 v s2 r2 o2 => hq _ _ h2 F2 H2 B2 R2 v (s1.trans s2) r2 o2⟩
theorem ze_not (h : ZE X pm a wa) : ZE X pm (.UnaryOp .Not a pos) (wNotV wa) := pe_imp (pe_not h) fun σ H Q ⟨pv, F, B, env, P, m, rel, hw, hq⟩ =>
  tz_wB ⟨pv, F, B, env, _, m, rel, hw, fun k e1 h1 F1 H1 B1 s1 r1 => hq _ _ h1 F1 H1 B1 Rg0 _ s1.r0 r1 (OwnV.fz (.bl _))⟩
theorem ze_if (hc : ZT X pm c tc) (h : ZE X pm a wa) (h2 : ZE X pm b wb) : ZE X pm (.IfExp c a b pos) (wIfE tc wa wb) := pe_imp (pe_ifExp hc h h2) fun σ H Q ⟨pv, F, B, env, P, m, rel, hw, hq⟩ =>
  ⟨pv, F, B, env, _, m, rel, hw, fun k e1 h1 F1 H1 B1 s1 r1 => by
    cases k with
    | true => exact iteT ⟨pv, F1, B1, e1, _, m, r1, h1.1 rfl, fun t e2 h2 F2 H2 B2 R2 v s2 r2 o2 => hq _ _ h2 F2 H2 B2 R2 v (s1.trans s2) r2 o2⟩
    | false => exact iteF ⟨pv, F1, B1, e1, _, m, r1, h1.2 rfl, fun t e2 h2 F2 H2 B2 R2 v s2 r2 o2 => hq _ _ h2 F2 H2 B2 R2 v (s1.trans s2) r2 o2⟩⟩
end

/-! ### statements -/
structure DE where
  nx : Ev → Prop
  rt : T → Ev → Prop
  bk : Ev → Prop := fun _ => False
  ct : Ev → Prop := fun _ => False
abbrev WS := DE → Ev → Prop
/-- what follows, over data, is what follows -/
structure Cn (K : PySem.W.Frag) (pv : List (Option V)) (F H : Hp) (R : Rg) (E : DE) (D : Ends) : Prop where
  nx : ∀ env' F' H' σ' B', E.nx env' → Step F H R F' H' (U B') → Rel K pv F' H' σ' env' B' → D.nx σ' H'
  rt : ∀ t env' F' H' σ' B' R' v, E.rt t env' → Step F H R F' H' (Ru (U B') R') → Rel K pv F' H' σ' env' B' → OwnV K F' H' B' R' v t → D.rt v H'
  bk : ∀ env' F' H' σ' B', E.bk env' → Step F H R F' H' (U B') → Rel K pv F' H' σ' env' B' → D.bk σ' H'
  ct : ∀ env' F' H' σ' B', E.ct env' → Step F H R F' H' (U B') → Rel K pv F' H' σ' env' B' → D.ct σ' H'
theorem Cn.on {K : PySem.W.Frag} {pv : List (Option V)} {F H F1 H1 : Hp} {R R1 : Rg} {E : DE} {D : Ends} (c : Cn K pv F H R E D) (s : Step F H R F1 H1 R1) : Cn K pv F1 H1 R1 E D :=
  ⟨fun e F' H' σ' B' h st r => c.nx e F' H' σ' B' h (s.trans st) r, fun t e F' H' σ' B' R' v h st r o => c.rt t e F' H' σ' B' R' v h (s.trans st) r o, fun e F' H' σ' B' h st r => c.bk e F' H' σ' B' h (s.trans st) r, fun e F' H' σ' B' h st r => c.ct e F' H' σ' B' h (s.trans st) r⟩
def TSz (X : Cx) (pm : List Bool) (w : WS) : TS := fun D σ H => ∃ pv F B env E, Mask pm pv ∧ Rel X.K pv F H σ env B ∧ w E env ∧ Cn X.K pv F H (U B) E D
abbrev ZS (X : Cx) (pm : List Bool) (s : Stmt) (w : WS) : Prop := PS X s (TSz X pm w)
abbrev ZSs (X : Cx) (pm : List Bool) (s : List Stmt) (w : WS) : Prop := PSs X s (TSz X pm w)
def wNil : WS := fun E env => E.nx env
def wSeq (a b : WS) : WS := fun E env => a { E with nx := fun e => b E e } env
def wBrk : WS := fun E env => E.bk env
def wCnt : WS := fun E env => E.ct env
def wDrop (w : WE) : WS := fun E env => w env fun _ e => E.nx e
def wRet (w : WE) : WS := fun E env => w env E.rt
def wRetN : WS := fun E env => E.rt (.fz .non) env
def wIf (c : WT) (a b : WS) : WS := fun E env => c env fun k e => (k = true → a E e) ∧ (k = false → b E e)
def wSet (i : Nat) (w : WE) : WS := fun E env => w env fun t e => E.nx (st e i t)
def wNever : WS := fun _ _ => False
section
variable {X : Cx} {pm : List Bool} {s : Stmt} {rest : List Stmt} {e c : Expr} {w : WE} {wa wb : WS} {tc : WT} {pos : Pos}
theorem ps_imp {t t' : TS} (h : PS X s t) (i : ∀ D σ H, t' D σ H → t D σ H) : PS X s t' := ⟨fun p s σ H D I q => h.run p s σ H D I (i _ _ _ q)⟩
theorem pss_imp {t t' : TS} (h : PSs X rest t) (i : ∀ D σ H, t' D σ H → t D σ H) : PSs X rest t' := ⟨fun p s σ H D I q => h.run p s σ H D I (i _ _ _ q)⟩
theorem zss_nil : ZSs X pm [] wNil := pss_imp pss_nil fun D σ H ⟨pv, F, B, env, E, m, rel, hw, cn⟩ => cn.nx env F H σ B hw .refl rel
theorem zss_cons (h : ZS X pm s wa) (h2 : ZSs X pm rest wb) : ZSs X pm (s :: rest) (wSeq wa wb) := pss_imp (pss_cons h h2) fun D σ H ⟨pv, F, B, env, E, m, rel, hw, cn⟩ =>
  ⟨pv, F, B, env, { E with nx := fun e => wb E e }, m, rel, hw, ⟨fun e F' H' σ' B' h st r => ⟨pv, F', B', e, E, m, r, h, cn.on st⟩, cn.rt, cn.bk, cn.ct⟩⟩
theorem zss_one (h : ZS X pm s wa) : ZSs X pm [s] wa := pss_one h
theorem zs_pass : ZS X pm (.Pass pos) wNil := ps_imp ps_pass fun D σ H ⟨pv, F, B, env, E, m, rel, hw, cn⟩ => cn.nx env F H σ B hw .refl rel
theorem zs_break : ZS X pm (.Break pos) wBrk := ps_imp ps_break fun D σ H ⟨pv, F, B, env, E, m, rel, hw, cn⟩ => cn.bk env F H σ B hw .refl rel
theorem zs_continue : ZS X pm (.Continue pos) wCnt := ps_imp ps_continue fun D σ H ⟨pv, F, B, env, E, m, rel, hw, cn⟩ => cn.ct env F H σ B hw .refl rel
theorem zs_never : ZS X pm s wNever := ps_imp ps_never fun D σ H ⟨pv, F, B, env, E, m, rel, hw, cn⟩ => hw
theorem zs_expr (h : ZE X pm e w) (hs : swapsWith e none pos.line X.env = pure false := by rfl) : ZS X pm (.Expr e pos) (wDrop w) := ps_imp (ps_expr h hs) fun D σ H ⟨pv, F, B, env, E, m, rel, hw, cn⟩ =>
  ⟨pv, F, B, env, _, m, rel, hw, fun t e1 h1 F1 H1 B1 R1 v s1 r1 o1 => cn.nx e1 F1 H1 σ B1 h1 s1.l r1⟩
theorem zs_ret (h : ZE X pm e w) : ZS X pm (.Return (some e) pos) (wRet w) := ps_imp (ps_ret h) fun D σ H ⟨pv, F, B, env, E, m, rel, hw, cn⟩ =>
  ⟨pv, F, B, env, _, m, rel, hw, fun t e1 h1 F1 H1 B1 R1 v s1 r1 o1 => cn.rt t e1 F1 H1 σ B1 R1 v h1 s1 r1 o1⟩
theorem zs_retN : ZS X pm (.Return none pos) wRetN := ps_imp ps_retN fun D σ H ⟨pv, F, B, env, E, m, rel, hw, cn⟩ => cn.rt _ env F H σ B Rg0 .non hw Step.refl.r0 rel (OwnV.fz .non)
theorem zs_if {a b : List Stmt} (hc : ZT X pm c tc) (ha : ZSs X pm a wa) (hb : ZSs X pm b wb) : ZS X pm (.If c a b pos) (wIf tc wa wb) := ps_imp (ps_if hc ha hb) fun D σ H ⟨pv, F, B, env, E, m, rel, hw, cn⟩ =>
  ⟨pv, F, B, env, _, m, rel, hw, fun k e1 h1 F1 H1 B1 s1 r1 => by
    cases k with
    | true => exact iteT ⟨pv, F1, B1, e1, E, m, r1, h1.1 rfl, cn.on s1⟩
    | false => exact iteF ⟨pv, F1, B1, e1, E, m, r1, h1.2 rfl, cn.on s1⟩⟩
/-- a value beside the frame is stored at a name that is not kept -/
theorem Rel.store {K : PySem.W.Frag} {pv : List (Option V)} {F H : Hp} {σ : L2.St} {env : Ev} {B : Nat → Rg} {R : Rg} {v : V} {t : T} {i : Nat} (r : Rel K pv F H σ env B) (o : OwnV K F H B R v t) (m : Mask pm pv) (hi : pm[i]? ≠ some true) :
    ∃ B', Rel K pv F H (σ.set i (some v)) (st env i t) B' ∧ ∀ a, U B' a → Ru (U B) R a := by
  by_cases h : i < σ.length
  · exact ⟨_, r.put o (fun u hu => absurd ((m i).2 ⟨u, hu⟩) hi) h⟩
  · refine ⟨B, ?_, U_l⟩
    have e1 : σ.set i (some v) = σ := List.set_eq_of_length_le (by omega)
    have e2 : st env i t = env := by rw [st_eq]; exact List.set_eq_of_length_le (by rw [← r.len]; omega)
    rw [e1, e2]
    exact r
theorem zs_set {i : Nat} {x : Str} {pos' : Pos} (hN : X.N.Nodup) (hi : X.N[i]? = some x) (hx : L2.Loc X.env.scope x) (hm : pm[i]? ≠ some true) (he : ZE X pm e w) (hs : swapsWith e (some (.Name x pos')) pos.line X.env = pure false := by rfl) (hf : X.fn x = true ∨ X.env.scope.names.lookup x = some .local := by first | exact .inl rfl | exact .inr rfl | assumption) :
    ZS X pm (.Assign [.Name x pos'] e pos) (wSet i w) := ps_imp (ps_set hN hi hx he hs hf) fun D σ H ⟨pv, F, B, env, E, m, rel, hw, cn⟩ =>
  ⟨pv, F, B, env, _, m, rel, hw, fun t e1 h1 F1 H1 B1 R1 v s1 r1 o1 => by
    obtain ⟨B2, r2, s2⟩ := r1.store o1 m hm
    exact cn.nx _ F1 H1 _ B2 h1 (s1.less s2) r2⟩
end

/-! ### targets -/
abbrev WG := D → Ev → (Ev → Prop) → Prop
abbrev WGs := List D → Ev → (Ev → Prop) → Prop
/-- at most these slots were written -/
def Wr (ws : List Nat) (σ σ' : L2.St) : Prop := σ'.length = σ.length ∧ ∀ i : Nat, i ∉ ws → σ'[i]? = σ[i]?
def TGz (X : Cx) (pm : List Bool) (ws : List Nat) (w : WG) : TG := fun v σ H Q => ∃ pv F B env d P, Mask pm pv ∧ Rel X.K pv F H σ env B ∧ IsD X.K F v d ∧ w d env P ∧ ∀ env', P env' → ∀ F' H' σ' B', Wr ws σ σ' → Step F H (U B) F' H' (U B') → Rel X.K pv F' H' σ' env' B' → Q σ' H'
def TGsz (X : Cx) (pm : List Bool) (ws : List Nat) (w : WGs) : TGs := fun vs σ H Q => ∃ pv F B env ds P, Mask pm pv ∧ Rel X.K pv F H σ env B ∧ IsDs X.K F vs ds ∧ w ds env P ∧ ∀ env', P env' → ∀ F' H' σ' B', Wr ws σ σ' → Step F H (U B) F' H' (U B') → Rel X.K pv F' H' σ' env' B' → Q σ' H'
abbrev ZG (X : Cx) (pm : List Bool) (e : Expr) (ws : List Nat) (w : WG) : Prop := PG X e (TGz X pm ws w)
abbrev ZGs (X : Cx) (pm : List Bool) (es : List Expr) (ws : List Nat) (w : WGs) : Prop := PGs X es (TGsz X pm ws w)
def zgName (i : Nat) : WG := fun d env P => P (st env i (.fz d))
def zgTup (w : WGs) : WG := fun d env P => match d with
  | .tup ds => w ds env P
  | _ => False
def zgNil : WGs := fun ds env P => match ds with
  | [] => P env
  | _ => False
def zgCons (w : WG) (ws : WGs) : WGs := fun ds env P => match ds with
  | d :: r => w d env fun e => ws r e P
  | [] => False
def wAsg (w : WE) (g : WG) : WS := fun E env => w env fun t e => g t.fr e E.nx
section
variable {X : Cx} {pm : List Bool} {e : Expr} {es : List Expr} {w : WE} {g : WG} {gs : WGs} {pos : Pos}
theorem pg_imp {t t' : TG} (h : PG X e t) (i : ∀ v σ H Q, t' v σ H Q → t v σ H Q) : PG X e t' := ⟨fun p s σ H v u Q I r q => h.run p s σ H v u Q I r (i _ _ _ _ q)⟩
theorem pgs_imp {t t' : TGs} (h : PGs X es t) (i : ∀ v σ H Q, t' v σ H Q → t v σ H Q) : PGs X es t' := ⟨fun p s σ H v u Q I r q => h.run p s σ H v u Q I r (i _ _ _ _ q)⟩
theorem zg_name {i : Nat} {x : Str} (hN : X.N.Nodup) (hi : X.N[i]? = some x) (hx : L2.Loc X.env.scope x) (hm : pm[i]? ≠ some true) (hf : X.fn x = true ∨ X.env.scope.names.lookup x = some .local := by first | exact .inl rfl | exact .inr rfl | assumption) : ZG X pm (.Name x pos) [i] (zgName i) :=
  pg_imp (pg_name hN hi hx hf) fun v σ H Q ⟨pv, F, B, env, d, P, m, rel, hd, hw, hq⟩ => by
    obtain ⟨B2, r2, s2⟩ := rel.store (OwnV.fz hd) m hm
    exact hq _ hw F H _ B2 ⟨List.length_set, fun j hj => List.getElem?_set_ne fun z => hj (by rw [z]; exact List.mem_singleton_self _)⟩ ((Step.refl (R := U B)).less fun a z => (s2 a z).elim id False.elim) r2
theorem zgs_nil : ZGs X pm [] [] zgNil := pgs_imp pgs_nil fun vs σ H Q ⟨pv, F, B, env, ds, P, m, rel, hd, hw, hq⟩ => by
  cases hd with
  | nil => exact ⟨rfl, hq _ hw F H σ B ⟨rfl, fun _ _ => rfl⟩ .refl rel⟩
  | cons _ _ => exact hw.elim
theorem zgs_cons {ws1 ws2 : List Nat} (h : ZG X pm e ws1 g) (h2 : ZGs X pm es ws2 gs) (hs : (assignEach (e :: es) X.env).map (·.2) = assign e X.env :: (assignEach es X.env).map (·.2) := by rfl) : ZGs X pm (e :: es) (ws1 ++ ws2) (zgCons g gs) :=
  pgs_imp (pgs_cons h h2 hs) fun vs σ H Q ⟨pv, F, B, env, ds, P, m, rel, hd, hw, hq⟩ => by
    cases hd with
    | nil => exact hw.elim
    | cons hd hr =>
      exact ⟨_, _, rfl, pv, F, B, env, _, _, m, rel, hd, hw, fun e1 h1 F1 H1 σ1 B1 w1 s1 r1 => ⟨pv, F1, B1, e1, _, _, m, r1, hr.mono s1.le, h1, fun e2 h2 F2 H2 σ2 B2 w2 s2 r2 => hq _ h2 F2 H2 σ2 B2 ⟨w2.1.trans w1.1, fun i hi => (w2.2 i fun z => hi (List.mem_append_right _ z)).trans (w1.2 i fun z => hi (List.mem_append_left _ z))⟩ (s1.trans s2) r2⟩⟩
theorem zg_tup {n : Nat} {k : Nat} {ws : List Nat} (hc : X.calm = true) (h : ZGs X pm es ws gs) (hl : ∀ ds env P, gs ds env P → ds.length = n)
    (hn : (assignEach es X.env).length = n := by rfl) (hst : (assignEach es X.env).findIdx? (·.1) = none := by rfl) : ZG X pm (.Tuple es k pos) ws (zgTup gs) :=
  pg_imp (pg_tup hc h hn hst) fun v σ H Q ⟨pv, F, B, env, d, P, m, rel, hd, hw, hq⟩ => by
    cases d <;> first
      | exact hw.elim
      | skip
    rename_i ds
    obtain ⟨a, vs, rfl, hq1, hr⟩ := Pk.tup1 (H := F) (Same.refl _) (.d hd)
    have hw : gs ds env P := hw
    exact ⟨a, vs, rfl, Same.sqT rel.sub hq1, by rw [hr.length]; exact hl _ _ _ hw, pv, F, B, env, ds, P, m, rel, hr, hw, hq⟩
theorem zgNil_len {ds env P} (h : zgNil ds env P) : ds.length = 0 := by
  cases ds with
  | nil => rfl
  | cons _ _ => exact h.elim
theorem zgCons_len {ds env P} {n : Nat} (hl : ∀ ds env P, gs ds env P → ds.length = n) (hg : ∀ d env (P P' : Ev → Prop), g d env P → (∀ e, P e → P' e) → g d env P') (hx : ∀ d env (P : Prop), g d env (fun _ => P) → P) (h : zgCons g gs ds env P) : ds.length = n + 1 := by
  cases ds with
  | nil => exact h.elim
  | cons d r => exact congrArg (· + 1) (hx d env (r.length = n) (hg d env _ _ h fun e q => hl _ _ _ q))
theorem zs_asg {tg : Expr} {ws : List Nat} (he : ZE X pm e w) (hg : ZG X pm tg ws g) (hs : swapsWithSole [tg] e pos.line X.env = pure false := by rfl) (hw : swappedStores [tg] e X.env = pure none := by rfl)
    (h1 : (assignEach [tg] X.env).map (·.2) = [assign tg X.env] := by rfl) : ZS X pm (.Assign [tg] e pos) (wAsg w g) := ps_imp (ps_asg he hg hs hw h1) fun D σ H ⟨pv, F, B, env, E, m, rel, hw, cn⟩ =>
  ⟨pv, F, B, env, _, m, rel, hw, fun t e1 h1 F1 H1 B1 R1 v s1 r1 o1 => by
    obtain ⟨F2, r2, s2, d2⟩ := r1.freezeV o1
    exact ⟨pv, F2, B1, e1, t.fr, E.nx, m, r2, d2, h1, fun e2 h2 F3 H3 σ3 B3 _ s3 r3 => cn.nx e2 F3 H3 σ3 B3 h2 ((s1.trans s2).trans s3) r3⟩⟩
end

/-! ### x op= e -/
def wAug (i : Nat) (g : D → D → (T → Prop) → Prop) (o : WO) : WS := fun E env => match gt env i with
  | some (.fz d) => o env fun a e1 => match rs e1 a with
    | some y => g d y fun z => E.nx (st e1 i z)
    | none => False
  | _ => False
section
variable {X : Cx} {pm : List Bool} {e : Expr} {o : WO} {pos : Pos}
theorem zs_aug {i : Nat} {x : Str} {pos' : Pos} {op : Operator} {r : R2} {g} (hN : X.N.Nodup) (hi : X.N[i]? = some x) (hx : L2.Loc X.env.scope x) (hm : pm[i]? ≠ some true) (he : ZO X pm e o) (hr : PIp X op r) (O : Op2 X.K r g) (hf : X.fn x = true ∨ X.env.scope.names.lookup x = some .local := by first | exact .inl rfl | exact .inr rfl | assumption) :
    ZS X pm (.AugAssign (.Name x pos') op e pos) (wAug i g o) := ps_imp (ps_aug hN hi hx he hr hf) fun D σ H ⟨pv, F, B, env, E, m, rel, hw, cn⟩ => by
  have hw : (match gt env i with | some (.fz d) => o env fun a e1 => (match rs e1 a with | some y => g d y fun z => E.nx (st e1 i z) | none => False) | _ => False) := hw
  cases q : gt env i with
  | none => rw [q] at hw; exact hw.elim
  | some t =>
    rw [q] at hw
    cases t with
    | lst _ => exact hw.elim
    | ins _ _ => exact hw.elim
    | map _ _ _ => exact hw.elim
    | hole _ => exact hw.elim
    | at_ _ _ => exact hw.elim
    | fz d =>
      obtain ⟨v, e1, e2⟩ := rel.at_ i _ (gt_some q)
      cases e2 with
      | fz hd =>
        refine ⟨v, e1, pv, F, B, env, _, m, rel, hw, fun a e1 h1 F1 H1 B1 u s1 r1 i1 => ?_⟩
        cases qa : rs e1 a with
        | none => simp only [qa] at h1
        | some y =>
          simp only [qa] at h1
          refine O.run F1 H1 v u d y _ _ r1.sub (.d (hd.mono s1.le)) (r1.pk i1 qa) h1 fun z w' F2 H2 R2 hz al it => ?_
          obtain ⟨r2, s2, d2⟩ := r1.alloc al
          obtain ⟨B3, r3, s3⟩ := r2.store (r1.own al it) m hm
          exact cn.nx _ F2 H2 _ B3 hz ((s1.trans s2).less s3) r3
theorem ip_of {op : Operator} {r : R2} (h : OpR X (inplaceOp op) r) : PIp X op r := h
end

/-! ### a name that stays through a statement -/
def pinL : List Bool → Nat → List Bool
  | [], 0 => [true]
  | [], n + 1 => false :: pinL [] n
  | _ :: r, 0 => true :: r
  | b :: r, n + 1 => b :: pinL r n
def pinV : List (Option V) → Nat → V → List (Option V)
  | [], 0, v => [some v]
  | [], n + 1, v => none :: pinV [] n v
  | _ :: r, 0, v => some v :: r
  | b :: r, n + 1, v => b :: pinV r n v
theorem pinV_get : ∀ (l : List (Option V)) (j : Nat) (v : V) (i : Nat) (u : V), (pinV l j v)[i]? = some (some u) → (i = j ∧ u = v) ∨ (i ≠ j ∧ l[i]? = some (some u))
  | [], 0, v, 0, u, h => by cases h; exact .inl ⟨rfl, rfl⟩
  | [], 0, v, i + 1, u, h => by simp [pinV] at h
  | [], n + 1, v, 0, u, h => by simp [pinV] at h
  | [], n + 1, v, i + 1, u, h => by
    rcases pinV_get [] n v i u (by simpa [pinV] using h) with ⟨a, b⟩ | ⟨a, b⟩
    · exact .inl ⟨by omega, b⟩
    · simp at b
  | x :: r, 0, v, 0, u, h => by cases h; exact .inl ⟨rfl, rfl⟩
  | x :: r, 0, v, i + 1, u, h => .inr ⟨by omega, by simpa [pinV] using h⟩
  | x :: r, n + 1, v, 0, u, h => .inr ⟨by omega, by simpa [pinV] using h⟩
  | x :: r, n + 1, v, i + 1, u, h => by
    rcases pinV_get r n v i u (by simpa [pinV] using h) with ⟨a, b⟩ | ⟨a, b⟩
    · exact .inl ⟨by omega, b⟩
    · exact .inr ⟨by omega, by simpa using b⟩
theorem pinV_at : ∀ (l : List (Option V)) (j : Nat) (v : V), (pinV l j v)[j]? = some (some v)
  | [], 0, v => rfl
  | [], n + 1, v => by simpa [pinV] using pinV_at [] n v
  | x :: r, 0, v => rfl
  | x :: r, n + 1, v => by simpa [pinV] using pinV_at r n v
theorem pinV_ne : ∀ (l : List (Option V)) (j : Nat) (v : V) (i : Nat) (u : V), i ≠ j → l[i]? = some (some u) → (pinV l j v)[i]? = some (some u)
  | [], _, _, _, _, _, h => by simp at h
  | x :: r, 0, v, 0, u, n, h => absurd rfl n
  | x :: r, 0, v, i + 1, u, n, h => by simpa [pinV] using h
  | x :: r, j + 1, v, 0, u, n, h => by simpa [pinV] using h
  | x :: r, j + 1, v, i + 1, u, n, h => by simpa [pinV] using pinV_ne r j v i u (by omega) (by simpa using h)
theorem pinL_at : ∀ (l : List Bool) (j : Nat), (pinL l j)[j]? = some true
  | [], 0 => rfl
  | [], n + 1 => by simpa [pinL] using pinL_at [] n
  | x :: r, 0 => rfl
  | x :: r, n + 1 => by simpa [pinL] using pinL_at r n
theorem pinL_ne : ∀ (l : List Bool) (j i : Nat), l[i]? = some true → (pinL l j)[i]? = some true
  | [], _, _, h => by simp at h
  | x :: r, 0, 0, h => rfl
  | x :: r, 0, i + 1, h => by simpa [pinL] using h
  | x :: r, j + 1, 0, h => by simpa [pinL] using h
  | x :: r, j + 1, i + 1, h => by simpa [pinL] using pinL_ne r j i (by simpa using h)
theorem pinL_get : ∀ (l : List Bool) (j i : Nat), (pinL l j)[i]? = some true → i = j ∨ l[i]? = some true
  | [], 0, 0, _ => .inl rfl
  | [], 0, i + 1, h => by simp [pinL] at h
  | [], n + 1, 0, h => by simp [pinL] at h
  | [], n + 1, i + 1, h => by
    rcases pinL_get [] n i (by simpa [pinL] using h) with z | z
    · exact .inl (by omega)
    · simp at z
  | x :: r, 0, 0, h => .inl rfl
  | x :: r, 0, i + 1, h => .inr (by simpa [pinL] using h)
  | x :: r, n + 1, 0, h => .inr (by simpa [pinL] using h)
  | x :: r, n + 1, i + 1, h => by
    rcases pinL_get r n i (by simpa [pinL] using h) with z | z
    · exact .inl (by omega)
    · exact .inr (by simpa using z)
theorem Mask.pin {pm : List Bool} {pv : List (Option V)} (m : Mask pm pv) (j : Nat) (v : V) : Mask (pinL pm j) (pinV pv j v) := fun i => by
  constructor
  · intro h
    by_cases z : i = j
    · subst z; exact ⟨v, pinV_at pv i v⟩
    · rcases pinL_get pm j i h with y | y
      · exact absurd y z
      · obtain ⟨u, hu⟩ := (m i).1 y
        exact ⟨u, pinV_ne pv j v i u z hu⟩
  · rintro ⟨u, h⟩
    rcases pinV_get pv j v i u h with ⟨a, _⟩ | ⟨_, b⟩
    · subst a; exact pinL_at pm i
    · exact pinL_ne pm j i ((m i).2 ⟨u, b⟩)
section
variable {K : PySem.W.Frag} {pv : List (Option V)} {F H : Hp} {σ : L2.St} {env : Ev} {B : Nat → Rg} {v : V} {j : Nat}
theorem Rel.pin (r : Rel K pv F H σ env B) (e : σ[j]? = some (some v)) : Rel K (pinV pv j v) F H σ env B := ⟨r.sub, r.len, r.at_, r.dis, r.off, r.live, fun i u h => by
  rcases pinV_get pv j v i u h with ⟨a, b⟩ | ⟨_, b⟩
  · subst a; rw [b]; exact e
  · exact r.fix i u b, r.tp⟩
theorem Rel.unpin (hk : ∀ (i : Nat) (u : V), pv[i]? = some (some u) → (pinV pv j v)[i]? = some (some u)) (r : Rel K (pinV pv j v) F H σ env B) : Rel K pv F H σ env B := ⟨r.sub, r.len, r.at_, r.dis, r.off, r.live, fun i u h => r.fix i u (hk i u h), r.tp⟩
end
/-- the name j is set, and no step of the statement sets it -/
def wPin (j : Nat) (w : WS) : WS := fun E env => (gt env j).isSome = true ∧ w E env
theorem zs_pin {X : Cx} {pm : List Bool} {s : Stmt} {w : WS} (j : Nat) (h : ZS X (pinL pm j) s w) : ZS X pm s (wPin j w) := ps_imp h fun D σ H ⟨pv, F, B, env, E, m, rel, hw, cn⟩ => by
  obtain ⟨hs, hw⟩ := hw
  obtain ⟨t, q⟩ := Option.isSome_iff_exists.mp hs
  obtain ⟨v, e1, e2⟩ := rel.at_ j t (gt_some q)
  have hk : ∀ (i : Nat) (u : V), pv[i]? = some (some u) → (pinV pv j v)[i]? = some (some u) := fun i u hu => by
    by_cases z : i = j
    · subst z
      have := rel.fix i u hu
      rw [e1] at this; cases this
      exact pinV_at pv i v
    · exact pinV_ne pv j v i u z hu
  exact ⟨pinV pv j v, F, B, env, E, m.pin j v, rel.pin e1, hw, ⟨fun e F' H' σ' B' h st r => cn.nx e F' H' σ' B' h st (r.unpin hk), fun t e F' H' σ' B' R' v h st r o => cn.rt t e F' H' σ' B' R' v h st (r.unpin hk) o, fun e F' H' σ' B' h st r => cn.bk e F' H' σ' B' h st (r.unpin hk), fun e F' H' σ' B' h st r => cn.ct e F' H' σ' B' h st (r.unpin hk)⟩⟩

/-! ### loops -/
/-- what is walked: the items, and what must stay true of the names at each turn -/
abbrev WI := Ev → (List D → (Ev → Prop) → Ev → Prop) → Prop
structure Feeds (K : PySem.W.Frag) (pv : List (Option V)) (F1 : Hp) (J : It) (items : List D) (chk : Ev → Prop) : Prop where
  go : ∀ i d F H σ env B, Rel K pv F H σ env B → Same F1 F → chk env → items[i]? = some d → J.go i H
  yld : ∀ i d F H σ env B x H', Rel K pv F H σ env B → Same F1 F → chk env → items[i]? = some d → J.yld i H x H' → ∃ F', Alloc F H F' H' Rg0 ∧ IsD K F' x d
  stop : ∀ i F H σ env B, Rel K pv F H σ env B → Same F1 F → chk env → items.length ≤ i → J.stop i H
def TIz (X : Cx) (pm : List Bool) (w : WI) : TI := fun σ H R => ∃ pv F B env P, Mask pm pv ∧ Rel X.K pv F H σ env B ∧ w env P ∧
  ∀ items chk env', P items chk env' → ∀ F' H' B' J, Step F H (U B) F' H' (U B') → Rel X.K pv F' H' σ env' B' → Feeds X.K pv F' J items chk → R J H'
abbrev ZI (X : Cx) (pm : List Bool) (tg e : Expr) (w : WI) : Prop := PI X tg e (TIz X pm w)
def wForL (g : WG) (wb : WS) (chk : Ev → Prop) : List D → DE → Ev → Prop
  | [], E, env => chk env ∧ E.nx env
  | d :: ds, E, env => chk env ∧ g d env fun e1 => wb { nx := fun e => wForL g wb chk ds E e, rt := E.rt, bk := E.nx, ct := fun e => wForL g wb chk ds E e } e1
def wFor (wi : WI) (g : WG) (wb : WS) : WS := fun E env => wi env fun items chk e1 => wForL g wb chk items E e1
theorem wForL_chk {g : WG} {wb : WS} {chk : Ev → Prop} {items : List D} {E : DE} {env : Ev} (h : wForL g wb chk items E env) : chk env := by
  cases items <;> exact h.1
section
variable {X : Cx} {pm : List Bool} {tg iter : Expr} {body : List Stmt} {wi : WI} {g : WG} {wb : WS} {pos : Pos}
theorem zs_for {ws : List Nat} (hp : PassesOwn (model X.prog X.w) X.A X.env X.xe) (hc : X.calm = true) (hi : ZI X pm tg iter wi) (hg : ZG X pm tg ws g) (hb : ZSs X pm body wb) (hs : ∀ x, foldedSetIterable iter X.env x = pure x := by intro _; rfl) :
    ZS X pm (.For tg iter body [] pos) (wFor wi g wb) := ps_imp (ps_for hp hc hi hg hb hs) fun D σ H ⟨pv, F, B, env, E, m, rel, hw, cn⟩ => by
  refine ⟨pv, F, B, env, _, m, rel, hw, fun items chk e1 h1 F1 H1 B1 J s1 r1 fd => ?_⟩
  refine ⟨fun i k σ' H' => k = items.length - i ∧ i ≤ items.length ∧ ∃ F' B' env', Step F H (U B) F' H' (U B') ∧ Same F1 F' ∧ Rel X.K pv F' H' σ' env' B' ∧ wForL g wb chk (items.drop i) E env',
    ⟨_, rfl, Nat.zero_le _, F1, B1, e1, s1, Same.refl _, r1, h1⟩, fun i k σ' H' ⟨ek, hi, F', B', env', s', le', r', h'⟩ => ?_⟩
  by_cases hl : i < items.length
  · have ed : items.drop i = items[i] :: items.drop (i + 1) := List.drop_eq_getElem_cons hl
    have hx : items[i]? = some items[i] := List.getElem?_eq_getElem hl
    rw [ed] at h'
    obtain ⟨hc', h'⟩ := h'
    refine .inr ⟨fd.go i _ F' H' σ' env' B' r' le' hc' hx, fun σ2 H2 => ∃ F2 B2 env2, Step F H (U B) F2 H2 (U B2) ∧ Same F1 F2 ∧ Rel X.K pv F2 H2 σ2 env2 B2 ∧ wForL g wb chk (items.drop (i + 1)) E env2, fun σ2 H2 q => ⟨items.length - (i + 1), by omega, rfl, by omega, q⟩, fun x H2 y => ?_⟩
    obtain ⟨F2, al, hd⟩ := fd.yld i _ F' H' σ' env' B' x H2 r' le' hc' hx y
    obtain ⟨r2, s2, _⟩ := r'.alloc al
    refine ⟨pv, F2, B', env', _, _, m, r2, hd, h', fun e3 h3 F3 H3 σ3 B3 _ s3 r3 => ⟨pv, F3, B3, e3, _, m, r3, h3, ?_⟩⟩
    have sA := (s'.trans s2.l).trans s3
    have le3 : Same F1 F3 := (le'.trans s2.le).trans s3.le
    exact ⟨fun e4 F4 H4 σ4 B4 h4 s4 r4 => ⟨F4, B4, e4, sA.trans s4, le3.trans s4.le, r4, h4⟩, fun t e4 F4 H4 σ4 B4 R4 v h4 s4 r4 o4 => cn.rt t e4 F4 H4 σ4 B4 R4 v h4 (sA.trans s4) r4 o4,
      fun e4 F4 H4 σ4 B4 h4 s4 r4 => cn.nx e4 F4 H4 σ4 B4 h4 (sA.trans s4) r4, fun e4 F4 H4 σ4 B4 h4 s4 r4 => ⟨F4, B4, e4, sA.trans s4, le3.trans s4.le, r4, h4⟩⟩
  · have ei : i = items.length := by omega
    subst ei
    rw [List.drop_length] at h'
    obtain ⟨hc', h'⟩ := h'
    exact .inl ⟨fd.stop _ F' H' σ' env' B' r' le' hc' (Nat.le_refl _), cn.nx env' F' H' σ' B' h' s' r'⟩
end
/-! ### while -/
def wWh (c : WT) (wb : WS) : Nat → DE → Ev → Prop
  | 0, _, _ => False
  | n + 1, E, env => c env fun k e => (k = true → wb { nx := fun e' => wWh c wb n E e', rt := E.rt, bk := E.nx, ct := fun e' => wWh c wb n E e' } e) ∧ (k = false → E.nx e)
def wWhile (c : WT) (wb : WS) : WS := fun E env => ∃ n, wWh c wb n E env
theorem zs_while {X : Cx} {pm : List Bool} {c : Expr} {body : List Stmt} {tc : WT} {wb : WS} {pos : Pos} (hp : PassesOwn (model X.prog X.w) X.A X.env X.xe) (hc : ZT X pm c tc) (hb : ZSs X pm body wb) : ZS X pm (.While c body [] pos) (wWhile tc wb) :=
  ps_imp (ps_while hp hc hb) fun D σ H ⟨pv, F, B, env, E, m, rel, ⟨n, hw⟩, cn⟩ => by
    refine ⟨fun k σ' H' => ∃ F' B' env', Step F H (U B) F' H' (U B') ∧ Rel X.K pv F' H' σ' env' B' ∧ wWh tc wb k E env', ⟨n, F, B, env, .refl, rel, hw⟩, fun k σ' H' ⟨F', B', env', s', r', h'⟩ => ?_⟩
    cases k with
    | zero => exact h'.elim
    | succ k =>
      refine ⟨pv, F', B', env', _, m, r', h', fun b e1 h1 F1 H1 B1 s1 r1 => ?_⟩
      cases b with
      | false => exact iteF (cn.nx e1 F1 H1 σ' B1 (h1.2 rfl) (s'.trans s1) r1)
      | true =>
        refine iteT ⟨fun σ2 H2 => ∃ F2 B2 env2, Step F H (U B) F2 H2 (U B2) ∧ Rel X.K pv F2 H2 σ2 env2 B2 ∧ wWh tc wb k E env2, fun σ2 H2 q => ⟨k, Nat.lt_succ_self _, q⟩, pv, F1, B1, e1, _, m, r1, h1.1 rfl, ?_⟩
        have sA := s'.trans s1
        exact ⟨fun e4 F4 H4 σ4 B4 h4 s4 r4 => ⟨F4, B4, e4, sA.trans s4, r4, h4⟩, fun t e4 F4 H4 σ4 B4 R4 v h4 s4 r4 o4 => cn.rt t e4 F4 H4 σ4 B4 R4 v h4 (sA.trans s4) r4 o4,
          fun e4 F4 H4 σ4 B4 h4 s4 r4 => cn.nx e4 F4 H4 σ4 B4 h4 (sA.trans s4) r4, fun e4 F4 H4 σ4 B4 h4 s4 r4 => ⟨F4, B4, e4, sA.trans s4, r4, h4⟩⟩
end Zl

namespace Zl
open PySem PySem.Spec PyProof.Rows L2

theorem pi_or {X : Cx} {tg e : Expr} {w1 w2 : TI} (h1 : PI X tg e w1) (h2 : PI X tg e w2) : PI X tg e (fun σ H R => w1 σ H R ∨ w2 σ H R) := ⟨fun p s σ H R I h => h.elim (h1.run p s σ H R I) (h2.run p s σ H R I)⟩
theorem pi_imp {X : Cx} {tg e : Expr} {w1 w2 : TI} (h : PI X tg e w1) (i : ∀ σ H R, w2 σ H R → w1 σ H R) : PI X tg e w2 := ⟨fun p s σ H R I q => h.run p s σ H R I (i _ _ _ q)⟩
/-- a list, a tuple or a text, walked -/
def iAny (K : PySem.W.Frag) (tl : TE) : TI := fun σ H R => tl σ H fun v H1 => (∃ a0, v = .ref a0 ∧ (∃ xs, SqL K H1 a0 xs) ∧ R (Itl K a0) H1) ∨ (∃ a0, v = .ref a0 ∧ (∃ xs, SqT K H1 a0 xs) ∧ R (Itt K a0) H1) ∨ (∃ x, v = .str x ∧ R (Its x) H1)
theorem pi_any {X : Cx} {tg l : Expr} {tl : TE} (hl : PE X l tl) : PI X tg l (iAny X.K tl) := by
  refine ⟨fun pins s σ H R I h => ?_⟩
  refine thn (hl.run pins s σ H _ I h) fun v s1 ⟨x, H1, I1, r1, q1⟩ => ?_
  rcases q1 with ⟨a, e, ⟨xs, hq⟩, q⟩ | ⟨a, e, ⟨xs, hq⟩, q⟩ | ⟨x, ex, q⟩
  · subst e
    cases r1
    obtain ⟨its, rv, p, hz⟩ := I1.list hq
    refine wpAny_pyIter_list p.isList ?_
    refine ⟨s1.heap.objs.size, [s1.heap.objs.size], _, _, H1, rfl, I1.kept (t' := s1.toks) fun b o e => Heap.get?_push_of_some _ e, turn_list a _, ⟨_, Heap.get?_push_size _ rfl, rfl, rfl⟩, fun b hb => ?_, q⟩
    have e : b = s1.heap.objs.size := by simpa using hb
    subst e
    exact I1.fpOk (Nat.le_refl _) (I1.hok.fresh (Nat.le_refl _))
  · subst e
    cases r1
    obtain ⟨its, rv, p, hz⟩ := I1.tuple hq
    refine wpAny_pyIter_tuple (show s1.heap.IsTuple a its.toArray from p) ?_
    refine ⟨s1.heap.objs.size, [s1.heap.objs.size], _, _, H1, rfl, I1.kept (t' := s1.toks) fun b o e => Heap.get?_push_of_some _ e, turn_tuple a _, ⟨_, Heap.get?_push_size _ rfl, rfl, rfl⟩, fun b hb => ?_, q⟩
    have e : b = s1.heap.objs.size := by simpa using hb
    subst e
    exact I1.fpOk (Nat.le_refl _) (I1.hok.fresh (Nat.le_refl _))
  · subst ex
    obtain ⟨t, rfl⟩ := r1
    cases ha : x.cps.all (· < 128)
    · exact wpAny_pyIter_wide ha (pi_one (tk := s1.toks) I1 _ (turn_str _ x t "str_iterator" (.inr rfl)) ⟨_, Heap.get?_push_size _ rfl, rfl, rfl⟩ q)
    · exact wpAny_pyIter_ascii ha (pi_one (tk := s1.toks) I1 _ (turn_str _ x t "str_ascii_iterator" (.inl rfl)) ⟨_, Heap.get?_push_size _ rfl, rfl, rfl⟩ q)
/-- the item is data now; a name must stay -/
def chkD (a : It2) (d : D) : Ev → Prop := fun e => rs e a = some d
/-- what is walked: a list, a tuple, a text -/
def itemsOf : D → Option (List D)
  | .lst ds => some ds
  | .rol ds => some ds
  | .tup ds => some ds
  | .str z => some (z.cps.toList.map fun c => .str ⟨#[c]⟩)
  | _ => none
def wiV (o : WO) : WI := fun env P => o env fun a e => match rs e a with
  | some d => match itemsOf d with
    | some ds => P ds (chkD a d) e
    | none => False
  | none => False
/-- the item's name is kept -/
def Kept (pm : List Bool) : It2 → Prop
  | .inl _ => True
  | .inr j => pm[j]? = some true
section
variable {X : Cx} {K : PySem.W.Frag} {pv : List (Option V)} {pm : List Bool} {F1 H1 : Hp} {σ : L2.St} {v : V} {a : It2} {d : D}
/-- an item that is kept is there at each turn -/
theorem kept_pk (m : Mask pm pv) (hk : Kept pm a) {env1 : Ev} {B1 : Nat → Rg} (r1 : Rel K pv F1 H1 σ env1 B1) (h : ItemOk K F1 σ v a) {F H : Hp} {σ' : L2.St} {env : Ev} {B : Nat → Rg} (r : Rel K pv F H σ' env B) (s : Same F1 F) (c : chkD a d env) : Pk K F H v d := by
  have c : rs env a = some d := c
  cases h with
  | d h => exact r.pk (.d (h.mono s)) c
  | @s j h =>
    obtain ⟨u, hu⟩ := (m j).1 hk
    have e1 := r1.fix j u hu
    rw [h] at e1; cases e1
    exact r.pk (.s (r.fix j v hu)) c
theorem feeds_lst {a0 : Addr} {ds : List D} (hp : ∀ (F H : Hp) (σ' : L2.St) (env : Ev) (B : Nat → Rg), Rel K pv F H σ' env B → Same F1 F → chkD a d env → ∃ vs, SqL K H a0 vs ∧ IsDs K F vs ds) : Feeds K pv F1 (Itl K a0) ds (chkD a d) where
  go := fun i x F H σ' env B r s c hx => by
    obtain ⟨vs, h1, h2⟩ := hp F H σ' env B r s c
    obtain ⟨y, e, _⟩ := h2.get hx
    exact ⟨vs, y, h1, e⟩
  yld := fun i x F H σ' env B y H' r s c hx ⟨e, h⟩ => by
    obtain ⟨vs, h1, h2⟩ := hp F H σ' env B r s c
    obtain ⟨z, e1, e2⟩ := h2.get hx
    have := h vs h1
    rw [e1] at this; cases this
    exact ⟨F, by rw [e]; exact .refl r.sub, e2⟩
  stop := fun i F H σ' env B r s c hx => by
    obtain ⟨vs, h1, h2⟩ := hp F H σ' env B r s c
    exact ⟨vs, h1, by rw [h2.length]; exact hx⟩
theorem feeds_tup {a0 : Addr} {ds : List D} (hp : ∀ (F H : Hp) (σ' : L2.St) (env : Ev) (B : Nat → Rg), Rel K pv F H σ' env B → Same F1 F → chkD a d env → ∃ vs, SqT K H a0 vs ∧ IsDs K F vs ds) : Feeds K pv F1 (Itt K a0) ds (chkD a d) where
  go := fun i x F H σ' env B r s c hx => by
    obtain ⟨vs, h1, h2⟩ := hp F H σ' env B r s c
    obtain ⟨y, e, _⟩ := h2.get hx
    exact ⟨vs, y, h1, e⟩
  yld := fun i x F H σ' env B y H' r s c hx ⟨e, h⟩ => by
    obtain ⟨vs, h1, h2⟩ := hp F H σ' env B r s c
    obtain ⟨z, e1, e2⟩ := h2.get hx
    have := h vs h1
    rw [e1] at this; cases this
    exact ⟨F, by rw [e]; exact .refl r.sub, e2⟩
  stop := fun i F H σ' env B r s c hx => by
    obtain ⟨vs, h1, h2⟩ := hp F H σ' env B r s c
    exact ⟨vs, h1, by rw [h2.length]; exact hx⟩
def enumD (ds : List D) : List D := ds.mapIdx fun i d => .tup [.int i, d]
theorem feeds_enum {a0 : Addr} {ds : List D} (hp : ∀ (F H : Hp) (σ' : L2.St) (env : Ev) (B : Nat → Rg), Rel K pv F H σ' env B → Same F1 F → chkD a d env → ∃ vs, SqL K H a0 vs ∧ IsDs K F vs ds) : Feeds K pv F1 (Ite K a0) (enumD ds) (chkD a d) where
  go := fun i x F H σ' env B r s c hx => by
    obtain ⟨vs, h1, h2⟩ := hp F H σ' env B r s c
    unfold enumD at hx
    rw [List.getElem?_mapIdx] at hx
    cases q : ds[i]? with
    | none => rw [q] at hx; cases hx
    | some z =>
      obtain ⟨y, e, _⟩ := h2.get q
      exact ⟨vs, y, h1, e⟩
  yld := fun i x F H σ' env B y H' r s c hx ⟨T, x', e1, e2, e3, h⟩ => by
    subst e1 e3
    obtain ⟨vs, h1, h2⟩ := hp F H σ' env B r s c
    unfold enumD at hx
    rw [List.getElem?_mapIdx] at hx
    cases q : ds[i]? with
    | none => rw [q] at hx; cases hx
    | some z =>
      rw [q] at hx
      cases hx
      obtain ⟨w', f1, f2⟩ := h2.get q
      have := h vs h1
      rw [f1] at this; cases this
      have al := Alloc.frz (o := .tup [.int (i : Nat), x']) r.sub e2
      exact ⟨_, al, .tup upd_same (.cons (.int _) (.cons (f2.mono al.le) .nil))⟩
  stop := fun i F H σ' env B r s c hx => by
    obtain ⟨vs, h1, h2⟩ := hp F H σ' env B r s c
    unfold enumD at hx
    rw [List.length_mapIdx] at hx
    exact ⟨vs, h1, by rw [h2.length]; exact hx⟩
theorem iter_key {R : It → Hp → Prop} {e1 : Ev} {B1 : Nat → Rg} {ds : List D} (m : Mask pm pv) (k : Kept pm a) (q : rs e1 a = some d) (qi : itemsOf d = some ds) (r1 : Rel K pv F1 H1 σ e1 B1) (i1 : ItemOk K F1 σ v a)
    (hq : ∀ J, Feeds K pv F1 J ds (chkD a d) → R J H1) :
    (∃ a0, v = .ref a0 ∧ (∃ xs, SqL K H1 a0 xs) ∧ R (Itl K a0) H1) ∨ (∃ a0, v = .ref a0 ∧ (∃ xs, SqT K H1 a0 xs) ∧ R (Itt K a0) H1) ∨ (∃ x, v = .str x ∧ R (Its x) H1) := by
  have src := fun {F H : Hp} {σ' : L2.St} {env : Ev} {B : Nat → Rg} (r : Rel K pv F H σ' env B) (s : Same F1 F) (c : chkD a d env) => kept_pk m k r1 i1 r s c
  have k0 := r1.pk i1 q
  cases d <;> cases qi
  · rename_i z
    refine .inr (.inr ⟨z, k0.str, hq _ ⟨fun i x F H σ' env B r s c hx => ?_, fun i x F H σ' env B y H' r s c hx h => ?_, fun i F H σ' env B r s c hx => ?_⟩⟩)
    · have := (List.getElem?_eq_some_iff.mp hx).1
      rw [List.length_map] at this
      show i < z.cps.size
      simpa using this
    · obtain ⟨e1, c1, e2, e3⟩ := h
      subst e1 e3
      rw [List.getElem?_map] at hx
      have e4 : z.cps.toList[i]? = some c1 := by rw [Array.getElem?_toList]; exact e2
      rw [e4] at hx
      cases hx
      exact ⟨F, .refl r.sub, .str _⟩
    · rw [List.length_map] at hx
      show z.cps.size ≤ i
      simpa using hx
  · obtain ⟨a0, vs, e0, h1, d1⟩ := k0.tup1 r1.sub
    subst e0
    refine .inr (.inl ⟨a0, rfl, ⟨vs, h1⟩, hq _ (feeds_tup fun F H σ' env B r s c => ?_)⟩)
    obtain ⟨a1, us, e1, h2, d2⟩ := (src r s c).tup1 r.sub
    cases e1
    exact ⟨us, h2, d2⟩
  · obtain ⟨a0, vs, e0, h1, d1⟩ := k0.lst1 r1.sub
    subst e0
    refine .inl ⟨a0, rfl, ⟨vs, SqL.of h1⟩, hq _ (feeds_lst fun F H σ' env B r s c => ?_)⟩
    obtain ⟨a1, us, e1, h2, d2⟩ := (src r s c).lst1 r.sub
    cases e1
    exact ⟨us, SqL.of h2, d2⟩
  · obtain ⟨a0, vs, e0, h1, d1⟩ := k0.rol1 r1.sub
    subst e0
    refine .inl ⟨a0, rfl, ⟨vs, h1⟩, hq _ (feeds_lst fun F H σ' env B r s c => ?_)⟩
    obtain ⟨a1, us, e1, h2, d2⟩ := (src r s c).rol1 r.sub
    cases e1
    exact ⟨us, h2, d2⟩
theorem zi_val {tg e : Expr} {w : WE} (he : ZE X pm e w) : ZI X pm tg e (wiV (oV w)) :=
  pi_imp (pi_any he) fun σ H R ⟨pv, F, B, env, P, m, rel, hw, hq⟩ => by
    refine ⟨pv, F, B, env, _, m, rel, hw, fun t e1 h1 F1 H1 B1 R1 v s1 r1 o1 => ?_⟩
    obtain ⟨F2, r2, s2, d2⟩ := r1.freezeV o1
    have h1 : (match itemsOf t.fr with | some ds => P ds (chkD (.inl t.fr) t.fr) e1 | none => False) := h1
    cases q : itemsOf t.fr with
    | none => rw [q] at h1; exact h1.elim
    | some ds =>
      rw [q] at h1
      exact iter_key (a := .inl t.fr) m trivial rfl q r2 (.d d2) fun J fd => hq ds _ e1 h1 F2 H1 B1 J (s1.trans s2) r2 fd
theorem zi_slot {tg : Expr} (j : Nat) {x : Str} {pos : Pos} (hj : pm[j]? = some true) (hN : X.N[j]? = some x := by rfl) (hv : Vis X.env.scope x := by first | exact Or.inl rfl | exact Or.inr (Or.inl rfl) | exact Or.inr (Or.inr rfl)) (hd : (x == ("__debug__" : Str)) = false := by decide)
    (hcd : (x == ("__classdict__" : Str)) = false := by decide) : ZI X pm tg (.Name x pos) (wiV (oS j)) :=
  pi_imp (pi_any (pe_var hN hv hd hcd)) fun σ H R ⟨pv, F, B, env, P, m, rel, hw, hq⟩ => by
    have hw : (match gt env j with | some _ => (match rs env (.inr j) with | some d => (match itemsOf d with | some ds => P ds (chkD (.inr j) d) env | none => False) | none => False) | none => False) := hw
    cases g : gt env j with
    | none => rw [g] at hw; exact hw.elim
    | some t =>
      rw [g] at hw
      have er : rs env (.inr j) = some t.fr := by show (match gt env j with | some t => some t.fr | none => none) = _; rw [g]
      rw [er] at hw
      have hw : (match itemsOf t.fr with | some ds => P ds (chkD (.inr j) t.fr) env | none => False) := hw
      obtain ⟨v, e1, e2⟩ := rel.at_ j t (gt_some g)
      cases q : itemsOf t.fr with
      | none => rw [q] at hw; exact hw.elim
      | some ds =>
        rw [q] at hw
        exact ⟨v, e1, iter_key (a := .inr j) m hj er q rel (.s e1) fun J fd => hq ds _ env hw F H B J .refl rel fd⟩
/-! ### range -/
def wiR1 (wa : WA) : WI := fun env P => wa env fun as e => match rss e as with
  | some [.int n] => (-(2 ^ 62) ≤ n ∧ n < 2 ^ 62) ∧ P ((List.range n.toNat).map fun i : Nat => D.int i) (fun _ => True) e
  | _ => False
def wiR2 (wa : WA) : WI := fun env P => wa env fun as e => match rss e as with
  | some [.int l, .int n] => (-(2 ^ 62) ≤ l ∧ l < 2 ^ 62 ∧ -(2 ^ 62) ≤ n ∧ n < 2 ^ 62) ∧ P ((List.range (n - l).toNat).map fun i : Nat => D.int (l + i)) (fun _ => True) e
  | _ => False
theorem feeds_rng {lo : Int} {n : Nat} : Feeds K pv F1 (Itr lo n) ((List.range n).map fun i : Nat => D.int (lo + i)) (fun _ => True) where
  go := fun i x F H σ' env B r s c hx => by
    have := (List.getElem?_eq_some_iff.mp hx).1
    rw [List.length_map, List.length_range] at this
    exact this
  yld := fun i x F H σ' env B y H' r s c hx ⟨e, h⟩ => by
    subst h
    have hl := (List.getElem?_eq_some_iff.mp hx).1
    rw [List.length_map, List.length_range] at hl
    rw [List.getElem?_map, List.getElem?_range hl] at hx
    cases hx
    exact ⟨F, by rw [e]; exact .refl r.sub, .int _⟩
  stop := fun i F H σ' env B r s c hx => by
    rw [List.length_map, List.length_range] at hx
    exact hx
theorem zi_rng1 {tg a : Expr} {wa : WA} {p pos : Pos} (hg : Gl X "range") (hm : X.mg "range" = none) (ha : ZA X pm [a] wa) (hs : starEach [a] X.env = [(false, eval a X.env)] := by rfl) : ZI X pm tg (.Call (.Name "range" p) [a] [] pos) (wiR1 wa) :=
  pi_imp (pi_range1 hg hm ha hs) fun σ H R ⟨pv, F, B, env, P, m, rel, hw, hq⟩ => ⟨pv, F, B, env, _, m, rel, hw, fun as e1 h1 F1 H1 B1 vs s1 r1 i1 => by
    cases q : rss e1 as with
    | none => simp only [q] at h1
    | some ds =>
      simp only [q] at h1
      match ds, q, h1 with
      | [.int n], q, h1 =>
        obtain ⟨v, e, k⟩ := (r1.pks i1 q).one
        refine ⟨n, by rw [e, k.int], h1.1.1, h1.1.2, hq _ _ e1 h1.2 F1 H1 B1 _ s1 r1 ?_⟩
        have e2 : ((List.range n.toNat).map fun i : Nat => D.int i) = ((List.range n.toNat).map fun i : Nat => D.int (0 + i)) := by
          apply List.map_congr_left; intro i _; rw [Int.zero_add]
        rw [e2]
        exact feeds_rng⟩
theorem zi_rng2 {tg a b : Expr} {wa : WA} {p pos : Pos} (hg : Gl X "range") (hm : X.mg "range" = none) (ha : ZA X pm [a, b] wa) (hs : starEach [a, b] X.env = [(false, eval a X.env), (false, eval b X.env)] := by rfl) (hs2 : starEach [b] X.env = [(false, eval b X.env)] := by rfl) : ZI X pm tg (.Call (.Name "range" p) [a, b] [] pos) (wiR2 wa) :=
  pi_imp (pi_range2 hg hm ha hs hs2) fun σ H R ⟨pv, F, B, env, P, m, rel, hw, hq⟩ => ⟨pv, F, B, env, _, m, rel, hw, fun as e1 h1 F1 H1 B1 vs s1 r1 i1 => by
    cases q : rss e1 as with
    | none => simp only [q] at h1
    | some ds =>
      simp only [q] at h1
      match ds, q, h1 with
      | [.int l, .int n], q, h1 =>
        obtain ⟨v, u, e, k1, k2⟩ := (r1.pks i1 q).two
        exact ⟨l, n, by rw [e, k1.int, k2.int], h1.1, hq _ _ e1 h1.2 F1 H1 B1 _ s1 r1 feeds_rng⟩⟩
/-! ### enumerate(list) -/
def wiEn (w : WE) : WI := fun env P => w env fun t e => match t.fr with
  | .lst ds => P (enumD ds) (fun _ => True) e
  | .rol ds => P (enumD ds) (fun _ => True) e
  | _ => False
def wiEnS (j : Nat) : WI := fun env P => match rs env (.inr j) with
  | some (.lst ds) => P (enumD ds) (chkD (.inr j) (.lst ds)) env
  | some (.rol ds) => P (enumD ds) (chkD (.inr j) (.rol ds)) env
  | _ => False
theorem pa_one {e : Expr} {t : TE} (h : PE X e t) (hs : starEach [e] X.env = (false, eval e X.env) :: starEach [] X.env := by rfl) : PA X [e] (tCons t tNil) := pa_cons h pa_nil hs
theorem Feeds.chk0 {F : Hp} {J : It} {items : List D} {c : Ev → Prop} (h : ∀ e, c e) (f : Feeds K pv F J items c) : Feeds K pv F J items (fun _ => True) :=
  ⟨fun i d F H σ env B r s _ => f.go i d F H σ env B r s (h env), fun i d F H σ env B x H' r s _ => f.yld i d F H σ env B x H' r s (h env), fun i F H σ env B r s _ => f.stop i F H σ env B r s (h env)⟩
theorem zi_enum {e : Expr} {w : WE} {p pos tpos : Pos} {elts : List Expr} {kk : Nat} (hg : Gl X "enumerate") (hm : X.mg "enumerate" = none) (he : ZE X pm e w) (hs : starEach [e] X.env = [(false, eval e X.env)] := by rfl) : ZI X pm (.Tuple elts kk tpos) (.Call (.Name "enumerate" p) [e] [] pos) (wiEn w) :=
  pi_imp (pi_enum hg hm (pa_one he hs) hs) fun σ H R ⟨pv, F, B, env, P, m, rel, hw, hq⟩ => ⟨pv, F, B, env, _, m, rel, hw, fun t e1 h1 F1 H1 B1 R1 v s1 r1 o1 => by
    obtain ⟨F2, r2, s2, d2⟩ := r1.freezeV o1
    have go : ∀ ds, (t.fr = .lst ds ∨ t.fr = .rol ds) → P (enumD ds) (fun _ => True) e1 → ∃ a xs, [v] = [V.ref a] ∧ SqL X.K H1 a xs ∧ R (Ite X.K a) H1 := fun ds ht hp => by
      have kp : ∀ {F H : Hp}, Same F2 F → Same F H → ∃ a vs, v = .ref a ∧ SqL X.K H a vs ∧ IsDs X.K F vs ds := fun {F H} s s' => by
        have d3 := d2.mono s
        rcases ht with ht | ht
        · rw [ht] at d3
          obtain ⟨a, vs, e, h, q⟩ := Pk.lst1 s' (.d d3)
          exact ⟨a, vs, e, SqL.of h, q⟩
        · rw [ht] at d3
          exact Pk.rol1 s' (.d d3)
      obtain ⟨a, vs, e, h, q⟩ := kp (Same.refl _) r2.sub
      subst e
      refine ⟨a, vs, rfl, h, hq _ _ e1 hp F2 H1 B1 _ (s1.trans s2) r2 (Feeds.chk0 (c := chkD (.inl t.fr) t.fr) (fun _ => rfl) (feeds_enum fun F H σ' env B r s c => ?_))⟩
      obtain ⟨a', vs', e, h', q'⟩ := kp s r.sub
      cases e
      exact ⟨vs', h', q'⟩
    cases q : t.fr <;> simp only [q] at h1
    · exact go _ (.inl q) h1
    · exact go _ (.inr q) h1⟩
theorem zi_enumS (j : Nat) {x : Str} {pn p pos tpos : Pos} {elts : List Expr} {kk : Nat} (hg : Gl X "enumerate") (hm : X.mg "enumerate" = none) (hj : pm[j]? = some true) (hs : starEach [.Name x pn] X.env = [(false, eval (.Name x pn) X.env)] := by rfl) (hN : X.N[j]? = some x := by rfl) (hv : Vis X.env.scope x := by first | exact Or.inl rfl | exact Or.inr (Or.inl rfl) | exact Or.inr (Or.inr rfl)) (hd : (x == ("__debug__" : Str)) = false := by decide)
    (hcd : (x == ("__classdict__" : Str)) = false := by decide) : ZI X pm (.Tuple elts kk tpos) (.Call (.Name "enumerate" p) [.Name x pn] [] pos) (wiEnS j) :=
  pi_imp (pi_enum hg hm (pa_one (pe_var hN hv hd hcd) hs) hs) fun σ H R ⟨pv, F, B, env, P, m, rel, hw, hq⟩ => by
    cases q : rs env (.inr j) with
    | none => simp only [wiEnS, q] at hw
    | some d =>
      obtain ⟨t, g, et⟩ : ∃ t, gt env j = some t ∧ t.fr = d := by
        have q' : (match gt env j with | some t => some t.fr | none => none) = some d := q
        cases g : gt env j with
        | none => rw [g] at q'; cases q'
        | some t => rw [g] at q'; cases q'; exact ⟨t, rfl, rfl⟩
      obtain ⟨v, e1, e2⟩ := rel.at_ j t (gt_some g)
      have go : ∀ ds, (d = .lst ds ∨ d = .rol ds) → P (enumD ds) (chkD (.inr j) d) env → ∃ a xs, [v] = [V.ref a] ∧ SqL X.K H a xs ∧ R (Ite X.K a) H := fun ds ht hp => by
        have kp : ∀ {F1 H1 : Hp} {σ' : L2.St} {env1 : Ev} {B1 : Nat → Rg}, Rel X.K pv F1 H1 σ' env1 B1 → Same F F1 → chkD (.inr j) d env1 → ∃ a vs, v = .ref a ∧ SqL X.K H1 a vs ∧ IsDs X.K F1 vs ds := fun {F1 H1 σ' env1 B1} r s c => by
          have k := kept_pk (a := .inr j) m hj rel (.s e1) r s c
          rcases ht with ht | ht
          · rw [ht] at k
            obtain ⟨a, vs, e, h, q⟩ := Pk.lst1 r.sub k
            exact ⟨a, vs, e, SqL.of h, q⟩
          · rw [ht] at k
            exact Pk.rol1 r.sub k
        obtain ⟨a, vs, e, h, q'⟩ := kp rel (Same.refl _) q
        subst e
        refine ⟨a, vs, rfl, h, hq _ _ env hp F H B _ .refl rel (feeds_enum fun F1 H1 σ' env1 B1 r s c => ?_)⟩
        obtain ⟨a', vs', e, h', q'⟩ := kp r s c
        cases e
        exact ⟨vs', h', q'⟩
      refine ⟨v, e1, ?_⟩
      cases d <;> simp only [wiEnS, q] at hw
      · exact go _ (.inl rfl) hw
      · exact go _ (.inr rfl) hw
end
end Zl

namespace Zl
open PySem PySem.Spec PyProof.Rows L2

/-! ### what a def promises, over data: the arguments as they lie; the answer, and the arguments as they lie behind -/
abbrev DSp := List T → (T → List T → Prop) → Prop
def spOf (K : PySem.W.Frag) (dsp : DSp) : Sp := fun vs H Q _ => ∃ F B ts P, Rel K [] F H (vs.map some) (ts.map some) B ∧ dsp ts P ∧
  ∀ r ts', P r ts' → ∀ F' H' B' R v, Step F H (U B) F' H' (Ru (U B') R) → Rel K [] F' H' (vs.map some) (ts'.map some) B' → OwnV K F' H' B' R v r → Q v H'

/-! ### arguments of a call -/
def isFz : Option T → Bool
  | some (.fz _) => true
  | _ => false
def argT (e : Ev) : It2 → Option T
  | .inl d => some (.fz d)
  | .inr j => gt e j
def argTs (e : Ev) : List It2 → Option (List T)
  | [] => some []
  | a :: as => match argT e a with
    | some t => match argTs e as with
      | some ts => some (t :: ts)
      | none => none
    | none => none
/-- the name j's own object is handed in -/
def hands (j : Nat) : List It2 → Bool
  | [] => false
  | .inr i :: as => (i == j) || hands j as
  | .inl _ :: as => hands j as
/-- no object of one's own is handed in twice -/
def dst (e : Ev) : List It2 → Bool
  | [] => true
  | .inl _ :: as => dst e as
  | .inr j :: as => (isFz (gt e j) || !hands j as) && dst e as
/-- the names behind the call -/
def back (e : Ev) : List It2 → List T → Ev
  | .inr j :: as, t :: ts => bif isFz (gt e j) then back e as ts else st (back e as ts) j t
  | .inl _ :: as, _ :: ts => back e as ts
  | _, _ => e
theorem back_inr (e : Ev) (j : Nat) (as : List It2) (t : T) (ts : List T) : back e (.inr j :: as) (t :: ts) = if isFz (gt e j) then back e as ts else st (back e as ts) j t := by
  show (bif isFz (gt e j) then back e as ts else st (back e as ts) j t) = _
  cases isFz (gt e j) <;> rfl
theorem hands_of : ∀ {j k : Nat} {as : List It2}, as[k]? = some (.inr j) → hands j as = true
  | j, 0, a :: as, h => by cases h; simp [hands]
  | j, k + 1, .inl _ :: as, h => by show hands j as = true; exact hands_of (k := k) (by simpa using h)
  | j, k + 1, .inr i :: as, h => by show ((i == j) || hands j as) = true; rw [hands_of (k := k) (as := as) (by simpa using h)]; simp
theorem of_hands : ∀ {j : Nat} {as : List It2}, hands j as = true → ∃ k : Nat, as[k]? = some (Sum.inr j)
  | j, .inl _ :: as, h => by
    obtain ⟨k, e⟩ := of_hands (as := as) h
    exact ⟨k + 1, by simpa using e⟩
  | j, .inr i :: as, h => by
    have h : ((i == j) || hands j as) = true := h
    by_cases z : i = j
    · subst z; exact ⟨0, rfl⟩
    · have h2 : hands j as = true := by simpa [z] using h
      obtain ⟨k, e⟩ := of_hands (as := as) h2
      exact ⟨k + 1, by simpa using e⟩
theorem dst_one {e : Ev} : ∀ {as : List It2}, dst e as = true → ∀ {k l j : Nat}, as[k]? = some (.inr j) → as[l]? = some (.inr j) → isFz (gt e j) = false → k = l
  | [], _, k, l, j, h, _, _ => by simp at h
  | .inl _ :: as, hd, 0, l, j, h, _, _ => by simp at h
  | .inl _ :: as, hd, k + 1, 0, j, _, h, _ => by simp at h
  | .inl _ :: as, hd, k + 1, l + 1, j, h, h', hf => by rw [dst_one (as := as) hd (k := k) (l := l) (by simpa using h) (by simpa using h') hf]
  | .inr i :: as, hd, k, l, j, h, h', hf => by
    have hd : ((isFz (gt e i) || !hands i as) && dst e as) = true := hd
    rw [Bool.and_eq_true] at hd
    cases k with
    | zero =>
      cases l with
      | zero => rfl
      | succ l =>
        cases h
        have z := hands_of (k := l) (as := as) (j := i) (by simpa using h')
        rw [z, hf] at hd
        simp at hd
    | succ k =>
      cases l with
      | zero =>
        cases h'
        have z := hands_of (k := k) (as := as) (j := i) (by simpa using h)
        rw [z, hf] at hd
        simp at hd
      | succ l => rw [dst_one (as := as) hd.2 (k := k) (l := l) (by simpa using h) (by simpa using h') hf]
theorem argTs_get {e : Ev} : ∀ {as : List It2} {ts : List T}, argTs e as = some ts → ts.length = as.length ∧ ∀ (k : Nat) a, as[k]? = some a → ∃ t, ts[k]? = some t ∧ argT e a = some t
  | [], ts, h => by cases h; exact ⟨rfl, fun k a h => by simp at h⟩
  | a :: as, ts, h => by
    have h' : (match argT e a with | some t => (match argTs e as with | some ts => some (t :: ts) | none => none) | none => none) = some ts := h
    cases q : argT e a with
    | none => rw [q] at h'; cases h'
    | some t =>
      rw [q] at h'
      cases q2 : argTs e as with
      | none => simp only [q2] at h'; cases h'
      | some us =>
        simp only [q2] at h'
        cases h'
        obtain ⟨l, g⟩ := argTs_get q2
        refine ⟨by simp [l], fun k b hb => ?_⟩
        cases k with
        | zero => cases hb; exact ⟨t, rfl, q⟩
        | succ k =>
          obtain ⟨u, h1, h2⟩ := g k b (by simpa using hb)
          exact ⟨u, by simpa using h1, h2⟩
theorem back_len (e : Ev) : ∀ (as : List It2) (ts : List T), (back e as ts).length = e.length
  | [], _ => rfl
  | .inl _ :: as, [] => rfl
  | .inl _ :: as, _ :: ts => back_len e as ts
  | .inr j :: as, [] => rfl
  | .inr j :: as, t :: ts => by
    rw [back_inr]
    split
    · exact back_len e as ts
    · rw [st_eq, List.length_set]; exact back_len e as ts
/-- a name behind the call: an own object that was handed in, or as it was -/
theorem back_get (e : Ev) : ∀ (as : List It2) (ts : List T) (j : Nat) (t : T), (back e as ts)[j]? = some (some t) →
    (∃ k : Nat, as[k]? = some (.inr j) ∧ isFz (gt e j) = false ∧ ts[k]? = some t) ∨ (e[j]? = some (some t) ∧ (as.length = ts.length → isFz (gt e j) = false → hands j as = false))
  | [], _, j, t, h => .inr ⟨h, fun _ _ => rfl⟩
  | .inl _ :: as, [], j, t, h => .inr ⟨h, fun z _ => by simp at z⟩
  | .inl d :: as, _ :: ts, j, t, h => by
    rcases back_get e as ts j t h with ⟨k, h1, h2, h3⟩ | ⟨h1, h2⟩
    · exact .inl ⟨k + 1, by simpa using h1, h2, by simpa using h3⟩
    · exact .inr ⟨h1, fun z f => h2 (by simpa using z) f⟩
  | .inr i :: as, [], j, t, h => .inr ⟨h, fun z _ => by simp at z⟩
  | .inr i :: as, u :: ts, j, t, h => by
    rw [back_inr] at h
    by_cases hf : isFz (gt e i) = true
    · rw [if_pos hf] at h
      rcases back_get e as ts j t h with ⟨k, h1, h2, h3⟩ | ⟨h1, h2⟩
      · exact .inl ⟨k + 1, by simpa using h1, h2, by simpa using h3⟩
      · refine .inr ⟨h1, fun z f => ?_⟩
        show ((i == j) || hands j as) = false
        rw [h2 (by simpa using z) f]
        have : i ≠ j := fun z => by subst z; rw [hf] at f; cases f
        simpa using this
    · rw [if_neg hf, st_eq] at h
      have hf : isFz (gt e i) = false := by simpa using hf
      by_cases z : j = i
      · subst z
        rw [List.getElem?_set] at h
        split at h
        · split at h
          · cases h
            exact .inl ⟨0, rfl, hf, rfl⟩
          · cases h
        · rename_i n; exact absurd rfl n
      · rw [List.getElem?_set_ne (Ne.symm z)] at h
        rcases back_get e as ts j t h with ⟨k, h1, h2, h3⟩ | ⟨h1, h2⟩
        · exact .inl ⟨k + 1, by simpa using h1, h2, by simpa using h3⟩
        · refine .inr ⟨h1, fun y f => ?_⟩
          show ((i == j) || hands j as) = false
          rw [h2 (by simpa using y) f]
          simpa using Ne.symm z
theorem isFz_iff {o : Option T} : isFz o = true ↔ ∃ d, o = some (.fz d) := by
  cases o with
  | none => simp [isFz]
  | some t => cases t <;> simp [isFz]
section
variable {K : PySem.W.Frag} {pv : List (Option V)} {F H F' H' : Hp} {σ : L2.St} {e : Ev} {B B' : Nat → Rg} {R : Rg} {as : List It2} {ts ts' : List T} {vs : List V}
/-- the handed-in objects' regions -/
def argB (e : Ev) (as : List It2) (B : Nat → Rg) : Nat → Rg := fun k a => ∃ j, as[k]? = some (.inr j) ∧ isFz (gt e j) = false ∧ B j a
theorem ItemsOk.length : ∀ {vs : List V} {as : List It2}, ItemsOk K F σ vs as → vs.length = as.length
  | _, _, .nil => rfl
  | _, _, .cons _ r => by rw [List.length_cons, List.length_cons, ItemsOk.length r]
theorem ItemsOk.get : ∀ {vs : List V} {as : List It2} {k : Nat} {a : It2}, ItemsOk K F σ vs as → as[k]? = some a → ∃ v, vs[k]? = some v ∧ ItemOk K F σ v a
  | _, _, 0, _, .cons h _, e => by cases e; exact ⟨_, rfl, h⟩
  | _, _, k + 1, a, .cons _ r, e => by
    obtain ⟨v, h1, h2⟩ := ItemsOk.get (k := k) (a := a) r (by simpa using e)
    exact ⟨v, by simpa using h1, h2⟩
theorem Rel.args (r : Rel K pv F H σ e B) (i : ItemsOk K F σ vs as) (ha : argTs e as = some ts) (hd : dst e as = true) : Rel K [] F H (vs.map some) (ts.map some) (argB e as B) ∧ ∀ a, U (argB e as B) a → U B a := by
  obtain ⟨hl, hg⟩ := argTs_get ha
  refine ⟨⟨r.sub, by rw [List.length_map, List.length_map, i.length, hl], fun k t h => ?_, fun k l a ⟨j, h1, h2, h3⟩ ⟨j', g1, g2, g3⟩ => ?_, fun k a ⟨j, h1, h2, h3⟩ => r.off j a h3, fun k a ⟨j, h1, h2, h3⟩ => r.live j a h3, fun k v h => by simp at h, r.tp⟩, fun a ⟨k, j, h1, h2, h3⟩ => ⟨j, h3⟩⟩
  · rw [List.getElem?_map] at h
    cases q : ts[k]? with
    | none => rw [q] at h; cases h
    | some t0 =>
      rw [q] at h
      cases h
      have hk : k < as.length := by rw [← hl]; exact (List.getElem?_eq_some_iff.mp q).1
      obtain ⟨t1, g1, g2⟩ := hg k as[k] (List.getElem?_eq_getElem hk)
      rw [q] at g1; cases g1
      obtain ⟨v, hv, hi⟩ := i.get (List.getElem?_eq_getElem hk)
      refine ⟨v, by rw [List.getElem?_map, hv]; rfl, ?_⟩
      generalize hak : as[k] = a at *
      have hak' : as[k]? = some a := by rw [List.getElem?_eq_getElem hk, hak]
      cases hi with
      | d hd => cases g2; exact .fz hd
      | @s j hs =>
        have g2 : gt e j = some t := g2
        obtain ⟨u, e1, e2⟩ := r.at_ j t (gt_some g2)
        rw [hs] at e1; cases e1
        by_cases hf : isFz (gt e j) = true
        · obtain ⟨d, ed⟩ := isFz_iff.mp hf
          rw [g2] at ed; cases ed
          cases e2 with
          | fz q => exact .fz q
        · exact e2.mono (Same.refl _) (fun a o _ h => h) fun a h => ⟨j, hak', by simpa using hf, h⟩
  · have := r.dis j j' a h3 g3
    subst this
    exact dst_one hd h1 g1 h2
/-- behind the call -/
theorem Rel.called (r : Rel K pv F H σ e B) (i : ItemsOk K F σ vs as) (ha : argTs e as = some ts) (hd : dst e as = true) {v : V} {t : T}
    (s : Step F H (U (argB e as B)) F' H' (Ru (U B') R)) (r' : Rel K [] F' H' (vs.map some) (ts'.map some) B') (o : OwnV K F' H' B' R v t) :
    ∃ B2, Rel K pv F' H' σ (back e as ts') B2 ∧ Step F H (U B) F' H' (Ru (U B2) R) ∧ OwnV K F' H' B2 R v t := by
  classical
  obtain ⟨rA, subA⟩ := r.args i ha hd
  have hlen : as.length = ts'.length := by
    have := r'.len
    rw [List.length_map, List.length_map] at this
    rw [← this, i.length]
  -- an own object that is not handed in stands
  have out : ∀ j a, B j a → (isFz (gt e j) = true ∨ hands j as = false) → ¬ U (argB e as B) a := fun j a hb hn ⟨k, j', h1, h2, h3⟩ => by
    have := r.dis j j' a hb h3
    subst this
    rcases hn with hn | hn
    · rw [hn] at h2; cases h2
    · rw [hands_of h1] at hn; cases hn
  let B2 : Nat → Rg := fun j a => (∃ k : Nat, as[k]? = some (.inr j) ∧ isFz (gt e j) = false ∧ B' k a) ∨ ((isFz (gt e j) = true ∨ hands j as = false) ∧ B j a)
  have old : ∀ j a, (isFz (gt e j) = true ∨ hands j as = false) → B j a → F' a = none ∧ H' a ≠ none ∧ (∀ k, ¬ B' k a) ∧ ¬ R a := fun j a hn hb => by
    have n := out j a hb hn
    have live := r.live j a hb
    refine ⟨?_, ?_, fun k hk => ?_, fun hr => ?_⟩
    · cases q : F' a with
      | none => rfl
      | some x =>
        rcases s.newF a (by rw [q]; simp) with z | z | z
        · exact absurd (r.off j a hb) z
        · exact absurd z n
        · exact absurd z live
    · exact s.lv a live n
    · rcases s.fresh a (.inl ⟨k, hk⟩) with z | z
      · exact n z
      · exact live z
    · rcases s.fresh a (.inr hr) with z | z
      · exact n z
      · exact live z
  refine ⟨B2, ⟨r'.sub, ?_, fun j t h => ?_, fun j l a h1 h2 => ?_, fun j a h => ?_, fun j a h => ?_, r.fix, r'.tp⟩, ⟨s.le, fun a x h n => s.keep a x h fun z => n (subA a z), fun a h n => s.lv a h fun z => n (subA a z), fun a h => ?_, fun a h => ?_⟩, ⟨o.is, fun j a h1 h2 => ?_, o.off, o.live⟩⟩
  · rw [back_len]; exact r.len
  · rcases back_get e as ts' j t h with ⟨k, h1, h2, h3⟩ | ⟨h1, h2⟩
    · obtain ⟨u, e1, e2⟩ := i.get h1
      cases e2 with
      | s hs =>
        obtain ⟨u', f1, f2⟩ := r'.at_ k t (by rw [List.getElem?_map, h3]; rfl)
        rw [List.getElem?_map, e1] at f1
        cases f1
        exact ⟨u, hs, f2.mono (Same.refl _) (fun a x _ h => h) fun a hb => .inl ⟨k, h1, h2, hb⟩⟩
    · obtain ⟨u, e1, e2⟩ := r.at_ j t h1
      have hn : isFz (gt e j) = true ∨ hands j as = false := by
        by_cases hf : isFz (gt e j) = true
        · exact .inl hf
        · exact .inr (h2 hlen (by simpa using hf))
      exact ⟨u, e1, e2.monoN s.le (fun a x hb h => s.keep a x h (out j a hb hn)) fun a hb => .inr ⟨hn, hb⟩⟩
  · rcases h1 with ⟨k, g1, g2, g3⟩ | ⟨g1, g2⟩ <;> rcases h2 with ⟨k', f1, f2, f3⟩ | ⟨f1, f2⟩
    · have := r'.dis k k' a g3 f3
      subst this
      rw [g1] at f1; cases f1; rfl
    · exact absurd g3 ((old l a f1 f2).2.2.1 k)
    · exact absurd f3 ((old j a g1 g2).2.2.1 k')
    · exact r.dis j l a g2 f2
  · rcases h with ⟨k, g1, g2, g3⟩ | ⟨g1, g2⟩
    · exact r'.off k a g3
    · exact (old j a g1 g2).1
  · rcases h with ⟨k, g1, g2, g3⟩ | ⟨g1, g2⟩
    · exact r'.live k a g3
    · exact (old j a g1 g2).2.1
  · rcases h with ⟨j, ⟨k, g1, g2, g3⟩ | ⟨g1, g2⟩⟩ | h
    · exact (s.fresh a (.inl ⟨k, g3⟩)).imp (subA a) id
    · exact .inl ⟨j, g2⟩
    · exact (s.fresh a (.inr h)).imp (subA a) id
  · exact (s.newF a h).imp id (.imp (subA a) id)
  · rcases h2 with ⟨k, g1, g2, g3⟩ | ⟨g1, g2⟩
    · exact o.dis k a h1 g3
    · exact (old j a g1 g2).2.2.2 h1
end

/-! ### calls of defs -/
def wCall (sp : DSp) (dds : List D) (wa : WA) : WE := fun env P => wa env fun as e1 => match argTs e1 (as ++ dds.map .inl) with
  | some ts => dst e1 (as ++ dds.map .inl) = true ∧ sp ts fun r ts' => P r (back e1 (as ++ dds.map .inl) ts')
  | none => False
theorem ItemsOk.append {K : PySem.W.Frag} {F : Hp} {σ : L2.St} : ∀ {vs ws : List V} {as bs : List It2}, ItemsOk K F σ vs as → ItemsOk K F σ ws bs → ItemsOk K F σ (vs ++ ws) (as ++ bs)
  | _, _, _, _, .nil, r => r
  | _, _, _, _, .cons h t, r => .cons h (ItemsOk.append t r)
theorem ItemsOk.ofDs {K : PySem.W.Frag} {F : Hp} {σ : L2.St} : ∀ {vs : List V} {ds : List D}, IsDs K F vs ds → ItemsOk K F σ vs (ds.map .inl)
  | _, _, .nil => .nil
  | _, _, .cons h r => .cons (.d h) (ItemsOk.ofDs r)
section
variable {X : Cx} {pm : List Bool} {k : Nat} {f : Addr} {fd : FuncData} {ps : List Str} {sp : DSp} {x : Str} {p pos : Pos} {e : Expr} {es : List Expr} {wa : WA} {ds : List Value} {dvs : List V} {dds : List D}
theorem ta_call {E : XK} (hds : ∀ F, IsDs X.K F dvs dds) {σ H Q} : TZ X pm (wCall sp dds wa) σ H Q → TAz X pm wa σ H fun vs H1 => spOf X.K sp (vs ++ dvs) H1 Q E := fun ⟨pv, F, B, env, P, m, rel, hw, hq⟩ =>
  ⟨pv, F, B, env, _, m, rel, hw, fun as e1 h1 F1 H1 B1 vs s1 r1 i1 => by
    have i2 : ItemsOk X.K F1 σ (vs ++ dvs) (as ++ dds.map .inl) := i1.append (.ofDs (hds F1))
    cases q : argTs e1 (as ++ dds.map .inl) with
    | none => simp only [q] at h1
    | some ts =>
      simp only [q] at h1
      obtain ⟨hd, h1⟩ := h1
      obtain ⟨rA, sA⟩ := r1.args i2 q hd
      refine ⟨F1, _, ts, _, rA, h1, fun r ts' hp F2 H2 B2 R2 v s2 r2 o2 => ?_⟩
      obtain ⟨B3, r3, s3, o3⟩ := r1.called i2 q hd s2 r2 o2
      exact hq _ _ hp F2 H2 B3 R2 v (s1.trans s3) r3 o3⟩
theorem ze_call (Fn : FnOk X.prog X.w X.K X.mg X.base CX0 k f fd ps (spOf X.K sp)) (hr : Room k X.A) (hg : Gl X x) (hm : X.mg x = some (.ref f)) (hk : PySem.W.keepIn X.K (.ref f) = true) (hb : Binds X.K fd ps ds) (hd : Vals dvs ds) (hds : ∀ F, IsDs X.K F dvs dds)
    (ha : ZA X pm (e :: es) wa) (hdb : (x == ("__debug__" : Str)) = false := by decide) (he : starEach (e :: es) X.env = (false, eval e X.env) :: starEach es X.env := by rfl) (hpl : (backTo pos (starEach es X.env)).any (·.1) = false := by rfl) :
    ZE X pm (.Call (.Name x p) (e :: es) [] pos) (wCall sp dds wa) := pe_imp (pe_call Fn hr hg hm hk hb hd pass0 ha hdb he hpl) fun σ H Q h => ta_call hds h
theorem ze_call0 (Fn : FnOk X.prog X.w X.K X.mg X.base CX0 k f fd ps (spOf X.K sp)) (hr : Room k X.A) (hg : Gl X x) (hm : X.mg x = some (.ref f)) (hk : PySem.W.keepIn X.K (.ref f) = true) (hb : Binds X.K fd ps ds) (hd : Vals dvs ds) (hds : ∀ F, IsDs X.K F dvs dds)
    (hdb : (x == ("__debug__" : Str)) = false := by decide) :
    ZE X pm (.Call (.Name x p) [] [] pos) (wCall sp dds aNil) := pe_imp (pe_call0 Fn hr hg hm hk hb hd pass0 hdb) fun σ H Q h => by
  obtain ⟨pv, F, B, env, P, m, rel, hw, hq⟩ := ta_call (E := E0) hds h
  exact hq _ _ hw F H B [] .refl rel .nil
end

/-! ### a def keeps its promise -/
/-- the arguments behind the body: those that stay in their slots as they lie there, the others are data -/
def aft : List Bool → List T → Ev → Option (List T)
  | [], [], _ => some []
  | true :: pm, _ :: ts, some t :: env => match aft pm ts env with
    | some r => some (t :: r)
    | none => none
  | false :: pm, .fz d :: ts, _ :: env => match aft pm ts env with
    | some r => some (.fz d :: r)
    | none => none
  | _, _, _ => none
def fin (pm : List Bool) (ts : List T) (P : T → List T → Prop) : DE where
  nx := fun env => match aft pm ts env with
    | some ts' => P (.fz .non) ts'
    | none => False
  rt := fun t env => match aft pm ts env with
    | some ts' => P t ts'
    | none => False
/-- the names at the entry -/
def entry (n : Nat) (ts : List T) : Ev := ts.map some ++ List.replicate (n - ts.length) none
def pinned : List Bool → List V → List (Option V)
  | true :: pm, v :: vs => some v :: pinned pm vs
  | false :: pm, _ :: vs => none :: pinned pm vs
  | _, _ => []
theorem pinned_get : ∀ {pm : List Bool} {vs : List V} {i : Nat} {v : V}, (pinned pm vs)[i]? = some (some v) → pm[i]? = some true ∧ vs[i]? = some v
  | [], _, _, _, h => by simp [pinned] at h
  | true :: pm, [], _, _, h => by simp [pinned] at h
  | false :: pm, [], _, _, h => by simp [pinned] at h
  | true :: pm, w :: vs, 0, v, h => by cases h; exact ⟨rfl, rfl⟩
  | false :: pm, w :: vs, 0, v, h => by cases h
  | true :: pm, w :: vs, i + 1, v, h => by simpa using pinned_get (pm := pm) (vs := vs) (i := i) (by simpa [pinned] using h)
  | false :: pm, w :: vs, i + 1, v, h => by simpa using pinned_get (pm := pm) (vs := vs) (i := i) (by simpa [pinned] using h)
theorem pinned_of : ∀ {pm : List Bool} {vs : List V} {i : Nat}, pm.length = vs.length → pm[i]? = some true → ∃ v, (pinned pm vs)[i]? = some (some v)
  | [], _, _, _, h => by simp at h
  | true :: pm, w :: vs, 0, _, h => ⟨w, rfl⟩
  | false :: pm, w :: vs, 0, _, h => by cases h
  | true :: pm, w :: vs, i + 1, hl, h => by
    obtain ⟨v, q⟩ := pinned_of (pm := pm) (vs := vs) (i := i) (by simpa using hl) (by simpa using h)
    exact ⟨v, by simpa [pinned] using q⟩
  | false :: pm, w :: vs, i + 1, hl, h => by
    obtain ⟨v, q⟩ := pinned_of (pm := pm) (vs := vs) (i := i) (by simpa using hl) (by simpa using h)
    exact ⟨v, by simpa [pinned] using q⟩
theorem aft_get : ∀ {pm : List Bool} {ts : List T} {env : Ev} {ts' : List T}, aft pm ts env = some ts' → ts'.length = ts.length ∧ ∀ (i : Nat) t, ts'[i]? = some t → (pm[i]? = some true ∧ env[i]? = some (some t)) ∨ (∃ d, t = .fz d ∧ ts[i]? = some (.fz d))
  | [], [], env, ts', h => by cases h; exact ⟨rfl, fun i t h => by simp at h⟩
  | true :: pm, u :: ts, some t :: env, ts', h => by
    have h : (match aft pm ts env with | some r => some (t :: r) | none => none) = some ts' := h
    cases q : aft pm ts env with
    | none => rw [q] at h; cases h
    | some r =>
      rw [q] at h; cases h
      obtain ⟨l, g⟩ := aft_get q
      refine ⟨by simp [l], fun i t' hi => ?_⟩
      cases i with
      | zero => cases hi; exact .inl ⟨rfl, rfl⟩
      | succ i => simpa using g i t' (by simpa using hi)
  | false :: pm, .fz d :: ts, o :: env, ts', h => by
    have h : (match aft pm ts env with | some r => some (.fz d :: r) | none => none) = some ts' := h
    cases q : aft pm ts env with
    | none => rw [q] at h; cases h
    | some r =>
      rw [q] at h; cases h
      obtain ⟨l, g⟩ := aft_get q
      refine ⟨by simp [l], fun i t' hi => ?_⟩
      cases i with
      | zero => cases hi; exact .inr ⟨d, rfl, rfl⟩
      | succ i => simpa using g i t' (by simpa using hi)
section
variable {P : Program} {w : World} {K : PySem.W.Frag} {mg : Str → Option Value} {base : Heap} {F H F' H' : Hp} {B B' : Nat → Rg} {σ' : L2.St} {env' : Ev} {R : Rg}
/-- behind the body: what the caller gets -/
theorem Rel.out {vs : List V} {ts ts' : List T} {pm : List Bool} {v : V} {t : T} (hpm : pm.length = vs.length) (r0 : Rel K [] F H (vs.map some) (ts.map some) B) (le : Same F F') (r : Rel K (pinned pm vs) F' H' σ' env' B') (ha : aft pm ts env' = some ts') (o : OwnV K F' H' B' R v t) (s : Step F H (U B) F' H' (Ru (U B') R)) :
    ∃ B2, Rel K [] F' H' (vs.map some) (ts'.map some) B2 ∧ Step F H (U B) F' H' (Ru (U B2) R) ∧ OwnV K F' H' B2 R v t := by
  obtain ⟨hl, hg⟩ := aft_get ha
  have hvl : vs.length = ts.length := by have := r0.len; rwa [List.length_map, List.length_map] at this
  let B2 : Nat → Rg := fun i a => pm[i]? = some true ∧ B' i a
  have sub : ∀ a, U B2 a → U B' a := fun a ⟨i, _, h⟩ => ⟨i, h⟩
  refine ⟨B2, ⟨r.sub, by rw [List.length_map, List.length_map, hl, hvl], fun i u h => ?_, fun i j a h1 h2 => r.dis i j a h1.2 h2.2, fun i a h => r.off i a h.2, fun i a h => r.live i a h.2, fun i u h => by simp at h, r.tp⟩, s.less fun a h => h.imp (sub a) id, ⟨o.is, fun i a h1 h2 => o.dis i a h1 h2.2, o.off, o.live⟩⟩
  rw [List.getElem?_map] at h
  cases q : ts'[i]? with
  | none => rw [q] at h; cases h
  | some u' =>
    rw [q] at h; cases h
    rcases hg i u q with ⟨h1, h2⟩ | ⟨d, h1, h2⟩
    · obtain ⟨x, e1, e2⟩ := r.at_ i u h2
      obtain ⟨y, hy⟩ := pinned_of (vs := vs) hpm h1
      have e3 := r.fix i y hy
      rw [e1] at e3; cases e3
      refine ⟨x, by rw [List.getElem?_map, (pinned_get hy).2]; rfl, e2.mono (Same.refl _) (fun a z _ h => h) fun a h => ⟨h1, h⟩⟩
    · subst h1
      obtain ⟨x, e1, e2⟩ := r0.at_ i (.fz d) (by rw [List.getElem?_map, h2]; rfl)
      cases e2 with
      | fz hd => exact ⟨x, e1, .fz (hd.mono le)⟩
theorem Rel.entry {vs : List V} {ts : List T} {pm : List Bool} {N : List Str} (hpm : pm.length = vs.length) (r0 : Rel K [] F H (vs.map some) (ts.map some) B) : ∃ B2, Rel K (pinned pm vs) F H (start N vs) (Zl.entry N.length ts) B2 ∧ (∀ a, U B2 a → U B a) ∧ Mask pm (pinned pm vs) := by
  have hvl : vs.length = ts.length := by have := r0.len; rwa [List.length_map, List.length_map] at this
  refine ⟨B, ⟨r0.sub, ?_, fun i t h => ?_, r0.dis, r0.off, r0.live, fun i v h => ?_, r0.tp⟩, fun a h => h, fun i => ⟨fun h => pinned_of hpm h, fun ⟨v, h⟩ => (pinned_get h).1⟩⟩
  · unfold L2.start Zl.entry
    simp [hvl]
  · unfold Zl.entry at h
    have hi : i < ts.length := by
      by_cases hi : i < ts.length
      · exact hi
      · rw [List.getElem?_append_right (by simpa using hi), List.getElem?_replicate] at h
        split at h <;> cases h
    rw [List.getElem?_append_left (by simpa using hi)] at h
    obtain ⟨v, e1, e2⟩ := r0.at_ i t h
    refine ⟨v, ?_, e2⟩
    unfold L2.start
    rw [List.getElem?_append_left (by simpa [hvl] using hi)]
    exact e1
  · obtain ⟨h1, h2⟩ := pinned_get h
    unfold L2.start
    rw [List.getElem?_append_left (by simpa using (List.getElem?_eq_some_iff.mp h2).1), List.getElem?_map, h2]
    rfl
/-- THE RULE for a def -/
theorem z_fun {x qual : Str} {st : Stmt} {f : Addr} {fd : FuncData} {N ps : List Str} {k : Nat} {sp : DSp} (pm : List Bool) (Fn : Fun K x qual st f fd) (S : FnScope N ps (defScope st)) (hpm : pm.length = ps.length) (len : ∀ ts P, sp ts P → ts.length = ps.length)
    (hbody : ∀ (cdv : Value) (A : Around) (outer : List Env) (s : Shared) (H : Hp) (E : XK), Room k (A.deeper (envOfC qual (defScope st) s.heap.objs.size f cdv)) →
      ∃ w0, ZSs (cxOf CX0 P w K mg base N qual (defScope st) f cdv A outer s H E).nox pm (defBody st) w0 ∧ ∀ ts P, sp ts P → w0 (fin pm ts P) (Zl.entry N.length ts)) : FnOk P w K mg base CX0 (k + 1) f fd ps (spOf K sp) := by
  refine Fn.ok S (fun vs H Q E ⟨F, B, ts, P, r, h, _⟩ => ?_) fun cdv A outer s H vs Q E hr ⟨F, B, ts, P, r0, h, hq⟩ => ?_
  · have := r.len
    rw [List.length_map, List.length_map] at this
    rw [this]; exact len ts P h
  · obtain ⟨w0, hw, hb⟩ := hbody cdv A outer s H E hr
    have hvl : vs.length = ts.length := by have := r0.len; rwa [List.length_map, List.length_map] at this
    have hpv : pm.length = vs.length := by rw [hpm, hvl, len ts P h]
    obtain ⟨B2, r1, s1, m1⟩ := Rel.entry (N := N) hpv r0
    refine ⟨_, hw, pinned pm vs, F, B2, _, fin pm ts P, m1, r1, hb ts P h, ?_⟩
    have go : ∀ (t : T) (env' : Ev) (F' H' : Hp) (σ' : L2.St) (B' : Nat → Rg) (R' : Rg) (v : V), (match aft pm ts env' with | some ts' => P t ts' | none => False) → Step F H (U B2) F' H' (Ru (U B') R') → Rel K (pinned pm vs) F' H' σ' env' B' → OwnV K F' H' B' R' v t → Q v H' := fun t env' F' H' σ' B' R' v hp s2 r2 o2 => by
      cases q : aft pm ts env' with
      | none => rw [q] at hp; exact hp.elim
      | some ts' =>
        rw [q] at hp
        obtain ⟨B3, r3, s3, o3⟩ := Rel.out hpv r0 s2.le r2 q o2 (s2.more s1)
        exact hq t ts' hp F' H' B3 R' v s3 r3 o3
    exact ⟨fun env' F' H' σ' B' hp s2 r2 => go (.fz .non) env' F' H' σ' B' Rg0 .non hp s2.r0 r2 (OwnV.fz .non), fun t env' F' H' σ' B' R' v hp s2 r2 o2 => go t env' F' H' σ' B' R' v hp s2 r2 o2, fun env' F' H' σ' B' hp s2 r2 => hp.elim, fun env' F' H' σ' B' hp s2 r2 => hp.elim⟩
end
end Zl

namespace Zl
open PySem PySem.Spec PyProof.Rows L2

/-! ### tuples and lists written -/
def allD : List It2 → Option (List D)
  | [] => some []
  | .inl d :: as => match allD as with
    | some ds => some (d :: ds)
    | none => none
  | .inr _ :: _ => none
def wTup (wa : WA) : WE := fun env P => wa env fun as e => match allD as with
  | some ds => ds.length ≤ sizeLine ∧ P (.fz (.tup ds)) e
  | none => False
def wLst (wa : WA) : WE := fun env P => wa env fun as e => match allD as with
  | some ds => ds.length ≤ sizeLine ∧ P (.lst ds) e
  | none => False
section
variable {K : PySem.W.Frag} {F : Hp} {σ : L2.St}
theorem allD_ok : ∀ {as : List It2} {ds : List D} {vs : List V}, allD as = some ds → ItemsOk K F σ vs as → IsDs K F vs ds
  | [], ds, vs, h, i => by cases h; cases i; exact .nil
  | .inl d :: as, ds, _, h, .cons (.d hd) r => by
    have h : (match allD as with | some ds => some (d :: ds) | none => none) = some ds := h
    cases q : allD as with
    | none => rw [q] at h; cases h
    | some es => rw [q] at h; cases h; exact .cons hd (allD_ok q r)
  | .inr _ :: _, _, _, h, _ => by cases h
end
section
variable {X : Cx} {pm : List Bool} {es : List Expr} {wa : WA} {pos : Pos}
theorem ze_tup {k} (h : ZA X pm es wa) : ZE X pm (.Tuple es k pos) (wTup wa) := pe_imp (pe_tup h) fun σ H Q ⟨pv, F, B, env, P, m, rel, hw, hq⟩ =>
  ⟨pv, F, B, env, _, m, rel, hw, fun as e1 h1 F1 H1 B1 vs s1 r1 i1 => by
    cases q : allD as with
    | none => simp only [q] at h1
    | some ds =>
      simp only [q] at h1
      have hd := allD_ok q i1
      refine ⟨by rw [hd.length]; exact h1.1, fun p hp => ?_⟩
      have al := Alloc.frz (o := .tup vs) r1.sub hp
      obtain ⟨r2, s2, d2⟩ := r1.alloc al
      exact hq _ _ h1.2 _ _ B1 Rg0 _ (s1.trans s2) r2 (OwnV.fz (.tup upd_same (hd.mono al.le)))⟩
theorem ze_lst (h : ZA X pm es wa) : ZE X pm (.List es pos) (wLst wa) := pe_imp (pe_lst h) fun σ H Q ⟨pv, F, B, env, P, m, rel, hw, hq⟩ =>
  ⟨pv, F, B, env, _, m, rel, hw, fun as e1 h1 F1 H1 B1 vs s1 r1 i1 => by
    cases q : allD as with
    | none => simp only [q] at h1
    | some ds =>
      simp only [q] at h1
      have hd := allD_ok q i1
      refine ⟨by rw [hd.length]; exact h1.1, fun p hp => ?_⟩
      have al := Alloc.own (o := .lst vs) r1.sub hp
      obtain ⟨r2, s2, d2⟩ := r1.alloc al
      exact hq _ _ h1.2 _ _ B1 _ _ (s1.trans s2) r2 (r1.own al (.lst rfl upd_same hd))⟩
end

/-! ### lists of fields -/
def setA {α : Type} : List α → Nat → α → List α
  | [], 0, t => [t]
  | [], _ + 1, _ => []
  | _ :: r, 0, t => t :: r
  | x :: r, n + 1, t => x :: setA r n t
theorem setA_len {α : Type} : ∀ {xs : List α} {i : Nat} {t : α}, i ≤ xs.length → (setA xs i t).length = if i < xs.length then xs.length else xs.length + 1
  | [], 0, _, _ => rfl
  | [], i + 1, _, h => by simp at h
  | x :: r, 0, _, _ => by simp [setA]
  | x :: r, i + 1, t, h => by
    have ih := setA_len (xs := r) (i := i) (t := t) (by simpa using h)
    show (setA r i t).length + 1 = _
    rw [ih]
    by_cases z : i < r.length
    · rw [if_pos z, if_pos (by simpa using z)]; rfl
    · rw [if_neg z, if_neg (by simpa using z)]; rfl
theorem putF_zip : ∀ {ns : List Str} {vs : List V} {i : Nat} {f : Str} {y : V}, ns.Nodup → ns[i]? = some f → i ≤ vs.length → putF f y (ns.zip vs) = ns.zip (setA vs i y)
  | [], _, _, _, _, _, h, _ => by simp at h
  | n :: ns, [], 0, f, y, nd, h, _ => by cases h; show [(n, y)] = (n, y) :: ns.zip []; rw [List.zip_nil_right]
  | n :: ns, [], i + 1, f, y, nd, h, hl => by simp at hl
  | n :: ns, v :: vs, 0, f, y, nd, h, _ => by
    cases h
    show (if n = n then (n, y) :: ns.zip vs else _) = _
    rw [if_pos rfl]; rfl
  | n :: ns, v :: vs, i + 1, f, y, nd, h, hl => by
    have h : ns[i]? = some f := by simpa using h
    have hne : n ≠ f := fun e => (List.nodup_cons.mp nd).1 (by rw [e]; exact List.mem_of_getElem? h)
    show (if n = f then (n, y) :: ns.zip vs else (n, v) :: putF f y (ns.zip vs)) = (n, v) :: ns.zip (setA vs i y)
    rw [if_neg hne, putF_zip (List.nodup_cons.mp nd).2 h (by simpa using hl)]
theorem look_zip : ∀ {ns : List Str} {vs : List V} {i : Nat} {f : Str} {y : V}, ns.Nodup → ns[i]? = some f → vs[i]? = some y → (ns.zip vs).lookup f = some y
  | [], _, _, _, _, _, h, _ => by simp at h
  | n :: ns, [], i, f, y, nd, h, h2 => by simp at h2
  | n :: ns, v :: vs, 0, f, y, nd, h, h2 => by
    cases h; cases h2
    simp [List.lookup]
  | n :: ns, v :: vs, i + 1, f, y, nd, h, h2 => by
    have h : ns[i]? = some f := by simpa using h
    have hne : n ≠ f := fun e => (List.nodup_cons.mp nd).1 (by rw [e]; exact List.mem_of_getElem? h)
    have hb : (f == n) = false := beq_eq_false_iff_ne.mpr (Ne.symm hne)
    show List.lookup f ((n, v) :: ns.zip vs) = _
    simp only [List.lookup, hb]
    exact look_zip (List.nodup_cons.mp nd).2 h (by simpa using h2)
theorem look_none {ns : List Str} {vs : List V} {f : Str} (h : f ∉ ns) : (ns.zip vs).lookup f = none := by
  rw [List.lookup_eq_none_iff]
  intro p hp
  have := (List.of_mem_zip hp).1
  have hne : f ≠ p.1 := fun e => h (by rw [e]; exact this)
  simpa using hne
/-- what the walk asks of a class -/
structure ClsOk (K : PySem.W.Frag) (c : Cd) : Prop where
  cls : Cls K c.C
  no : ∀ f ∈ c.ns, NoAttr K c.C f
  nd : c.ns.Nodup
  few : c.ns.length < 1000

section
variable {K : PySem.W.Frag} {F H H' : Hp}
theorem IsTs.length : ∀ {R : Rg} {vs : List V} {ts : List T}, IsTs K F H R vs ts → vs.length = ts.length
  | _, _, _, .nil => rfl
  | _, _, _, .cons _ _ _ _ r => by rw [List.length_cons, List.length_cons, IsTs.length r]
/-- a field, and the field changed -/
theorem IsTs.upd : ∀ {R : Rg} {vs : List V} {ts : List T} {i : Nat} {t : T}, IsTs K F H R vs ts → ts[i]? = some t →
    ∃ v Ri, vs[i]? = some v ∧ (∀ a, Ri a → R a) ∧ IsT K F H Ri v t ∧ ∀ (H' : Hp) (t' : T), (∀ a o, ¬ Ri a → H a = some o → H' a = some o) → IsT K F H' Ri v t' → IsTs K F H' R vs (setA ts i t')
  | _, _, _, _, _, .nil, h => by simp at h
  | R, v :: vs, t0 :: ts, 0, t, .cons (R1 := R1) (R2 := R2) j1 j2 d h r, e => by
    cases e
    exact ⟨v, R1, rfl, j1, h, fun H' t' k h' => .cons j1 j2 d h' (r.mono (Same.refl _) (fun a o z q => k a o (fun y => d a y z) q) fun _ z => z)⟩
  | R, v :: vs, t0 :: ts, i + 1, t, .cons (R1 := R1) (R2 := R2) j1 j2 d h r, e => by
    obtain ⟨w, Ri, e1, s1, h1, k1⟩ := IsTs.upd (i := i) r (by simpa using e)
    exact ⟨w, Ri, by simpa using e1, fun a z => j2 a (s1 a z), h1, fun H' t' k h' => .cons j1 j2 d (h.mono (Same.refl _) (fun a o z q => k a o (fun y => d a z (s1 a y)) q) fun _ z => z) (k1 H' t' k h')⟩
/-- a field stored -/
theorem IsTs.put : ∀ {R Ry : Rg} {vs : List V} {ts : List T} {i : Nat} {y : V} {t : T}, IsTs K F H R vs ts → i ≤ ts.length → IsT K F H Ry y t → (∀ a, R a → Ry a → False) → IsTs K F H (Ru R Ry) (setA vs i y) (setA ts i t)
  | R, Ry, _, _, 0, y, t, .nil, _, h, _ => .cons (R1 := Ry) (R2 := Rg0) (fun _ z => .inr z) (fun _ z => z.elim) (fun _ _ z => z) h .nil
  | R, Ry, _, _, i + 1, y, t, .nil, hl, h, _ => by simp at hl
  | R, Ry, v :: vs, u :: ts, 0, y, t, .cons j1 j2 d q r, _, h, dd => .cons (R1 := Ry) (fun _ z => .inr z) (fun _ z => .inl (j2 _ z)) (fun a z z' => dd a (j2 a z') z) h r
  | R, Ry, v :: vs, u :: ts, i + 1, y, t, .cons (R1 := R1) (R2 := R2) j1 j2 d q r, hl, h, dd =>
    .cons (R1 := R1) (R2 := Ru R2 Ry) (fun _ z => .inl (j1 _ z)) (fun _ z => z.elim (fun z => .inl (j2 _ z)) .inr) (fun a z z' => z'.elim (d a z) fun z' => dd a (j1 a z) z') q (IsTs.put r (by simpa using hl) h fun a z z' => dd a (j2 a z) z')
end

/-! ### places: a name, or fields of the object of one's own that it holds -/
abbrev Pth := List (Cd × Nat)
def atP : T → Pth → (T → Prop) → Prop
  | t, [], k => k t
  | .ins c' ts, (c, i) :: p, k => c' = c ∧ match ts[i]? with
    | some t1 => atP t1 p k
    | none => False
  | _, _ :: _, _ => False
def setP : T → Pth → T → T
  | _, [], u => u
  | .ins c ts, (_, i) :: p, u => match ts[i]? with
    | some t1 => .ins c (setA ts i (setP t1 p u))
    | none => .ins c ts
  | t, _ :: _, _ => t
inductive PathV (H : Hp) : V → T → Pth → V → T → Prop
  | nil {v : V} {t : T} : PathV H v t [] v t
  | cons {a dx : Addr} {c : Cd} {vs : List V} {ts : List T} {i : Nat} {v1 v' : V} {t1 t' : T} {p : Pth} : H a = some (.ins c.C dx (c.ns.zip vs)) → vs[i]? = some v1 → ts[i]? = some t1 → PathV H v1 t1 p v' t' → PathV H (.ref a) (.ins c ts) ((c, i) :: p) v' t'
section
variable {K : PySem.W.Frag} {F H H' : Hp}
theorem PathV.mono (s : Same H H') {v v' : V} {t t' : T} {p : Pth} (h : PathV H v t p v' t') : PathV H' v t p v' t' := by
  induction h with
  | nil => exact .nil
  | cons h1 h2 h3 _ ih => exact .cons (s _ _ h1) h2 h3 ih
theorem PathV.snoc {v v' v1 : V} {t t1 : T} {p : Pth} {a dx : Addr} {c : Cd} {vs : List V} {ts : List T} {i : Nat} (h : PathV H v t p v' (.ins c ts)) (e : v' = .ref a) (h1 : H a = some (.ins c.C dx (c.ns.zip vs))) (h2 : vs[i]? = some v1) (h3 : ts[i]? = some t1) : PathV H v t (p ++ [(c, i)]) v1 t1 := by
  generalize hu : (T.ins c ts) = u at h
  induction h with
  | nil => subst hu; subst e; exact .cons h1 h2 h3 .nil
  | cons g1 g2 g3 _ ih => exact .cons g1 g2 g3 (ih e hu)
theorem IsT.path {v : V} {t : T} {R : Rg} : ∀ {p : Pth} {k : T → Prop}, IsT K F H R v t → atP t p k → ∃ v' u R', PathV H v t p v' u ∧ IsT K F H R' v' u ∧ (∀ a, R' a → R a) ∧ k u := by
  intro p
  induction p generalizing v t R with
  | nil => intro k h q; exact ⟨v, t, R, .nil, h, fun _ z => z, q⟩
  | cons x p ih =>
    intro k h q
    obtain ⟨c, i⟩ := x
    cases t with
    | fz _ => exact q.elim
    | lst _ => exact q.elim
    | map _ _ _ => exact q.elim
    | hole _ => exact q.elim
    | at_ _ _ => exact q.elim
    | ins c' ts =>
      have q : c' = c ∧ (match ts[i]? with | some t1 => atP t1 p k | none => False) := q
      obtain ⟨e0, q1⟩ := q
      subst e0
      cases e : ts[i]? with
      | none => rw [e] at q1; exact q1.elim
      | some t1 =>
        rw [e] at q1
        cases h with
        | ins r hh l n j hs =>
          obtain ⟨w, Ri, e1, s1, h1, _⟩ := hs.upd e
          obtain ⟨v', u, R', pv, hu, su, ku⟩ := ih h1 q1
          exact ⟨v', u, R', .cons hh e1 e pv, hu, fun a z => j a (s1 a (su a z)), ku⟩
/-- the object at the place is changed -/
theorem IsT.pathUpd {v v' : V} {t u : T} {p : Pth} (pv : PathV H v t p v' u) : ∀ {R : Rg}, IsT K F H R v t → ∃ R', (∀ a, R' a → R a) ∧ IsT K F H R' v' u ∧ ∀ (H' : Hp) (u' : T), (∀ a o, ¬ R' a → H a = some o → H' a = some o) → IsT K F H' R' v' u' → IsT K F H' R v (setP t p u') := by
  induction pv with
  | nil => intro R h; exact ⟨R, fun _ z => z, h, fun H' u' _ h' => h'⟩
  | @cons a dx c vs ts i v1 v' t1 t' p g1 g2 g3 pv ih =>
    intro R h
    cases h with
    | @ins _ R' _ dx' _ vs' _ r hh l n j hs =>
      rw [g1] at hh
      have ez : c.ns.zip vs = c.ns.zip vs' := by injection hh with hh; injection hh
      obtain ⟨w, Ri, e1, s1, h1, k1⟩ := hs.upd g3
      -- the field's value is the one of the path
      have hw : w = v1 := by
        have hi : i < c.ns.length := by
          have := (List.getElem?_eq_some_iff.mp e1).1
          omega
        have e2 : (c.ns.zip vs)[i]? = some (c.ns[i], v1) := by rw [List.getElem?_zip_eq_some]; exact ⟨List.getElem?_eq_getElem hi, g2⟩
        have e3 : (c.ns.zip vs')[i]? = some (c.ns[i], w) := by rw [List.getElem?_zip_eq_some]; exact ⟨List.getElem?_eq_getElem hi, e1⟩
        rw [ez, e3] at e2
        cases e2; rfl
      subst hw
      obtain ⟨R'', s2, h2, k2⟩ := ih h1
      refine ⟨R'', fun a z => j a (s1 a (s2 a z)), h2, fun H' u' k h' => ?_⟩
      have e : setP (.ins c ts) ((c, i) :: p) u' = .ins c (setA ts i (setP t1 p u')) := by
        show (match ts[i]? with | some t1 => T.ins c (setA ts i (setP t1 p u')) | none => .ins c ts) = _
        rw [g3]
      rw [e]
      refine .ins r (k _ _ (fun z => n (s1 _ (s2 _ z))) (g1.trans hh)) l n j (k1 H' _ (fun a o z q => k a o (fun y => z (s2 a y)) q) (k2 H' u' k h'))
end
section
variable {K : PySem.W.Frag} {pv : List (Option V)} {F H H' : Hp} {σ : L2.St} {env : Ev} {B : Nat → Rg} {v : V} {t t' : T} {j : Nat}
/-- the object that the name j holds is changed -/
theorem Rel.modify (r : Rel K pv F H σ env B) (g : gt env j = some t) (e : σ[j]? = some (some v)) (k : ∀ a o, ¬ B j a → H a = some o → H' a = some o) (lv : ∀ a, B j a → H' a ≠ none) (s : Same F H') (tq : Tq F H → Tq F H') (it : IsT K F H' (B j) v t') :
    Rel K pv F H' σ (st env j t') B ∧ Step F H (U B) F H' (U B) := by
  refine ⟨⟨s, by rw [st_eq, List.length_set]; exact r.len, fun i u h => ?_, r.dis, r.off, fun i a h => ?_, r.fix, tq r.tp⟩, .out (Same.refl _) (fun a o q n => k a o (fun z => n ⟨j, z⟩) q) (fun a h => .inl h) fun a h => .inl h⟩
  · rw [st_eq] at h
    by_cases z : i = j
    · subst z
      rw [List.getElem?_set] at h
      split at h
      · split at h
        · cases h; exact ⟨v, e, it⟩
        · cases h
      · rename_i n; exact absurd rfl n
    · rw [List.getElem?_set_ne (Ne.symm z)] at h
      obtain ⟨w, e1, e2⟩ := r.at_ i u h
      exact ⟨w, e1, e2.mono (Same.refl _) (fun a o hb q => k a o (fun y => z (r.dis i j a hb y)) q) fun _ z => z⟩
  · by_cases z : i = j
    · subst z; exact lv a h
    · cases q : H a with
      | none => exact absurd q (r.live i a h)
      | some o => rw [k a o (fun y => z (r.dis i j a h y)) q]; simp
/-- .. a list there -/
theorem Rel.modLst (r : Rel K pv F H σ env B) (g : gt env j = some t) (e : σ[j]? = some (some v)) {p : Pth} {v' : V} {ds : List D} (pth : PathV H v t p v' (.lst ds)) :
    ∃ a vs, v' = .ref a ∧ H a = some (.lst vs) ∧ IsDs K F vs ds ∧ ∀ vs' ds', IsDs K F vs' ds' → Rel K pv F (upd H a (.lst vs')) σ (st env j (setP t p (.lst ds'))) B ∧ Step F H (U B) F (upd H a (.lst vs')) (U B) := by
  obtain ⟨w, e1, e2⟩ := r.at_ j t (gt_some g)
  rw [e] at e1; cases e1
  obtain ⟨R', s1, h1, k1⟩ := IsT.pathUpd pth e2
  cases h1 with
  | @lst _ a vs _ ra ha hd =>
    refine ⟨a, vs, rfl, ha, hd, fun vs' ds' hd' => ?_⟩
    have k : ∀ b o, ¬ R' b → H b = some o → upd H a (.lst vs') b = some o := fun b o n q => by
      rw [upd_ne (fun z => n (by rw [z]; exact ra))]; exact q
    refine r.modify g e (fun b o n q => k b o (fun z => n (s1 b z)) q) (fun b hb => ?_) (fun b o q => ?_) (fun t => Tq.upd t fun ps z => by rw [ha] at z; cases z) (k1 _ _ k (.lst ra upd_same hd'))
    · by_cases z : b = a
      · subst z; rw [upd_same]; simp
      · rw [upd_ne z]; exact r.live j b hb
    · have : b ≠ a := fun z => by subst z; rw [r.off j b (s1 b ra)] at q; cases q
      rw [upd_ne this]; exact r.sub b o q
end

/-! ### quiet expressions: they change no name and no object -/
abbrev WQ := Ev → (D → Prop) → Prop
abbrev WQs := Ev → (List D → Prop) → Prop
def TQ (X : Cx) (pm : List Bool) (w : WQ) : TE := fun σ H Q => ∃ pv F B env P, Mask pm pv ∧ Rel X.K pv F H σ env B ∧ w env P ∧ ∀ d, P d → ∀ F' H' v, Alloc F H F' H' Rg0 → Pk X.K F' H' v d → Q v H'
def TQv (X : Cx) (pm : List Bool) (w : WQ) : TE := fun σ H Q => ∃ pv F B env P, Mask pm pv ∧ Rel X.K pv F H σ env B ∧ w env P ∧ ∀ d, P d → ∀ F' H' v, Alloc F H F' H' Rg0 → IsD X.K F' v d → Q v H'
def TQs (X : Cx) (pm : List Bool) (w : WQs) : TA := fun σ H Q => ∃ pv F B env P, Mask pm pv ∧ Rel X.K pv F H σ env B ∧ w env P ∧ ∀ ds, P ds → ∀ F' H' vs, Alloc F H F' H' Rg0 → Pks X.K F' H' vs ds → Q vs H'
def TQvs (X : Cx) (pm : List Bool) (w : WQs) : TA := fun σ H Q => ∃ pv F B env P, Mask pm pv ∧ Rel X.K pv F H σ env B ∧ w env P ∧ ∀ ds, P ds → ∀ F' H' vs, Alloc F H F' H' Rg0 → IsDs X.K F' vs ds → Q vs H'
abbrev ZQ (X : Cx) (pm : List Bool) (e : Expr) (w : WQ) : Prop := PE X e (TQ X pm w)
abbrev ZV (X : Cx) (pm : List Bool) (e : Expr) (w : WQ) : Prop := PE X e (TQv X pm w)
abbrev ZQs (X : Cx) (pm : List Bool) (es : List Expr) (w : WQs) : Prop := PA X es (TQs X pm w)
abbrev ZVs (X : Cx) (pm : List Bool) (es : List Expr) (w : WQs) : Prop := PA X es (TQvs X pm w)
section
variable {K : PySem.W.Frag} {F H F1 H1 F2 H2 : Hp} {R : Rg} {v : V} {d : D} {t : T}
theorem Alloc.trans (a : Alloc F H F1 H1 Rg0) (b : Alloc F1 H1 F2 H2 R) : Alloc F H F2 H2 R where
  le := a.le.trans b.le
  kp := a.kp.trans b.kp
  sub := b.sub
  newF := fun x h => by
    rcases b.newF x h with z | z
    · exact a.newF x z
    · exact .inr (a.kp.free z)
  new := fun x h => a.kp.free (b.new x h)
  off := b.off
  live := b.live
  tp := fun t => b.tp (a.tp t)
theorem Alloc.freeze (a : Alloc F H F1 H1 R) (h : IsT K F1 H1 R v t) : ∃ F2, Alloc F H F2 H1 Rg0 ∧ IsD K F2 v t.fr := by
  classical
  have off_ : ∀ {b : Addr}, ¬ (R b ∧ ∀ ps, H1 b ≠ some (.tbl ps)) → (if R b ∧ ∀ ps, H1 b ≠ some (.tbl ps) then H1 b else F1 b) = F1 b := fun z => if_neg z
  have hl : Same F1 (fun b => if R b ∧ ∀ ps, H1 b ≠ some (.tbl ps) then H1 b else F1 b) := fun b x q => (off_ fun z => by rw [a.off b z.1] at q; cases q).trans q
  refine ⟨fun b => if R b ∧ ∀ ps, H1 b ≠ some (.tbl ps) then H1 b else F1 b, ⟨a.le.trans hl, a.kp, fun b x q => ?_, fun b q => ?_, fun _ z => z.elim, fun _ z => z.elim, fun _ z => z.elim, fun t => (a.tp t).le hl fun b ⟨ps, e⟩ n => (off_ fun z => z.2 ps e).trans n⟩, h.freeze hl fun b x z e nt => (if_pos (⟨z, fun ps q => nt ps (Option.some.inj (e.symm.trans q))⟩ : R b ∧ ∀ ps, H1 b ≠ some (.tbl ps))).trans e⟩
  · replace q : (if R b ∧ ∀ ps, H1 b ≠ some (.tbl ps) then H1 b else F1 b) = some x := q
    by_cases z : R b ∧ ∀ ps, H1 b ≠ some (.tbl ps)
    · rw [if_pos z] at q; exact q
    · rw [if_neg z] at q; exact a.sub b x q
  · replace q : (if R b ∧ ∀ ps, H1 b ≠ some (.tbl ps) then H1 b else F1 b) ≠ none := q
    by_cases z : R b
    · exact .inr (a.new b z)
    · rw [if_neg fun y => z y.1] at q; exact a.newF b q
mutual
theorem Pk.mono (l : Same F F1) (s : Same H H1) : ∀ {v : V} {d : D}, Pk K F H v d → Pk K F1 H1 v d
  | _, _, .d h => .d (h.mono l)
  | _, _, .lst h q => .lst (s _ _ h) (q.mono l)
  | _, _, .ins h l => .ins (s _ _ h) l
  | _, _, .map h e ko q => .map (s _ _ h) e ko (Pks.mono l s q)
  | _, _, .unk => .unk
theorem Pks.mono (l : Same F F1) (s : Same H H1) : ∀ {vs : List V} {ds : List D}, Pks K F H vs ds → Pks K F1 H1 vs ds
  | _, _, .nil => .nil
  | _, _, .cons h r => .cons (h.mono l s) (Pks.mono l s r)
end
end
def qC (d : D) : WQ := fun _ P => P d
def qS (j : Nat) : WQ := fun env P => match gt env j with
  | some t => P t.fr
  | none => False
/-- a name that holds data -/
def qV (j : Nat) : WQ := fun env P => match gt env j with
  | some (.fz d) => P d
  | _ => False
/-- the object of one's own at a place -/
def qP (j : Nat) (p : Pth) : WQ := fun env P => match gt env j with
  | some t => atP t p fun u => P u.fr
  | none => False
/-- data at a place -/
def qPv (j : Nat) (p : Pth) : WQ := fun env P => match gt env j with
  | some t => atP t p fun u => match u with
    | .fz d => P d
    | _ => False
  | none => False
/-- a field of data -/
def qF (c : Cd) (i : Nat) (w : WQ) : WQ := fun env P => w env fun d => match d with
  | .ins c' ds => c' = c ∧ match ds[i]? with
    | some x => P x
    | none => False
  | _ => False
def q2 (g : D → D → (T → Prop) → Prop) (wa wb : WQ) : WQ := fun env P => wa env fun x => wb env fun y => g x y fun z => P z.fr
def q1 (g : D → (T → Prop) → Prop) (wa : WQ) : WQ := fun env P => wa env fun x => g x fun z => P z.fr
def qN (g : List D → (T → Prop) → Prop) (wa : WQs) : WQ := fun env P => wa env fun ds => g ds fun z => P z.fr
def qNil : WQs := fun _ P => P []
def qCons (w : WQ) (r : WQs) : WQs := fun env P => w env fun d => r env fun ds => P (d :: ds)
def qT (wa : WQs) : WQ := fun env P => wa env fun ds => ds.length ≤ sizeLine ∧ P (.tup ds)
section
variable {X : Cx} {pm : List Bool} {a b e : Expr} {es : List Expr} {w wa wb : WQ} {ws : WQs} {pos : Pos}
theorem zq_v (h : ZV X pm e w) : ZQ X pm e w := pe_imp h fun σ H Q ⟨pv, F, B, env, P, m, rel, hw, hq⟩ => ⟨pv, F, B, env, P, m, rel, hw, fun d hd F' H' v al i => hq d hd F' H' v al (.d i)⟩
theorem ze_v (h : ZV X pm e w) : ZE X pm e (fun env P => w env fun d => P (.fz d) env) := pe_imp h fun σ H Q ⟨pv, F, B, env, P, m, rel, hw, hq⟩ => ⟨pv, F, B, env, _, m, rel, hw, fun d hd F' H' v al i => by
  obtain ⟨r1, s1, _⟩ := rel.alloc al
  exact hq _ _ hd F' H' B Rg0 v s1 r1 (OwnV.fz i)⟩
theorem zv_c {v : V} {d : D} (h : PE X e (tC v)) (hd : ∀ K F, IsD K F v d) : ZV X pm e (qC d) := pe_imp h fun σ H Q ⟨pv, F, B, env, P, m, rel, hw, hq⟩ => hq d hw F H v (.refl rel.sub) (hd _ _)
theorem zv_int {i : Int} {j} : ZV X pm (.Constant (.int i) j pos) (qC (.int i)) := zv_c pe_int fun _ _ => .int i
theorem zv_bl {b : Bool} {j} : ZV X pm (.Constant (.bool b) j pos) (qC (.bl b)) := zv_c pe_bl fun _ _ => .bl b
theorem zv_non {j} : ZV X pm (.Constant .none j pos) (qC .non) := zv_c pe_non fun _ _ => .non
theorem zv_str {x : Str} {j} : ZV X pm (.Constant (.str x) j pos) (qC (.str x)) := zv_c pe_str fun _ _ => .str x
theorem zq_s (j : Nat) {x : Str} (hN : X.N[j]? = some x := by rfl) (hv : Vis X.env.scope x := by first | exact Or.inl rfl | exact Or.inr (Or.inl rfl) | exact Or.inr (Or.inr rfl)) (hd : (x == ("__debug__" : Str)) = false := by decide)
    (hcd : (x == ("__classdict__" : Str)) = false := by decide) : ZQ X pm (.Name x pos) (qS j) := pe_imp (pe_var hN hv hd hcd) fun σ H Q ⟨pv, F, B, env, P, m, rel, hw, hq⟩ => by
  have hw : (match gt env j with | some t => P t.fr | none => False) := hw
  cases g : gt env j with
  | none => rw [g] at hw; exact hw.elim
  | some t =>
    rw [g] at hw
    obtain ⟨v, e1, e2⟩ := rel.at_ j t (gt_some g)
    exact ⟨v, e1, hq _ hw F H v (.refl rel.sub) (.of e2)⟩
theorem zv_s (j : Nat) {x : Str} (hN : X.N[j]? = some x := by rfl) (hv : Vis X.env.scope x := by first | exact Or.inl rfl | exact Or.inr (Or.inl rfl) | exact Or.inr (Or.inr rfl)) (hd : (x == ("__debug__" : Str)) = false := by decide)
    (hcd : (x == ("__classdict__" : Str)) = false := by decide) : ZV X pm (.Name x pos) (qV j) := pe_imp (pe_var hN hv hd hcd) fun σ H Q ⟨pv, F, B, env, P, m, rel, hw, hq⟩ => by
  have hw : (match gt env j with | some (.fz d) => P d | _ => False) := hw
  cases g : gt env j with
  | none => rw [g] at hw; exact hw.elim
  | some t =>
    rw [g] at hw
    obtain ⟨v, e1, e2⟩ := rel.at_ j t (gt_some g)
    cases t with
    | fz d =>
      cases e2 with
      | fz h => exact ⟨v, e1, hq _ hw F H v (.refl rel.sub) h⟩
    | lst _ => exact hw.elim
    | ins _ _ => exact hw.elim
    | map _ _ _ => exact hw.elim
    | hole _ => exact hw.elim
    | at_ _ _ => exact hw.elim
/-- a place -/
def TPl (X : Cx) (pm : List Bool) (j : Nat) (p : Pth) : TE := fun σ H Q => ∃ pv F B env t k, Mask pm pv ∧ Rel X.K pv F H σ env B ∧ gt env j = some t ∧ atP t p k ∧ ∀ v0 v u R, σ[j]? = some (some v0) → PathV H v0 t p v u → IsT X.K F H R v u → k u → Q v H
abbrev ZP (X : Cx) (pm : List Bool) (e : Expr) (j : Nat) (p : Pth) : Prop := PE X e (TPl X pm j p)
theorem zp_s (j : Nat) {x : Str} (hN : X.N[j]? = some x := by rfl) (hv : Vis X.env.scope x := by first | exact Or.inl rfl | exact Or.inr (Or.inl rfl) | exact Or.inr (Or.inr rfl)) (hd : (x == ("__debug__" : Str)) = false := by decide)
    (hcd : (x == ("__classdict__" : Str)) = false := by decide) : ZP X pm (.Name x pos) j [] := pe_imp (pe_var hN hv hd hcd) fun σ H Q ⟨pv, F, B, env, t, k, m, rel, g, ha, hq⟩ => by
  obtain ⟨v, e1, e2⟩ := rel.at_ j t (gt_some g)
  exact ⟨v, e1, hq v v t _ e1 .nil e2 ha⟩
theorem atP_snoc : ∀ {t : T} {p : Pth} {c : Cd} {i : Nat} {k : T → Prop}, atP t (p ++ [(c, i)]) k → atP t p fun u => ∃ ts t1, u = .ins c ts ∧ ts[i]? = some t1 ∧ k t1
  | .ins c' ts, [], c, i, k, h => by
    have h : c' = c ∧ (match ts[i]? with | some t1 => k t1 | none => False) := h
    obtain ⟨e0, h1⟩ := h
    subst e0
    cases e : ts[i]? with
    | none => rw [e] at h1; exact h1.elim
    | some t1 => rw [e] at h1; exact ⟨ts, t1, rfl, e, h1⟩
  | .fz _, [], _, _, _, h => h.elim
  | .lst _, [], _, _, _, h => h.elim
  | .map _ _ _, [], _, _, _, h => h.elim
  | .hole _, [], _, _, _, h => h.elim
  | .at_ _ _, [], _, _, _, h => h.elim
  | .ins c' ts, (c0, i0) :: p, c, i, k, h => by
    have h : c' = c0 ∧ (match ts[i0]? with | some t1 => atP t1 (p ++ [(c, i)]) k | none => False) := h
    refine ⟨h.1, ?_⟩
    cases e : ts[i0]? with
    | none => rw [e] at h; exact h.2.elim
    | some t1 => rw [e] at h; exact atP_snoc h.2
  | .fz _, _ :: _, _, _, _, h => h.elim
  | .lst _, _ :: _, _, _, _, h => h.elim
  | .map _ _ _, _ :: _, _, _, _, h => h.elim
  | .hole _, _ :: _, _, _, _, h => h.elim
  | .at_ _ _, _ :: _, _, _, _, h => h.elim
theorem zp_f {j : Nat} {p : Pth} {c : Cd} (i : Nat) {f : Str} {pos' : Pos} (hc : ClsOk X.K c) (h : ZP X pm e j p) (hi : c.ns[i]? = some f := by rfl) (hb : attributeBase e f X.env (eval e X.env) = eval e X.env := by rfl) : ZP X pm (.Attribute e f pos') j (p ++ [(c, i)]) :=
  pe_imp (pe_fld h hb) fun σ H Q ⟨pv, F, B, env, t, k, m, rel, g, ha, hq⟩ => ⟨pv, F, B, env, t, _, m, rel, g, atP_snoc ha, fun v0 v u R e1 hp hu ⟨ts, t1, eu, et, kt⟩ => by
    subst eu
    cases hu with
    | @ins _ R' a dx _ vs _ r hh l n jj hs =>
      obtain ⟨w, Ri, e2, s2, h2, _⟩ := hs.upd et
      exact ⟨a, c.C, dx, _, w, rfl, hh, hc.cls, hc.no f (List.mem_of_getElem? hi), look_zip hc.nd hi e2, hq v0 w t1 Ri e1 (hp.snoc rfl hh e2 et) h2 kt⟩⟩
theorem zq_p {j : Nat} {p : Pth} (h : ZP X pm e j p) : ZQ X pm e (qP j p) := pe_imp h fun σ H Q ⟨pv, F, B, env, P, m, rel, hw, hq⟩ => by
  have hw : (match gt env j with | some t => atP t p fun u => P u.fr | none => False) := hw
  cases g : gt env j with
  | none => rw [g] at hw; exact hw.elim
  | some t =>
    rw [g] at hw
    exact ⟨pv, F, B, env, t, _, m, rel, g, hw, fun v0 v u R e1 hp hu ku => hq _ ku F H v (.refl rel.sub) (.of hu)⟩
theorem zv_p {j : Nat} {p : Pth} (h : ZP X pm e j p) : ZV X pm e (qPv j p) := pe_imp h fun σ H Q ⟨pv, F, B, env, P, m, rel, hw, hq⟩ => by
  have hw : (match gt env j with | some t => atP t p fun u => (match u with | .fz d => P d | _ => False) | none => False) := hw
  cases g : gt env j with
  | none => rw [g] at hw; exact hw.elim
  | some t =>
    rw [g] at hw
    refine ⟨pv, F, B, env, t, _, m, rel, g, hw, fun v0 v u R e1 hp hu ku => ?_⟩
    cases u with
    | fz d =>
      cases hu with
      | fz h => exact hq _ ku F H v (.refl rel.sub) h
    | lst _ => exact ku.elim
    | ins _ _ => exact ku.elim
    | map _ _ _ => exact ku.elim
    | hole _ => exact ku.elim
    | at_ _ _ => exact ku.elim
theorem zv_f {c : Cd} (i : Nat) {f : Str} {pos' : Pos} (hc : ClsOk X.K c) (h : ZV X pm e w) (hi : c.ns[i]? = some f := by rfl) (hb : attributeBase e f X.env (eval e X.env) = eval e X.env := by rfl) : ZV X pm (.Attribute e f pos') (qF c i w) :=
  pe_imp (pe_fld h hb) fun σ H Q ⟨pv, F, B, env, P, m, rel, hw, hq⟩ => ⟨pv, F, B, env, _, m, rel, hw, fun d hd F' H' v al k => by
    cases d <;> first
      | exact hd.elim
      | skip
    rename_i c' ds
    obtain ⟨rfl, hd⟩ := hd
    cases k with
    | @ins a dx _ vs _ hh l hs =>
      cases e : ds[i]? with
      | none => simp only [e] at hd
      | some x =>
        simp only [e] at hd
        obtain ⟨y, e1, e2⟩ := hs.get e
        exact ⟨a, _, dx, _, y, rfl, al.sub _ _ hh, hc.cls, hc.no f (List.mem_of_getElem? hi), look_zip hc.nd hi e1, hq _ hd F' H' y al e2⟩⟩
theorem tq_op2 {r : R2} {g} (O : Op2 X.K r g) {σ H Q} : TQv X pm (q2 g wa wb) σ H Q → tOp r (TQ X pm wa) (TQ X pm wb) σ H Q := fun ⟨pv, F, B, env, P, m, rel, hw, hq⟩ =>
  ⟨pv, F, B, env, _, m, rel, hw, fun x hx F1 H1 v a1 k1 => by
    obtain ⟨r1, s1, _⟩ := rel.alloc a1
    exact ⟨pv, F1, B, env, _, m, r1, hx, fun y hy F2 H2 u a2 k2 => by
      have a12 := a1.trans a2
      refine O.run F2 H2 v u x y _ _ a12.sub (k1.mono a2.le a2.kp) k2 hy fun z w' F3 H3 R3 hz a3 it => ?_
      obtain ⟨F4, a4, d4⟩ := (a12.trans a3).freeze it
      exact hq _ hz F4 H3 w' a4 d4⟩⟩
theorem tq_op1 {r : V → Hp → VK → Prop} {g} (O : Op1 X.K r g) {σ H Q} : TQv X pm (q1 g wa) σ H Q → tUn r (TQ X pm wa) σ H Q := fun ⟨pv, F, B, env, P, m, rel, hw, hq⟩ =>
  ⟨pv, F, B, env, _, m, rel, hw, fun x hx F1 H1 v a1 k1 => by
    refine O.run F1 H1 v x _ _ a1.sub k1 hx fun z w' F3 H3 R3 hz a3 it => ?_
    obtain ⟨F4, a4, d4⟩ := (a1.trans a3).freeze it
    exact hq _ hz F4 H3 w' a4 d4⟩
theorem tq_opN {r : List V → Hp → VK → Prop} {g} (O : OpN X.K r g) {σ H Q} : TQv X pm (qN g ws) σ H Q → tCB r (TQs X pm ws) σ H Q := fun ⟨pv, F, B, env, P, m, rel, hw, hq⟩ =>
  ⟨pv, F, B, env, _, m, rel, hw, fun x hx F1 H1 v a1 k1 => by
    refine O.run F1 H1 v x _ _ a1.sub k1 hx fun z w' F3 H3 R3 hz a3 it => ?_
    obtain ⟨F4, a4, d4⟩ := (a1.trans a3).freeze it
    exact hq _ hz F4 H3 w' a4 d4⟩
theorem zqs_nil : ZQs X pm [] qNil := pa_imp pa_nil fun σ H Q ⟨pv, F, B, env, P, m, rel, hw, hq⟩ => hq _ hw F H [] (.refl rel.sub) .nil
theorem zqs_cons (h : ZQ X pm e w) (hr : ZQs X pm es ws) (hs : starEach (e :: es) X.env = (false, eval e X.env) :: starEach es X.env := by rfl) : ZQs X pm (e :: es) (qCons w ws) :=
  pa_imp (pa_cons h hr hs) fun σ H Q ⟨pv, F, B, env, P, m, rel, hw, hq⟩ => ⟨pv, F, B, env, _, m, rel, hw, fun x hx F1 H1 v a1 k1 => by
    obtain ⟨r1, s1, _⟩ := rel.alloc a1
    exact ⟨pv, F1, B, env, _, m, r1, hx, fun ds hds F2 H2 vs a2 k2 => hq _ hds F2 H2 _ (a1.trans a2) (.cons (k1.mono a2.le a2.kp) k2)⟩⟩
theorem zvs_nil : ZVs X pm [] qNil := pa_imp pa_nil fun σ H Q ⟨pv, F, B, env, P, m, rel, hw, hq⟩ => hq _ hw F H [] (.refl rel.sub) .nil
theorem zvs_cons (h : ZV X pm e w) (hr : ZVs X pm es ws) (hs : starEach (e :: es) X.env = (false, eval e X.env) :: starEach es X.env := by rfl) : ZVs X pm (e :: es) (qCons w ws) :=
  pa_imp (pa_cons h hr hs) fun σ H Q ⟨pv, F, B, env, P, m, rel, hw, hq⟩ => ⟨pv, F, B, env, _, m, rel, hw, fun x hx F1 H1 v a1 k1 => by
    obtain ⟨r1, s1, _⟩ := rel.alloc a1
    exact ⟨pv, F1, B, env, _, m, r1, hx, fun ds hds F2 H2 vs a2 k2 => hq _ hds F2 H2 _ (a1.trans a2) (.cons (k1.mono a2.le) k2)⟩⟩
theorem zv_op2 {op : Operator} {r : R2} {g} (hr : OpR X (binaryOp op) r) (O : Op2 X.K r g) (ha : ZQ X pm a wa) (hb : ZQ X pm b wb) : ZV X pm (.BinOp a op b pos) (q2 g wa wb) := pe_imp (pe_op hr ha hb) fun _ _ _ => tq_op2 O
theorem zv_un {op : UnaryOp} {r : V → Hp → VK → Prop} {g} (hr : UnR X (unaryOp op) r) (O : Op1 X.K r g) (ha : ZQ X pm a wa) : ZV X pm (.UnaryOp op a pos) (q1 g wa) := pe_imp (pe_un hr ha) fun _ _ _ => tq_op1 O
theorem zv_cmp {op : CmpOp} {r : R2} {g} (hr : OpR X (compareOp op) r) (O : Op2 X.K r g) (ha : ZQ X pm a wa) (hb : ZQ X pm b wb) (hm : behindInMarks op b = false) : ZV X pm (.Compare a [op] [b] pos) (q2 g wa wb) := pe_imp (pe_cmpR hr ha hb hm) fun _ _ _ => tq_op2 O
theorem zv_ix {r : R2} {g} (hr : IxR X r) (O : Op2 X.K r g) (ha : ZQ X pm a wa) (hb : ZQ X pm b wb) (hp : PlainIx b) : ZV X pm (.Subscript a b pos) (q2 g wa wb) := pe_imp (pe_ix hr ha hb hp) fun _ _ _ => tq_op2 O
theorem zv_callB {x : Str} {p : Pos} {id : String} {r : List V → Hp → VK → Prop} {g} (hc : CallR X (.builtin id) r) (O : OpN X.K r g) (hg : Gl X x) (hm : X.mg x = none) (hv : bootBuiltins x = some (.builtin id)) (ha : ZQs X pm (e :: es) ws) (hn : x ≠ "__name__" := by decide) (hdb : (x == ("__debug__" : Str)) = false := by decide)
    (he : starEach (e :: es) X.env = (false, eval e X.env) :: starEach es X.env := by rfl) (hpl : (backTo pos (starEach es X.env)).any (·.1) = false := by rfl) : ZV X pm (.Call (.Name x p) (e :: es) [] pos) (qN g ws) :=
  pe_imp (pe_callB hc hg hm hv ha hn hdb he hpl) fun _ _ _ => tq_opN O
theorem zv_callTy {x : Str} {p : Pos} {id : String} {r : List V → Hp → VK → Prop} {g} (hc : CallR X (.type id) r) (O : OpN X.K r g) (hg : Gl X x) (hm : X.mg x = none) (hv : bootBuiltins x = some (.type id)) (ha : ZQs X pm (e :: es) ws) (hn : x ≠ "__name__" := by decide) (hdb : (x == ("__debug__" : Str)) = false := by decide)
    (he : starEach (e :: es) X.env = (false, eval e X.env) :: starEach es X.env := by rfl) (hpl : (backTo pos (starEach es X.env)).any (·.1) = false := by rfl) : ZV X pm (.Call (.Name x p) (e :: es) [] pos) (qN g ws) :=
  pe_imp (pe_callTy hc hg hm hv ha hn hdb he hpl) fun _ _ _ => tq_opN O
theorem zv_tup {k} (h : ZVs X pm es ws) : ZV X pm (.Tuple es k pos) (qT ws) := pe_imp (pe_tup h) fun σ H Q ⟨pv, F, B, env, P, m, rel, hw, hq⟩ => ⟨pv, F, B, env, _, m, rel, hw, fun ds hd F1 H1 vs a1 k1 => by
  refine ⟨by rw [k1.length]; exact hd.1, fun p hp => ?_⟩
  have al := Alloc.frz (o := .tup vs) a1.sub hp
  exact hq _ hd.2 _ _ _ (a1.trans al) (.tup upd_same (k1.mono al.le))⟩
end

/-! ### list methods that change the list -/
/-- g: the list as it stands, the arguments; the answer, the list behind -/
structure MutL (K : PySem.W.Frag) (r : V → List V → Hp → VK → Prop) (g : List D → List D → (D → List D → Prop) → Prop) : Prop where
  run : ∀ (F H : Hp) (a : Addr) (vs : List V) (ds : List D) (as : List V) (es : List D) (P : D → List D → Prop) (Q : VK), Same F H → H a = some (.lst vs) → IsDs K F vs ds → IsDs K F as es → g ds es P →
    (∀ (z : D) (ds' : List D) (w' : V) (vs' : List V), P z ds' → IsD K F w' z → IsDs K F vs' ds' → Q w' (upd H a (.lst vs'))) → r (.ref a) as H Q
def wMut (g : List D → List D → (D → List D → Prop) → Prop) (j : Nat) (wa : WA) : WE := fun env P => (match gt env j with
  | some (.lst _) => True
  | _ => False) ∧ wa env fun as e => match gt e j, allD as with
  | some (.lst ds), some es => g ds es fun z ds' => P (.fz z) (st e j (.lst ds'))
  | _, _ => False
def wMutP (g : List D → List D → (D → List D → Prop) → Prop) (j : Nat) (p : Pth) (wa : WQs) : WE := fun env P => match gt env j with
  | some t => atP t p fun u => match u with
    | .lst ds => wa env fun es => g ds es fun z ds' => P (.fz z) (st env j (setP t p (.lst ds')))
    | _ => False
  | none => False
section
variable {X : Cx} {pm : List Bool} {o e : Expr} {es : List Expr} {wa : WA} {ws : WQs} {name : Str} {apos cpos : Pos} {id : String} {r : V → List V → Hp → VK → Prop} {g : List D → List D → (D → List D → Prop) → Prop} {x : Str} {pos : Pos}
theorem tm_slot {j : Nat} (O : MutL X.K r g) {σ : L2.St} {H : Hp} {Q : VK} (h : TZ X pm (wMut g j wa) σ H Q) : ∃ v, σ[j]? = some (some v) ∧ tyV X.K "list" v H ∧ TAz X pm wa σ H fun xs H2 => r v xs H2 Q := by
  obtain ⟨pv, F, B, env, P, m, rel, ⟨hs, hw⟩, hq⟩ := h
  cases g0 : gt env j with
  | none => simp only [g0] at hs
  | some t =>
    cases t with
    | fz _ => simp only [g0] at hs
    | ins _ _ => simp only [g0] at hs
    | map _ _ _ => simp only [g0] at hs
    | hole _ => simp only [g0] at hs
    | at_ _ _ => simp only [g0] at hs
    | lst ds0 =>
      obtain ⟨v, e1, e2⟩ := rel.at_ j _ (gt_some g0)
      cases e2 with
      | lst ra ha hd =>
        refine ⟨_, e1, .inl ⟨rfl, _, SqL.of ha⟩, pv, F, B, env, _, m, rel, hw, fun as e3 h1 F1 H1 B1 vs s1 r1 i1 => ?_⟩
        cases g1 : gt e3 j with
        | none => simp only [g1] at h1
        | some t =>
          cases t with
          | fz _ => simp only [g1] at h1
          | ins _ _ => simp only [g1] at h1
          | map _ _ _ => simp only [g1] at h1
          | hole _ => simp only [g1] at h1
          | at_ _ _ => simp only [g1] at h1
          | lst ds =>
            cases q : allD as with
            | none => simp only [g1, q] at h1
            | some es =>
              simp only [g1, q] at h1
              obtain ⟨a, us, ea, hu, du, k⟩ := r1.modLst g1 e1 (p := []) .nil
              cases ea
              refine O.run F1 H1 _ us ds vs es _ _ r1.sub hu du (allD_ok q i1) h1 fun z ds' w' vs' hz hz' hvs => ?_
              obtain ⟨r2, s2⟩ := k vs' ds' hvs
              exact hq _ _ hz F1 _ B1 Rg0 w' (s1.trans s2).r0 r2 (OwnV.fz hz')
theorem ze_mut (j : Nat) (slot : Slot "list" name id) (hty : typeOf (.builtin id) = pure (.type "method_descriptor")) (hm : MtR X id r) (O : MutL X.K r g) (ha : ZA X pm (e :: es) wa) (hN : X.N[j]? = some x := by rfl) (hv : Vis X.env.scope x := by first | exact Or.inl rfl | exact Or.inr (Or.inl rfl) | exact Or.inr (Or.inr rfl)) (hd : (x == ("__debug__" : Str)) = false := by decide)
    (hcd : (x == ("__classdict__" : Str)) = false := by decide)
    (hbase : attributeBase (.Name x pos) name X.env (eval (.Name x pos) X.env) = eval (.Name x pos) X.env := by rfl)
    (hfew : ((backTo cpos (starEach (e :: es) X.env)).all (fun x => !x.1) && (backToKw cpos (keywordEach [] X.env)).all (fun x => x.1.isSome)
      && decide ((e :: es).length + ([] : List Keyword).length + (if ([] : List Keyword).isEmpty then 0 else 1) < 30)) = true := by rfl)
    (hline : (apos.endLine == cpos.line) = true := by rfl) (hs : starEach (e :: es) X.env = (false, eval e X.env) :: starEach es X.env := by rfl) (hplain : (backTo cpos (starEach es X.env)).any (·.1) = false := by rfl) :
    ZE X pm (.Call (.Attribute (.Name x pos) name apos) (e :: es) [] cpos) (wMut g j wa) := pe_imp (pe_bm PySem.F.plainAttrs_list slot hty hm (pe_var hN hv hd hcd) ha hbase hfew hline hs hplain) fun σ H Q h => tm_slot O h
theorem ze_mut0 (j : Nat) (slot : Slot "list" name id) (hty : typeOf (.builtin id) = pure (.type "method_descriptor")) (hm : MtR X id r) (O : MutL X.K r g) (hN : X.N[j]? = some x := by rfl) (hv : Vis X.env.scope x := by first | exact Or.inl rfl | exact Or.inr (Or.inl rfl) | exact Or.inr (Or.inr rfl)) (hd : (x == ("__debug__" : Str)) = false := by decide)
    (hcd : (x == ("__classdict__" : Str)) = false := by decide) (hbase : attributeBase (.Name x pos) name X.env (eval (.Name x pos) X.env) = eval (.Name x pos) X.env := by rfl) (hline : (apos.endLine == cpos.line) = true := by rfl) :
    ZE X pm (.Call (.Attribute (.Name x pos) name apos) [] [] cpos) (wMut g j aNil) := pe_imp (pe_bm0 PySem.F.plainAttrs_list slot hty hm (pe_var hN hv hd hcd) hbase hline) fun σ H Q h => by
  obtain ⟨v, e1, ty, pv, F, B, env, P, m, rel, hw, hq⟩ := tm_slot O h
  exact ⟨v, e1, ty, hq _ _ hw F H B [] .refl rel .nil⟩
/-- at a place, the arguments quiet -/
theorem ze_mutP {j : Nat} {p : Pth} (slot : Slot "list" name id) (hty : typeOf (.builtin id) = pure (.type "method_descriptor")) (hm : MtR X id r) (O : MutL X.K r g) (ho : ZP X pm o j p) (ha : ZVs X pm (e :: es) ws)
    (hbase : attributeBase o name X.env (eval o X.env) = eval o X.env := by rfl)
    (hfew : ((backTo cpos (starEach (e :: es) X.env)).all (fun x => !x.1) && (backToKw cpos (keywordEach [] X.env)).all (fun x => x.1.isSome)
      && decide ((e :: es).length + ([] : List Keyword).length + (if ([] : List Keyword).isEmpty then 0 else 1) < 30)) = true := by rfl)
    (hline : (apos.endLine == cpos.line) = true := by rfl) (hs : starEach (e :: es) X.env = (false, eval e X.env) :: starEach es X.env := by rfl) (hplain : (backTo cpos (starEach es X.env)).any (·.1) = false := by rfl) :
    ZE X pm (.Call (.Attribute o name apos) (e :: es) [] cpos) (wMutP g j p ws) := pe_imp (pe_bm PySem.F.plainAttrs_list slot hty hm ho ha hbase hfew hline hs hplain) fun σ H Q ⟨pv, F, B, env, P, m, rel, hw, hq⟩ => by
  cases g0 : gt env j with
  | none => simp only [wMutP, g0] at hw
  | some t =>
    simp only [wMutP, g0] at hw
    refine ⟨pv, F, B, env, t, _, m, rel, g0, hw, fun v0 v u R e1 hp hu ku => ?_⟩
    cases u with
    | fz _ => exact ku.elim
    | ins _ _ => exact ku.elim
    | map _ _ _ => exact ku.elim
    | hole _ => exact ku.elim
    | at_ _ _ => exact ku.elim
    | lst ds =>
      obtain ⟨a, us, ea, hu', du, k⟩ := rel.modLst g0 e1 hp
      subst ea
      refine ⟨.inl ⟨rfl, us, SqL.of hu'⟩, pv, F, B, env, _, m, rel, ku, fun es' he F1 H1 vs a1 k1 => ?_⟩
      obtain ⟨r1, s1, _⟩ := rel.alloc a1
      obtain ⟨a', us', ea', hu2, du2, k2⟩ := r1.modLst g0 e1 (hp.mono a1.kp)
      cases ea'
      refine O.run F1 H1 a us' ds vs es' _ _ r1.sub hu2 du2 k1 he fun z ds' w' vs' hz hz' hvs => ?_
      obtain ⟨r2, s2⟩ := k2 vs' ds' hvs
      exact hq _ _ hz F1 _ B Rg0 w' (s1.l.trans s2).r0 r2 (OwnV.fz hz')
end
def mAppend (ds es : List D) (k : D → List D → Prop) : Prop := match es with
  | [d] => ds.length < sizeLine ∧ k .non (ds ++ [d])
  | _ => False
def mPop (ds es : List D) (k : D → List D → Prop) : Prop := match es with
  | [] => match ds.getLast? with
    | some d => k d ds.dropLast
    | none => False
  | _ => False
def mReverse (ds es : List D) (k : D → List D → Prop) : Prop := match es with
  | [] => k .non ds.reverse
  | _ => False
section
variable {K : PySem.W.Frag}
theorem mut_append : MutL K rAppend mAppend := ⟨fun F H a vs ds as es P Q s ha hd he h hq => by
  match es, he, h with
  | [d], .cons hd' .nil, h => exact ⟨a, vs, _, rfl, rfl, ha, by rw [hd.length]; exact h.1, hq _ _ _ _ h.2 .non (hd.append (.cons hd' .nil))⟩
  | [], _, h => exact h.elim
  | _ :: _ :: _, _, h => exact h.elim⟩
theorem mut_pop : MutL K rPop mPop := ⟨fun F H a vs ds as es P Q s ha hd he h hq => by
  match es, he, h with
  | [], .nil, h =>
    have h : (match ds.getLast? with | some d => P d ds.dropLast | none => False) := h
    cases q : ds.getLast? with
    | none => rw [q] at h; exact h.elim
    | some d =>
      rw [q] at h
      rw [List.getLast?_eq_getElem?] at q
      obtain ⟨v, e1, e2⟩ := hd.get q
      exact ⟨a, vs, v, rfl, rfl, ha, by rw [hd.length]; exact e1, hq _ _ _ _ h e2 hd.dropLast⟩
  | _ :: _, _, h => exact h.elim⟩
theorem mut_reverse : MutL K rReverse mReverse := ⟨fun F H a vs ds as es P Q s ha hd he h hq => by
  match es, he, h with
  | [], .nil, h => exact ⟨a, vs, rfl, rfl, ha, hq _ _ _ _ h .non hd.reverse⟩
  | _ :: _, _, h => exact h.elim⟩
end

/-! ### xs[i] = e -/
def wSetIx (j : Nat) (w : WE) (o : WO) : WS := fun E env => w env fun t e1 => (match gt e1 j with
  | some (.lst _) => True
  | _ => False) ∧ o e1 fun b e2 => match rs e2 b, gt e2 j with
  | some (.int k), some (.lst ds) => match ixN ds.length k with
    | some n => E.nx (st e2 j (.lst (ds.set n t.fr)))
    | none => False
  | _, _ => False
def wSetIxP (j : Nat) (p : Pth) (w wi : WQ) : WS := fun E env => w env fun d => match gt env j with
  | some t => atP t p fun u => match u with
    | .lst ds => wi env fun y => match y with
      | .int k => match ixN ds.length k with
        | some n => E.nx (st env j (setP t p (.lst (ds.set n d))))
        | none => False
      | _ => False
    | _ => False
  | none => False
section
variable {X : Cx} {pm : List Bool} {o e i : Expr} {w : WE} {wo : WO} {wq wi : WQ} {x : Str} {pos pos' npos : Pos}
theorem zs_setIx (j : Nat) (he : ZE X pm e w) (hi : ZO X pm i wo) (hN : X.N[j]? = some x := by rfl) (hv : Vis X.env.scope x := by first | exact Or.inl rfl | exact Or.inr (Or.inl rfl) | exact Or.inr (Or.inr rfl)) (hd : (x == ("__debug__" : Str)) = false := by decide)
    (hcd : (x == ("__classdict__" : Str)) = false := by decide)
    (ha : ∀ v, assign (.Subscript (.Name x npos) i pos') X.env v = (do
      let ov ← holding [v] (eval (.Name x npos) X.env)
      let iv ← holding [v, ov] (eval i X.env)
      standAt pos'
      holding [v, ov, iv] (setItem ov iv v)
      release [v, ov, iv] []) := by intro _; rfl)
    (hs : swapsWithSole [.Subscript (.Name x npos) i pos'] e pos.line X.env = pure false := by rfl) (hw : swappedStores [.Subscript (.Name x npos) i pos'] e X.env = pure none := by rfl)
    (h1 : (assignEach [.Subscript (.Name x npos) i pos'] X.env).map (·.2) = [assign (.Subscript (.Name x npos) i pos') X.env] := by rfl) :
    ZS X pm (.Assign [.Subscript (.Name x npos) i pos'] e pos) (wSetIx j w wo) := ps_imp (ps_asg he (pg_sub (pe_var hN hv hd hcd) hi set_list ha) hs hw h1) fun D σ H ⟨pv, F, B, env, E, m, rel, hw, cn⟩ =>
  ⟨pv, F, B, env, _, m, rel, hw, fun t e1 h1 F1 H1 B1 R1 v s1 r1 o1 => by
    obtain ⟨F2, r2, s2, d2⟩ := r1.freezeV o1
    obtain ⟨h0, h1⟩ := h1
    cases g0 : gt e1 j with
    | none => simp only [g0] at h0
    | some t0 =>
      cases t0 with
      | fz _ => simp only [g0] at h0
      | ins _ _ => simp only [g0] at h0
      | map _ _ _ => simp only [g0] at h0
      | hole _ => simp only [g0] at h0
      | at_ _ _ => simp only [g0] at h0
      | lst ds0 =>
        obtain ⟨v0, ev, iv⟩ := r2.at_ j _ (gt_some g0)
        refine ⟨v0, ev, pv, F2, B1, e1, _, m, r2, h1, fun b e2 h2 F3 H3 B3 u s3 r3 i3 => ?_⟩
        cases qb : rs e2 b with
        | none => simp only [qb] at h2
        | some y =>
          cases g1 : gt e2 j with
          | none => simp only [qb, g1] at h2
          | some t1 =>
            cases y <;> first
              | (simp only [qb, g1] at h2; done)
              | skip
            rename_i k
            cases t1 with
            | fz _ => simp only [qb, g1] at h2
            | ins _ _ => simp only [qb, g1] at h2
            | map _ _ _ => simp only [qb, g1] at h2
            | hole _ => simp only [qb, g1] at h2
            | at_ _ _ => simp only [qb, g1] at h2
            | lst ds =>
              simp only [qb, g1] at h2
              cases hn : ixN ds.length k with
              | none => simp only [hn] at h2
              | some n =>
                simp only [hn] at h2
                obtain ⟨a, us, ea, hu, du, kk⟩ := r3.modLst g1 ev (p := []) .nil
                subst ea
                obtain ⟨r4, s4⟩ := kk (us.set n v) (ds.set n t.fr) (du.set n (d2.mono s3.le))
                exact ⟨a, us, k, n, rfl, (r3.pk i3 qb).int, hu, by rw [du.length]; exact hn, cn.nx _ F3 _ σ B3 h2 ((s1.trans s2).trans (s3.trans s4)) r4⟩⟩
theorem zs_setIxP {j : Nat} {p : Pth} (he : ZV X pm e wq) (ho : ZP X pm o j p) (hi : ZQ X pm i wi)
    (ha : ∀ v, assign (.Subscript o i pos') X.env v = (do
      let ov ← holding [v] (eval o X.env)
      let iv ← holding [v, ov] (eval i X.env)
      standAt pos'
      holding [v, ov, iv] (setItem ov iv v)
      release [v, ov, iv] []) := by intro _; rfl)
    (hs : swapsWithSole [.Subscript o i pos'] e pos.line X.env = pure false := by rfl) (hw : swappedStores [.Subscript o i pos'] e X.env = pure none := by rfl)
    (h1 : (assignEach [.Subscript o i pos'] X.env).map (·.2) = [assign (.Subscript o i pos') X.env] := by rfl) :
    ZS X pm (.Assign [.Subscript o i pos'] e pos) (wSetIxP j p wq wi) := ps_imp (ps_asg he (pg_sub ho hi set_list ha) hs hw h1) fun D σ H ⟨pv, F, B, env, E, m, rel, hw, cn⟩ =>
  ⟨pv, F, B, env, _, m, rel, hw, fun d h1 F1 H1 v a1 k1 => by
    obtain ⟨r1, s1, _⟩ := rel.alloc a1
    cases g0 : gt env j with
    | none => simp only [g0] at h1
    | some t =>
      simp only [g0] at h1
      refine ⟨pv, F1, B, env, t, _, m, r1, g0, h1, fun v0 v1 u R e1 hp hu ku => ?_⟩
      cases u with
      | fz _ => exact ku.elim
      | ins _ _ => exact ku.elim
      | map _ _ _ => exact ku.elim
      | hole _ => exact ku.elim
      | at_ _ _ => exact ku.elim
      | lst ds =>
        refine ⟨pv, F1, B, env, _, m, r1, ku, fun y hy F2 H2 iv a2 k2 => ?_⟩
        cases y <;> first
          | exact hy.elim
          | skip
        rename_i k
        obtain ⟨r2, s2, _⟩ := r1.alloc a2
        obtain ⟨a, us, ea, hu2, du2, kk⟩ := r2.modLst g0 e1 (hp.mono a2.kp)
        subst ea
        cases hn : ixN ds.length k with
        | none => simp only [hn] at hy
        | some n =>
          simp only [hn] at hy
          obtain ⟨r4, s4⟩ := kk (us.set n v) (ds.set n d) (du2.set n (k1.mono a2.le))
          exact ⟨a, us, k, n, rfl, k2.int, hu2, by rw [du2.length]; exact hn, cn.nx _ F2 _ σ B hy ((s1.l.trans s2.l).trans s4) r4⟩⟩
end
end Zl

namespace Zl
open PySem PySem.Spec PyProof.Rows L2

/-! ### fields of the object that a name holds -/
/-- x.f = e -/
def wSetF (c : Cd) (j i : Nat) (w : WE) : WS := fun E env => w env fun t e => match gt e j with
  | some (.ins c' ts) => c' = c ∧ i ≤ ts.length ∧ E.nx (st e j (.ins c (setA ts i t)))
  | _ => False
/-- x.f op= e, the field and e data -/
def wAugF (c : Cd) (j i : Nat) (g : D → D → (T → Prop) → Prop) (o : WQ) : WS := fun E env => match gt env j with
  | some (.ins c' ts) => c' = c ∧ match ts[i]? with
    | some (.fz d) => o env fun y => g d y fun z => E.nx (st env j (.ins c (setA ts i (.fz z.fr))))
    | _ => False
  | _ => False
section
variable {K : PySem.W.Frag} {pv : List (Option V)} {F H : Hp} {σ : L2.St} {env : Ev} {B : Nat → Rg} {R : Rg} {v : V} {t : T} {j i : Nat} {c : Cd} {ts : List T}
theorem setA_le {α : Type} {xs : List α} {i n : Nat} {t : α} (h : i ≤ xs.length) (h1 : i < n) (h2 : xs.length ≤ n) : (setA xs i t).length ≤ n := by
  rw [setA_len h]
  split <;> omega
/-- a value beside the frame is stored into a field -/
theorem Rel.setF (r : Rel K pv F H σ env B) (o : OwnV K F H B R v t) (g : gt env j = some (.ins c ts)) (hc : ClsOk K c) {f : Str} (hi : c.ns[i]? = some f) (hl : i ≤ ts.length) :
    ∃ a dx vs B2, σ[j]? = some (some (.ref a)) ∧ H a = some (.ins c.C dx (c.ns.zip vs)) ∧ (c.ns.zip vs).length < 1000 ∧ putF f v (c.ns.zip vs) = c.ns.zip (setA vs i v) ∧
      Rel K pv F (upd H a (.ins c.C dx (c.ns.zip (setA vs i v)))) σ (st env j (.ins c (setA ts i t))) B2 ∧ Step F H (Ru (U B) R) F (upd H a (.ins c.C dx (c.ns.zip (setA vs i v)))) (U B2) := by
  obtain ⟨w, e1, e2⟩ := r.at_ j _ (gt_some g)
  cases e2 with
  | @ins _ R' a dx _ vs _ ra hh ln n jj hs =>
    have hvl := hs.length
    have hif := (List.getElem?_eq_some_iff.mp hi).1
    have hzl : (c.ns.zip vs).length < 1000 := by have := hc.few; rw [List.length_zip]; omega
    let B2 : Nat → Rg := fun k b => B k b ∨ (k = j ∧ R b)
    have ne : ∀ b, ¬ B j b → b ≠ a := fun b z e => z (by rw [e]; exact ra)
    have kp : ∀ b o, ¬ B j b → H b = some o → upd H a (.ins c.C dx (c.ns.zip (setA vs i v))) b = some o := fun b o z q => by rw [upd_ne (ne b z)]; exact q
    have Ra : ¬ R a := fun z => o.dis j a z ra
    have dd : ∀ b, R' b → R b → False := fun b z y => o.dis j b y (jj b z)
    have live : ∀ b, H b ≠ none → upd H a (.ins c.C dx (c.ns.zip (setA vs i v))) b ≠ none := fun b q => by
      by_cases z : b = a
      · subst z; rw [upd_same]; simp
      · rw [upd_ne z]; exact q
    have itv : IsT K F (upd H a (.ins c.C dx (c.ns.zip (setA vs i v)))) R v t := o.is.mono (Same.refl _) (fun b x z q => by rw [upd_ne (fun e => Ra (by rw [← e]; exact z))]; exact q) fun _ z => z
    have hs' : IsTs K F (upd H a (.ins c.C dx (c.ns.zip (setA vs i v)))) R' vs ts := hs.mono (Same.refl _) (fun b x z q => by rw [upd_ne (fun e => n (by rw [← e]; exact z))]; exact q) fun _ z => z
    refine ⟨a, dx, vs, B2, e1, hh, hzl, putF_zip hc.nd hi (by omega), ⟨fun b x q => ?_, by rw [st_eq, List.length_set]; exact r.len, fun k u h => ?_, fun k l b h1 h2 => ?_, fun k b h => ?_, fun k b h => ?_, r.fix, Tq.upd r.tp fun ps z => by rw [hh] at z; cases z⟩, .out (Same.refl _) (fun b x q z => ?_) (fun b h => .inl ?_) fun b h => .inl h⟩
    · have : b ≠ a := fun z => by subst z; rw [r.off j b ra] at q; cases q
      rw [upd_ne this]; exact r.sub b x q
    · rw [st_eq] at h
      by_cases z : k = j
      · subst z
        rw [List.getElem?_set] at h
        split at h
        · split at h
          · cases h
            refine ⟨_, e1, .ins (R' := Ru R' R) (.inl ra) upd_same (setA_le (by omega) hif ln) (fun z => z.elim n Ra) (fun b z => z.elim (fun z => .inl (jj b z)) fun z => .inr ⟨rfl, z⟩) ?_⟩
            exact hs'.put hl itv dd
          · cases h
        · rename_i n; exact absurd rfl n
      · rw [List.getElem?_set_ne (Ne.symm z)] at h
        obtain ⟨x, f1, f2⟩ := r.at_ k u h
        exact ⟨x, f1, f2.mono (Same.refl _) (fun b y hb q => kp b y (fun q => z (r.dis k j b hb q)) q) fun _ z => .inl z⟩
    · rcases h1 with h1 | ⟨rfl, h1⟩ <;> rcases h2 with h2 | ⟨rfl, h2⟩
      · exact r.dis k l b h1 h2
      · exact (o.dis k b h2 h1).elim
      · exact (o.dis l b h1 h2).elim
      · rfl
    · rcases h with h | ⟨_, h⟩
      · exact r.off k b h
      · exact o.off b h
    · rcases h with h | ⟨_, h⟩
      · exact live b (r.live k b h)
      · exact live b (o.live b h)
    · exact kp b x (fun y => z (.inl ⟨j, y⟩)) q
    · obtain ⟨k, h | ⟨_, h⟩⟩ := h
      · exact .inl ⟨k, h⟩
      · exact .inr h
end
section
variable {X : Cx} {pm : List Bool} {value : Expr} {f x : Str} {pos pos' npos tpos : Pos} {w : WE} {wq : WQ} {c : Cd}
theorem zs_setF (c : Cd) (j i : Nat) (hc : ClsOk X.K c) (he : ZE X pm value w) (hi : c.ns[i]? = some f := by rfl) (hN : X.N[j]? = some x := by rfl) (hv : Vis X.env.scope x := by first | exact Or.inl rfl | exact Or.inr (Or.inl rfl) | exact Or.inr (Or.inr rfl)) (hd : (x == ("__debug__" : Str)) = false := by decide)
    (hcd : (x == ("__classdict__" : Str)) = false := by decide) (hs : swapsWith value (some (.Attribute (.Name x npos) f pos')) pos.line X.env = pure false := by rfl) : ZS X pm (.Assign [.Attribute (.Name x npos) f pos'] value pos) (wSetF c j i w) :=
  ps_imp (ps_fld (pe_var hN hv hd hcd) he hs) fun D σ H ⟨pv, F, B, env, E, m, rel, hw, cn⟩ => ⟨pv, F, B, env, _, m, rel, hw, fun t e1 h1 F1 H1 B1 R1 v s1 r1 o1 => by
    cases g : gt e1 j with
    | none => simp only [g] at h1
    | some u =>
      cases u with
      | fz _ => simp only [g] at h1
      | lst _ => simp only [g] at h1
      | map _ _ _ => simp only [g] at h1
      | hole _ => simp only [g] at h1
      | at_ _ _ => simp only [g] at h1
      | ins c' ts =>
        simp only [g] at h1
        obtain ⟨e0, hl, h1⟩ := h1
        subst e0
        obtain ⟨a, dx, vs, B2, e1', hh, hz, hp, r2, s2⟩ := r1.setF o1 g hc hi hl
        exact ⟨_, e1', a, _, dx, _, rfl, hh, hc.cls, hc.no f (List.mem_of_getElem? hi), hz, by rw [hp]; exact cn.nx _ F1 _ σ B2 h1 (s1.trans s2) r2⟩⟩
theorem zs_augF (c : Cd) (j i : Nat) {op : Operator} {rd : V → V → Hp → VK → Prop} {g} (hc : ClsOk X.K c) (he : ZQ X pm value wq) (hop : InOp X op rd) (O : Op2 X.K rd g) (hi : c.ns[i]? = some f := by rfl) (hN : X.N[j]? = some x := by rfl) (hv : Vis X.env.scope x := by first | exact Or.inl rfl | exact Or.inr (Or.inl rfl) | exact Or.inr (Or.inr rfl)) (hd : (x == ("__debug__" : Str)) = false := by decide)
    (hcd : (x == ("__classdict__" : Str)) = false := by decide) : ZS X pm (.AugAssign (.Attribute (.Name x npos) f tpos) op value pos) (wAugF c j i g wq) :=
  ps_imp (ps_fldaug (pe_var hN hv hd hcd) he hop) fun D σ H ⟨pv, F, B, env, E, m, rel, hw, cn⟩ => by
    cases g0 : gt env j with
    | none => simp only [wAugF, g0] at hw
    | some u =>
      cases u with
      | fz _ => simp only [wAugF, g0] at hw
      | lst _ => simp only [wAugF, g0] at hw
      | map _ _ _ => simp only [wAugF, g0] at hw
      | hole _ => simp only [wAugF, g0] at hw
      | at_ _ _ => simp only [wAugF, g0] at hw
      | ins c' ts =>
        simp only [wAugF, g0] at hw
        obtain ⟨e0, hw⟩ := hw
        subst e0
        cases et : ts[i]? with
        | none => simp only [et] at hw
        | some t0 =>
          cases t0 with
          | lst _ => simp only [et] at hw
          | ins _ _ => simp only [et] at hw
          | map _ _ _ => simp only [et] at hw
          | hole _ => simp only [et] at hw
          | at_ _ _ => simp only [et] at hw
          | fz d =>
            simp only [et] at hw
            obtain ⟨w0, e1, e2⟩ := rel.at_ j _ (gt_some g0)
            cases e2 with
            | @ins _ R' a dx _ vs _ ra hh ln n jj hs =>
              obtain ⟨y, Ri, ey, sy, iy, _⟩ := hs.upd et
              cases iy with
              | fz hdy =>
                refine ⟨_, e1, a, _, dx, _, y, rfl, hh, hc.cls, hc.no f (List.mem_of_getElem? hi), look_zip hc.nd hi ey, pv, F, B, env, _, m, rel, hw, fun y' hy F1 H1 u a1 k1 => ?_⟩
                obtain ⟨r1, s1, _⟩ := rel.alloc a1
                refine O.run F1 H1 y u d y' _ _ a1.sub (.d (hdy.mono a1.le)) k1 hy fun z w' F2 H2 R2 hz a2 it => ?_
                obtain ⟨F3, a3, d3⟩ := (a1.trans a2).freeze it
                obtain ⟨r3, s3, _⟩ := rel.alloc a3
                have hil : i ≤ ts.length := Nat.le_of_lt (List.getElem?_eq_some_iff.mp et).1
                obtain ⟨a', dx', vs', B2, e1', hh', hz', hp', r4, s4⟩ := r3.setF (OwnV.fz d3) g0 hc hi hil
                rw [e1] at e1'; cases e1'
                exact ⟨dx', _, hh', hz', by rw [hp']; exact cn.nx _ F3 _ σ B2 hz (s3.trans s4) r4⟩
/-- a field of an operand -/
def fldOf (c : Cd) (i : Nat) (t : T) (k : D → Prop) : Prop := match t with
  | .fz (.ins c' ds) => c' = c ∧ match ds[i]? with
    | some d => k d
    | none => False
  | .ins c' ts => c' = c ∧ match ts[i]? with
    | some (.fz d) => k d
    | _ => False
  | _ => False
def wFld (c : Cd) (i : Nat) (o : WO) : WE := fun env P => o env fun a e => match argT e a with
  | some t => fldOf c i t fun d => P (.fz d) e
  | none => False
theorem ze_fld {e : Expr} {o : WO} (c : Cd) (i : Nat) (hc : ClsOk X.K c) (h : ZO X pm e o) (hi : c.ns[i]? = some f := by rfl) (hb : attributeBase e f X.env (eval e X.env) = eval e X.env := by rfl) : ZE X pm (.Attribute e f pos') (wFld c i o) :=
  pe_imp (pe_fld h hb) fun σ H Q ⟨pv, F, B, env, P, m, rel, hw, hq⟩ => ⟨pv, F, B, env, _, m, rel, hw, fun a e1 h1 F1 H1 B1 v s1 r1 i1 => by
    cases qa : argT e1 a with
    | none => simp only [qa] at h1
    | some t =>
      simp only [qa] at h1
      obtain ⟨R, it⟩ : ∃ R, IsT X.K F1 H1 R v t := by
        cases i1 with
        | d hd => cases qa; exact ⟨Rg0, .fz hd⟩
        | s hs =>
          obtain ⟨u, e1', e2⟩ := r1.at_ _ t (gt_some (show gt e1 _ = some t from qa))
          rw [hs] at e1'; cases e1'
          exact ⟨_, e2⟩
      cases it with
      | @fz _ _ d0 hd =>
        cases d0 <;> first
          | exact h1.elim
          | skip
        rename_i c' ds
        have h2 : c' = c ∧ (match ds[i]? with | some d => P (.fz d) e1 | none => False) := h1
        obtain ⟨e0, h3⟩ := h2
        subst e0
        cases hd with
        | ins hh l hs =>
          cases ed : ds[i]? with
          | none => rw [ed] at h3; exact h3.elim
          | some d =>
            rw [ed] at h3
            obtain ⟨y, e2, e3⟩ := hs.get ed
            exact ⟨_, _, _, _, y, rfl, r1.sub _ _ hh, hc.cls, hc.no f (List.mem_of_getElem? hi), look_zip hc.nd hi e2, hq _ _ h3 F1 H1 B1 Rg0 y s1.r0 r1 (OwnV.fz e3)⟩
      | lst _ _ _ => exact h1.elim
      | map _ _ _ _ _ _ _ => exact h1.elim
      | at_ _ => exact h1.elim
      | hole => exact h1.elim
      | @ins _ R' a' dx c' vs ts ra hh ln n jj hs =>
        have h2 : c' = c ∧ (match ts[i]? with | some (.fz d) => P (.fz d) e1 | _ => False) := h1
        obtain ⟨e0, h3⟩ := h2
        subst e0
        cases et : ts[i]? with
        | none => rw [et] at h3; exact h3.elim
        | some t0 =>
          rw [et] at h3
          cases t0 with
          | lst _ => exact h3.elim
          | ins _ _ => exact h3.elim
          | map _ _ _ => exact h3.elim
          | hole _ => exact h3.elim
          | at_ _ _ => exact h3.elim
          | fz d =>
            obtain ⟨y, Ri, ey, sy, iy, _⟩ := hs.upd et
            cases iy with
            | fz hdy => exact ⟨a', _, dx, _, y, rfl, hh, hc.cls, hc.no f (List.mem_of_getElem? hi), look_zip hc.nd hi ey, hq _ _ h3 F1 H1 B1 Rg0 y s1.r0 r1 (OwnV.fz hdy)⟩⟩
end

/-! ### methods -/
def isIns (c : Cd) : Option T → Prop
  | some (.ins c' _) => c' = c
  | some (.fz (.ins c' _)) => c' = c
  | _ => False
def wMeth (c : Cd) (sp : DSp) (dds : List D) (o : WO) (wa : WA) : WE := fun env P => o env fun s e0 => isIns c (argT e0 s) ∧ wa e0 fun as e1 => match argTs e1 (s :: (as ++ dds.map .inl)) with
  | some ts => dst e1 (s :: (as ++ dds.map .inl)) = true ∧ sp ts fun r ts' => P r (back e1 (s :: (as ++ dds.map .inl)) ts')
  | none => False
section
variable {X : Cx} {pm : List Bool} {k : Nat} {f : Addr} {fd : FuncData} {ps : List Str} {sp : DSp} {m : Str} {pos apos : Pos} {o e : Expr} {es : List Expr} {wo : WO} {wa : WA} {ds : List Value} {dvs : List V} {dds : List D} {c : Cd}
theorem item_t {K : PySem.W.Frag} {pv : List (Option V)} {F H : Hp} {σ : L2.St} {env : Ev} {B : Nat → Rg} {v : V} {a : It2} {t : T} (r : Rel K pv F H σ env B) (i : ItemOk K F σ v a) (q : argT env a = some t) : ∃ R, IsT K F H R v t := by
  cases i with
  | d hd => cases q; exact ⟨Rg0, .fz hd⟩
  | s hs =>
    obtain ⟨u, e1', e2⟩ := r.at_ _ t (gt_some (show gt env _ = some t from q))
    rw [hs] at e1'; cases e1'
    exact ⟨_, e2⟩
theorem tm_meth {E : XK} (hds : ∀ F, IsDs X.K F dvs dds) (hm : m ∉ c.ns) {σ H Q} : TZ X pm (wMeth c sp dds wo wa) σ H Q → TOz X pm wo σ H fun x H1 => ∃ a dx fs, x = .ref a ∧ H1 a = some (.ins c.C dx fs) ∧ fs.lookup m = none ∧
    TAz X pm wa σ H1 fun vs H2 => spOf X.K sp (x :: (vs ++ dvs)) H2 Q E := fun ⟨pv, F, B, env, P, mk, rel, hw, hq⟩ =>
  ⟨pv, F, B, env, _, mk, rel, hw, fun s e0 ⟨h0, h1⟩ F1 H1 B1 v s1 r1 i1 => by
    obtain ⟨a, dx, vs0, ev, hh⟩ : ∃ a dx vs, v = .ref a ∧ H1 a = some (.ins c.C dx (c.ns.zip vs)) := by
      cases q : argT e0 s with
      | none => rw [q] at h0; exact h0.elim
      | some t =>
        rw [q] at h0
        obtain ⟨R, it⟩ := item_t r1 i1 q
        cases it with
        | fz hd =>
          cases hd <;> first
            | exact h0.elim
            | skip
          rename_i hh l hs
          have e0 : _ = c := h0
          subst e0
          exact ⟨_, _, _, rfl, r1.sub _ _ hh⟩
        | lst _ _ _ => exact h0.elim
        | map _ _ _ _ _ _ _ => exact h0.elim
        | at_ _ => exact h0.elim
        | hole => exact h0.elim
        | ins ra hh ln n jj hs =>
          have e0 : _ = c := h0
          subst e0
          exact ⟨_, _, _, rfl, hh⟩
    refine ⟨a, dx, _, ev, hh, look_none hm, pv, F1, B1, e0, _, mk, r1, h1, fun as e1 h2 F2 H2 B2 vs s2 r2 i2 => ?_⟩
    have i3 : ItemsOk X.K F2 σ (v :: (vs ++ dvs)) (s :: (as ++ dds.map .inl)) := .cons (i1.mono s2.le) (i2.append (.ofDs (hds F2)))
    cases q : argTs e1 (s :: (as ++ dds.map .inl)) with
    | none => simp only [q] at h2
    | some ts =>
      simp only [q] at h2
      obtain ⟨hd, h2⟩ := h2
      obtain ⟨rA, sA⟩ := r2.args i3 q hd
      refine ⟨F2, _, ts, _, rA, h2, fun r ts' hp F3 H3 B3 R3 w' s3 r3 o3 => ?_⟩
      obtain ⟨B4, r4, s4, o4⟩ := r2.called i3 q hd s3 r3 o3
      exact hq _ _ hp F3 H3 B4 R3 w' ((s1.trans s2).trans s4) r4 o4⟩
theorem ze_meth {pl : Sem Bool} (he : ZO X pm o wo) (hc : ClsOk X.K c) (hme : Meth X.K c.C m f) (hmn : m ∉ c.ns) (Fn : FnOk X.prog X.w X.K X.mg X.base CX0 k f fd ps (spOf X.K sp)) (hr : Room k X.A) (hb : Binds X.K fd ps ds) (hd : Vals dvs ds) (hds : ∀ F, IsDs X.K F dvs dds) (ha : ZA X pm (e :: es) wa)
    (hst : starEach (e :: es) X.env = (false, eval e X.env) :: starEach es X.env := by rfl) (hpl : (backTo pos (starEach es X.env)).any (·.1) = false := by rfl)
    (ht : eval (.Call (.Attribute o m apos) (e :: es) [] pos) X.env = (do
      let ov ← eval o X.env
      standAt apos.atName
      let (f, first) ← holding [ov] (getMethod ov m pl)
      callWith pos f first (backTo pos (starEach (e :: es) X.env)) (backToKw pos (keywordEach [] X.env))) := by rfl) :
    ZE X pm (.Call (.Attribute o m apos) (e :: es) [] pos) (wMeth c sp dds wo wa) := pe_imp (pe_meth he hc.cls hme Fn hr hb hd pass0 ha hst hpl ht) fun σ H Q h => by
  exact tm_meth hds hmn h
theorem ze_meth0 {pl : Sem Bool} (he : ZO X pm o wo) (hc : ClsOk X.K c) (hme : Meth X.K c.C m f) (hmn : m ∉ c.ns) (Fn : FnOk X.prog X.w X.K X.mg X.base CX0 k f fd ps (spOf X.K sp)) (hr : Room k X.A) (hb : Binds X.K fd ps ds) (hd : Vals dvs ds) (hds : ∀ F, IsDs X.K F dvs dds)
    (ht : eval (.Call (.Attribute o m apos) [] [] pos) X.env = (do
      let ov ← eval o X.env
      standAt apos.atName
      let (f, first) ← holding [ov] (getMethod ov m pl)
      callWith pos f first (backTo pos (starEach [] X.env)) (backToKw pos (keywordEach [] X.env))) := by rfl) :
    ZE X pm (.Call (.Attribute o m apos) [] [] pos) (wMeth c sp dds wo aNil) := pe_imp (pe_meth0 he hc.cls hme Fn hr hb hd pass0 ht) fun σ H Q h => by
  obtain ⟨pv, F, B, env, P, mk, rel, hw, hq⟩ := tm_meth (E := E0) hds hmn h
  exact ⟨pv, F, B, env, P, mk, rel, hw, fun s e0 h0 F1 H1 B1 v s1 r1 i1 => by
    obtain ⟨a, dx, fs, ev, hh, hl, pv', F', B', env', P', mk', rel', hw', hq'⟩ := hq s e0 h0 F1 H1 B1 v s1 r1 i1
    exact ⟨a, dx, fs, ev, hh, hl, hq' _ _ hw' F' H1 B' [] .refl rel' .nil⟩⟩
end

/-! ### a new instance -/
def wMake (c : Cd) (sp : DSp) (dds : List D) (wa : WA) : WE := fun env P => wa env fun as e1 => match argTs e1 (as ++ dds.map .inl) with
  | some ts => dst e1 (as ++ dds.map .inl) = true ∧ sp (.ins c [] :: ts) fun r ts' => r = .fz .non ∧ match ts' with
    | self :: rest => P self (back e1 (as ++ dds.map .inl) rest)
    | [] => False
  | none => False
section
variable {K : PySem.W.Frag} {F H F' H' : Hp} {B B' : Nat → Rg} {R : Rg} {vs : List V} {ts : List T} {v : V} {t : T}
/-- one more argument ahead -/
theorem Rel.consA (r : Rel K [] F H (vs.map some) (ts.map some) B) (o : OwnV K F H B R v t) : Rel K [] F H ((v :: vs).map some) ((t :: ts).map some) (fun k => match k with
    | 0 => R
    | n + 1 => B n) := by
  refine ⟨r.sub, ?_, fun i u h => ?_, fun i j a h1 h2 => ?_, fun i a h => ?_, fun i a h => ?_, fun i u h => by simp at h, r.tp⟩
  · have := r.len; simpa using this
  · cases i with
    | zero => cases h; exact ⟨v, rfl, o.is⟩
    | succ i => simpa using r.at_ i u (by simpa using h)
  · cases i with
    | zero =>
      cases j with
      | zero => rfl
      | succ j => exact (o.dis j a h1 h2).elim
    | succ i =>
      cases j with
      | zero => exact (o.dis i a h2 h1).elim
      | succ j => rw [r.dis i j a h1 h2]
  · cases i with
    | zero => exact o.off a h
    | succ i => exact r.off i a h
  · cases i with
    | zero => exact o.live a h
    | succ i => exact r.live i a h
theorem Rel.tailA (r : Rel K [] F H ((v :: vs).map some) ((t :: ts).map some) B) : Rel K [] F H (vs.map some) (ts.map some) (fun k => B (k + 1)) ∧ OwnV K F H (fun k => B (k + 1)) (B 0) v t := by
  refine ⟨⟨r.sub, by have := r.len; simpa using this, fun i u h => ?_, fun i j a h1 h2 => ?_, fun i a h => r.off _ a h, fun i a h => r.live _ a h, fun i u h => by simp at h, r.tp⟩, ?_, fun i a h1 h2 => ?_, fun a h => r.off 0 a h, fun a h => r.live 0 a h⟩
  · simpa using r.at_ (i + 1) u (by simpa using h)
  · have := r.dis (i + 1) (j + 1) a h1 h2
    omega
  · obtain ⟨w, e1, e2⟩ := r.at_ 0 t rfl
    cases e1
    exact e2
  · have := r.dis 0 (i + 1) a h1 h2
    omega
end
section
variable {X : Cx} {pm : List Bool} {k : Nat} {f : Addr} {fd : FuncData} {ps : List Str} {sp : DSp} {x : Str} {pos p : Pos} {e : Expr} {es : List Expr} {wa : WA} {ds : List Value} {dvs : List V} {dds : List D} {c : Cd}
theorem tm_make {E : XK} (hds : ∀ F, IsDs X.K F dvs dds) {σ H Q} : TZ X pm (wMake c sp dds wa) σ H Q → tMake c.C (spOf X.K sp) dvs E (TAz X pm wa) σ H Q := fun ⟨pv, F, B, env, P, mk, rel, hw, hq⟩ =>
  ⟨pv, F, B, env, _, mk, rel, hw, fun as e1 h1 F1 H1 B1 vs s1 r1 i1 => by
    intro x dx hx hdx hne
    cases q : argTs e1 (as ++ dds.map .inl) with
    | none => simp only [q] at h1
    | some ts =>
      simp only [q] at h1
      obtain ⟨hd, h1⟩ := h1
      -- the new objects
      have k1 : Same H1 (upd (upd H1 dx (.own x)) x (.ins c.C dx [])) := fun b o q => by
        rw [upd_ne (ne_of_none q hx), upd_ne (ne_of_none q hdx)]; exact q
      have al : Alloc F1 H1 F1 (upd (upd H1 dx (.own x)) x (.ins c.C dx [])) (fun a => a = x) := by
        refine ⟨Same.refl _, k1, fun b o q => k1 b o (r1.sub b o q), fun _ h => .inl h, fun a h => by rw [h]; exact hx, fun a h => by rw [h]; exact r1.none_of hx, fun a h => by rw [h, upd_same]; simp, fun t => Tq.upd (Tq.upd t fun ps z => by rw [hdx] at z; cases z) fun ps z => by rw [upd_ne (Ne.symm hne), hx] at z; cases z⟩
      obtain ⟨r2, s2, d2⟩ := r1.alloc al
      have ox : OwnV X.K F1 (upd (upd H1 dx (.own x)) x (.ins c.C dx [])) B1 (fun a => a = x) (.ref x) (.ins c []) :=
        r1.own al (.ins (R' := Rg0) (dx := dx) (vs := []) rfl (by rw [upd_same, List.zip_nil_right]) (Nat.zero_le _) (fun z => z) (fun _ z => z.elim) .nil)
      have i2 : ItemsOk X.K F1 σ (vs ++ dvs) (as ++ dds.map .inl) := i1.append (.ofDs (hds F1))
      obtain ⟨rA, sA⟩ := r2.args i2 q hd
      have oA : OwnV X.K F1 (upd (upd H1 dx (.own x)) x (.ins c.C dx [])) (argB e1 (as ++ dds.map .inl) B1) (fun a => a = x) (.ref x) (.ins c []) := ⟨ox.is, fun i a h1 h2 => by
        obtain ⟨j, hj⟩ := sA a ⟨i, h2⟩
        exact ox.dis j a h1 hj, ox.off, ox.live⟩
      refine ⟨F1, _, _, _, rA.consA oA, h1, fun r ts' ⟨hr, hp⟩ F3 H3 B3 R3 w' s3 r3 o3 => ?_⟩
      subst hr
      cases ts' with
      | nil => exact hp.elim
      | cons self rest =>
        cases o3.is with
        | fz hn =>
          cases hn
          refine ⟨rfl, ?_⟩
          obtain ⟨r4, o4⟩ := r3.tailA
          -- behind the call the new object stands beside the frame
          have s4 : Step F1 (upd (upd H1 dx (.own x)) x (.ins c.C dx [])) (Ru (U (argB e1 (as ++ dds.map .inl) B1)) (fun a => a = x)) F3 H3 (Ru (U fun k => B3 (k + 1)) (B3 0)) := by
            refine (s3.more fun a h => ?_).less fun a h => ?_
            · obtain ⟨i, h⟩ := h
              cases i with
              | zero => exact .inr h
              | succ i => exact .inl ⟨i, h⟩
            · rcases h with ⟨i, h⟩ | h
              · exact .inl ⟨i + 1, h⟩
              · exact .inl ⟨0, h⟩
          have s5 : Step F1 H1 (U (argB e1 (as ++ dds.map .inl) B1)) F3 H3 (Ru (U fun k => B3 (k + 1)) (B3 0)) := by
            refine ⟨s4.le, fun a o q n => s4.keep a o (k1 a o q) fun z => z.elim n fun z => (by rw [z, hx] at q; cases q), fun a q n => ?_, fun a h => ?_, fun a h => ?_⟩
            · obtain ⟨o, qo⟩ := Option.ne_none_iff_exists'.mp q
              exact s4.lv a (by rw [k1 a o qo]; simp) fun z => z.elim n fun z => q (by rw [z]; exact hx)
            · rcases s4.fresh a h with (z | z) | z
              · exact .inl z
              · exact .inr (by rw [z]; exact hx)
              · exact .inr (k1.free z)
            · rcases s4.newF a h with z | (z | z) | z
              · exact .inl z
              · exact .inr (.inl z)
              · exact .inr (.inr (by rw [z]; exact hx))
              · exact .inr (.inr (k1.free z))
          obtain ⟨B5, r5, s6, o5⟩ := r1.called i2 q hd s5 r4 o4
          exact hq _ _ hp F3 H3 B5 (B3 0) _ (s1.trans s6) r5 o5⟩
theorem ze_make (M : Mk X.K c.C f) (Fn : FnOk X.prog X.w X.K X.mg X.base CX0 k f fd ps (spOf X.K sp)) (hr : Room (k + 1) X.A) (hg : Gl X x) (hm : X.mg x = some (.ref c.C)) (hb : Binds X.K fd ps ds) (hd : Vals dvs ds) (hds : ∀ F, IsDs X.K F dvs dds)
    (ha : ZA X pm (e :: es) wa) (hdb : (x == ("__debug__" : Str)) = false := by decide) (he : starEach (e :: es) X.env = (false, eval e X.env) :: starEach es X.env := by rfl) (hpl : (backTo pos (starEach es X.env)).any (·.1) = false := by rfl) :
    ZE X pm (.Call (.Name x p) (e :: es) [] pos) (wMake c sp dds wa) := pe_imp (pe_make M Fn hr hg hm hb hd pass0 ha hdb he hpl) fun σ H Q h => tm_make hds h
theorem ze_make0 (M : Mk X.K c.C f) (Fn : FnOk X.prog X.w X.K X.mg X.base CX0 k f fd ps (spOf X.K sp)) (hr : Room (k + 1) X.A) (hg : Gl X x) (hm : X.mg x = some (.ref c.C)) (hb : Binds X.K fd ps ds) (hd : Vals dvs ds) (hds : ∀ F, IsDs X.K F dvs dds)
    (hdb : (x == ("__debug__" : Str)) = false := by decide) :
    ZE X pm (.Call (.Name x p) [] [] pos) (wMake c sp dds aNil) := pe_imp (pe_make0 M Fn hr hg hm hb hd pass0 hdb) fun σ H Q h => by
  obtain ⟨pv, F, B, env, P, mk, rel, hw, hq⟩ := tm_make (E := E0) hds h
  exact hq _ _ hw F H B [] .refl rel .nil
end
end Zl

namespace Zl
open PySem PySem.Spec PyProof.Rows L2

/-! ### list comprehensions -/
def clsE (env : Ev) : List Nat → Ev
  | [] => env
  | v :: vs => cl (clsE env vs) v
theorem clsE_len (env : Ev) : ∀ vs, (clsE env vs).length = env.length
  | [] => rfl
  | v :: vs => by show (cl (clsE env vs) v).length = _; rw [cl_eq, List.length_set, clsE_len env vs]
theorem clsE_get {env : Ev} {i : Nat} {t : T} : ∀ {vs : List Nat}, (clsE env vs)[i]? = some (some t) → env[i]? = some (some t) ∧ i ∉ vs
  | [], h => ⟨h, by simp⟩
  | v :: vs, h => by
    have h : (cl (clsE env vs) v)[i]? = some (some t) := h
    rw [cl_eq] at h
    by_cases z : i = v
    · subst z
      rw [List.getElem?_set] at h
      split at h
      · split at h <;> cases h
      · rename_i n; exact absurd rfl n
    · rw [List.getElem?_set_ne (Ne.symm z)] at h
      obtain ⟨h1, h2⟩ := clsE_get h
      exact ⟨h1, by simp only [List.mem_cons, not_or]; exact ⟨z, h2⟩⟩
theorem wipe_get {σ : L2.St} {i : Nat} : ∀ {vs : List Nat}, i ∉ vs → (wipe σ vs)[i]? = σ[i]?
  | [], _ => rfl
  | v :: vs, h => by
    simp only [List.mem_cons, not_or] at h
    show ((wipe σ vs).set v none)[i]? = _
    rw [List.getElem?_set_ne (Ne.symm h.1)]
    exact wipe_get h.2
theorem wipe_in {σ : L2.St} {i : Nat} : ∀ {vs : List Nat}, i ∈ vs → (wipe σ vs)[i]? = if i < σ.length then some none else none
  | v :: vs, h => by
    show ((wipe σ vs).set v none)[i]? = _
    by_cases z : i = v
    · subst z
      rw [List.getElem?_set, if_pos rfl, wipe_length]
    · rw [List.getElem?_set_ne (Ne.symm z)]
      exact wipe_in ((List.mem_cons.mp h).resolve_left z)
theorem wipe_wr {σ σ' : L2.St} {ws vs : List Nat} (h : Wr ws σ σ') (hs : ∀ i ∈ ws, i ∈ vs) : wipe σ' vs = wipe σ vs := by
  apply List.ext_getElem?
  intro i
  by_cases z : i ∈ vs
  · rw [wipe_in z, wipe_in z, h.1]
  · rw [wipe_get z, wipe_get z]
    exact h.2 i fun y => z (hs i y)
section
variable {K : PySem.W.Frag} {pv : List (Option V)} {pm : List Bool} {F H : Hp} {σ : L2.St} {env : Ev} {B : Nat → Rg} {vs : List Nat}
theorem Rel.wipe (r : Rel K pv F H σ env B) (m : Mask pm pv) (hm : ∀ i ∈ vs, pm[i]? ≠ some true) : Rel K pv F H (L2.wipe σ vs) (clsE env vs) B :=
  ⟨r.sub, by rw [wipe_length, clsE_len]; exact r.len, fun i t h => by
    obtain ⟨h1, h2⟩ := clsE_get h
    obtain ⟨v, e1, e2⟩ := r.at_ i t h1
    exact ⟨v, by rw [wipe_get h2]; exact e1, e2⟩, r.dis, r.off, r.live, fun i v h => by
    rw [wipe_get fun z => hm i z ((m i).2 ⟨v, h⟩)]
    exact r.fix i v h, r.tp⟩
theorem Rel.unwipe (r : Rel K pv F H (L2.wipe σ vs) env B) : Rel K pv F H σ env B :=
  ⟨r.sub, by have := r.len; rwa [wipe_length] at this, fun i t h => by
    obtain ⟨v, e1, e2⟩ := r.at_ i t h
    exact ⟨v, (wipe_some e1).1, e2⟩, r.dis, r.off, r.live, fun i v h => (wipe_some (r.fix i v h)).1, r.tp⟩
/-- an object that stands beside -/
structure Aside (F H : Hp) (R : Rg) (D : Addr) (o : HO) : Prop where
  at_ : H D = some o
  out : ¬ R D
  off : F D = none
  nt : NT o := by first | nofun | assumption
theorem Aside.on {F' H' : Hp} {R R' : Rg} {D : Addr} {o : HO} (a : Aside F H R D o) (s : Step F H R F' H' R') : Aside F' H' R' D o := by
  refine ⟨s.keep D o a.at_ a.out a.nt, fun z => ?_, ?_, a.nt⟩
  · rcases s.fresh D z with y | y
    · exact a.out y
    · rw [a.at_] at y; cases y
  · cases q : F' D with
    | none => rfl
    | some x =>
      rcases s.newF D (by rw [q]; simp) with y | y | y
      · exact absurd a.off y
      · exact absurd y a.out
      · rw [a.at_] at y; cases y
theorem Rel.aside {D : Addr} {o o' : HO} (r : Rel K pv F H σ env B) (a : Aside F H (U B) D o) (ht : ∀ xs, o' ≠ .tup xs := by intro _ z; cases z) (hn : NT o' := by first | nofun | assumption) : Rel K pv F (upd H D o') σ env B ∧ Aside F (upd H D o') (U B) D o' := by
  have ne : ∀ i b, B i b → b ≠ D := fun i b h z => a.out ⟨i, by rw [← z]; exact h⟩
  refine ⟨⟨fun b x h => ?_, r.len, fun i t h => ?_, r.dis, r.off, fun i b h => ?_, r.fix, Tq.upd r.tp (fun ps z => a.nt ps (Option.some.inj (a.at_.symm.trans z))) ht⟩, ⟨upd_same, a.out, a.off, hn⟩⟩
  · rw [upd_ne (fun z => by rw [z, a.off] at h; cases h)]; exact r.sub b x h
  · obtain ⟨v, e1, e2⟩ := r.at_ i t h
    exact ⟨v, e1, e2.mono (Same.refl _) (fun b x hb q => by rw [upd_ne (ne i b hb)]; exact q) fun _ z => z⟩
  · rw [upd_ne (ne i b h)]; exact r.live i b h
end
def wYes : WT := fun env P => P true env
def wLcL (g : WG) (wt : WT) (we : WE) (own : List Nat) (chk : Ev → Prop) : List D → List D → (List D → Ev → Prop) → Ev → Prop
  | [], acc, k, env => chk env ∧ k acc env
  | d :: ds, acc, k, env => chk env ∧ g d env fun e1 => wt e1 fun b e2 => (b = true → we e2 fun t e3 => acc.length < sizeLine ∧ wLcL g wt we own chk ds (acc ++ [t.fr]) k (clsE e3 own)) ∧ (b = false → wLcL g wt we own chk ds acc k (clsE e2 own))
def wLc (own : List Nat) (wi : WI) (g : WG) (wt : WT) (we : WE) : WE := fun env P => wi env fun items chk e1 => wLcL g wt we own chk items [] (fun ds e => P (.lst ds) e) (clsE e1 own)
section
variable {X : Cx} {pm : List Bool} {elt tg iter : Expr} {ifs : List Expr} {scope : Scope} {own : List (Str × Nat)} {pos : Pos} {wi : WI} {g : WG} {wt : WT} {we : WE} {ws : List Nat}
theorem zts_nil : PTs X [] (TTz X pm wYes) := ⟨fun pins s σ H Q I ⟨pv, F, B, env, P, m, rel, hw, hq⟩ => pts_nil.run pins s σ H Q I (hq true env hw F H B .refl rel)⟩
theorem zts_one {c : Expr} (h : ZT X pm c wt) : PTs X [c] (TTz X pm wt) := pts_one h
theorem tz_lc (hm : ∀ i ∈ own.map (·.2), pm[i]? ≠ some true) (hws : ∀ i ∈ ws, i ∈ own.map (·.2)) {σ H Q} : TZ X pm (wLc (own.map (·.2)) wi g wt we) σ H Q → tLc (TIz X pm wi) (TGz X pm ws g) (TTz X pm wt) (TZ X pm we) (own.map (·.2)) σ H Q := fun ⟨pv, F, B, env, P, m, rel, hw, hq⟩ => by
  generalize hvs : own.map (·.2) = vs at *
  refine ⟨pv, F, B, env, _, m, rel, hw, fun items chk e1 h1 F1 H1 B1 J s1 r1 fd D hD => ?_⟩
  -- the turn's state
  let Wz : Nat → Hp → Prop := fun i H' => ∃ F' B' env' acc accV, Step F1 H1 (U B1) F' H' (Ru (U B') (fun a => a = D)) ∧ Same F1 F' ∧ Rel X.K pv F' H' (wipe σ vs) env' B' ∧ Aside F' H' (U B') D (.lst accV) ∧ IsDs X.K F' accV acc ∧
    wLcL g wt we vs chk (items.drop i) acc (fun ds e => P (.lst ds) e) env'
  refine ⟨fun i k H' => k = items.length - i ∧ i ≤ items.length ∧ Wz i H', ⟨_, rfl, Nat.zero_le _, ?_⟩, fun i k H' ⟨ek, hi, F', B', env', acc, accV, s', le', r', as', hacc, h'⟩ => ?_⟩
  · have al := Alloc.own (o := .lst []) r1.sub hD
    obtain ⟨r2, s2, d2⟩ := r1.alloc al
    exact ⟨F1, B1, clsE e1 vs, [], [], s2, Same.refl _, r2.wipe m hm, ⟨upd_same, fun ⟨i, z⟩ => d2 i D rfl z, r1.none_of hD, nofun⟩, .nil, h1⟩
  · by_cases hl : i < items.length
    · have ed : items.drop i = items[i] :: items.drop (i + 1) := List.drop_eq_getElem_cons hl
      have hx : items[i]? = some items[i] := List.getElem?_eq_getElem hl
      rw [ed] at h'
      obtain ⟨hc', h'⟩ := h'
      refine .inr ⟨fd.go i _ F' H' _ env' B' r' le' hc' hx, Wz (i + 1), fun H2 q => ⟨items.length - (i + 1), by omega, rfl, by omega, q⟩, fun x H2 y => ?_⟩
      obtain ⟨F2, al, hd⟩ := fd.yld i _ F' H' _ env' B' x H2 r' le' hc' hx y
      obtain ⟨r2, s2, _⟩ := r'.alloc al
      have s2 := s2.l
      have as2 := as'.on s2
      refine ⟨pv, F2, B', env', _, _, m, r2, hd, h', fun e3 h3 F3 H3 σ3 B3 w3 s3 r3 => ⟨wipe_wr w3 hws |>.trans ?_, ?_⟩⟩
      · -- wiping twice
        apply List.ext_getElem?
        intro j
        by_cases z : j ∈ vs
        · rw [wipe_in z, wipe_in z, wipe_length]
        · rw [wipe_get z]
      · have as3 := as2.on s3
        have wσ : wipe σ3 vs = wipe σ vs := by
          rw [wipe_wr w3 hws]
          apply List.ext_getElem?
          intro j
          by_cases z : j ∈ vs
          · rw [wipe_in z, wipe_in z, wipe_length]
          · rw [wipe_get z]
        -- what a state behind the turn comes to
        have comp : ∀ {F5 H5 H6 : Hp} {B5 : Nat → Rg} {o5 : HO}, Step F' H' (U B') F5 H5 (U B5) → Aside F5 H5 (U B5) D o5 → H6 = upd H5 D o5 ∨ (∃ o6, H6 = upd H5 D o6) → Step F1 H1 (U B1) F5 H6 (Ru (U B5) (fun a => a = D)) := fun {F5 H5 H6 B5 o5} st a5 hh => by
          have hk : ∀ a o, a ≠ D → H5 a = some o → H6 a = some o := fun a o n q => by
            rcases hh with rfl | ⟨o6, rfl⟩ <;> (rw [upd_ne n]; exact q)
          refine ⟨s'.le.trans st.le, fun a o q n nt => ?_, fun a q n => ?_, fun a h => ?_, fun a h => ?_⟩
          · have nD : a ≠ D := fun z => by rw [z, hD] at q; cases q
            have q' := s'.keep a o q n nt
            refine hk a o nD (st.keep a o q' (fun z => ?_) nt)
            rcases s'.fresh a (.inl z) with y | y
            · exact n y
            · rw [q] at y; cases y
          · have nD : a ≠ D := fun z => q (by rw [z, hD])
            have q' := st.lv a (s'.lv a q n) fun z => (s'.fresh a (.inl z)).elim n q
            obtain ⟨o, qo⟩ := Option.ne_none_iff_exists'.mp q'
            rw [hk a o nD qo]; simp
          · rcases h with h | h
            · rcases st.fresh a h with z | z
              · exact s'.fresh a (.inl z)
              · exact s'.gone z
            · exact .inr (by rw [h]; exact hD)
          · rcases st.newF a h with z | z | z
            · exact s'.newF a z
            · exact .inr (s'.fresh a (.inl z))
            · exact .inr (s'.gone z)
        refine ⟨pv, F3, B3, e3, _, m, r3, h3, fun b e4 h4 F4 H4 B4 s4 r4 => ?_⟩
        have as4 := as3.on s4
        have st4 := (s2.trans s3).trans s4
        cases b with
        | false =>
          refine iteF ?_
          refine ⟨F4, B4, clsE e4 vs, acc, accV, ?_, (le'.trans st4.le), by rw [← wσ]; exact r4.wipe m hm, as4, hacc.mono st4.le, h4.2 rfl⟩
          have := comp (H6 := upd H4 D (.lst accV)) st4 as4 (.inl rfl)
          have e : upd H4 D (.lst accV) = H4 := by
            funext a
            by_cases z : a = D
            · rw [z, upd_same, as4.at_]
            · rw [upd_ne z]
          rwa [e] at this
        | true =>
          refine iteT ?_
          refine ⟨pv, F4, B4, e4, _, m, r4, h4.1 rfl, fun t e5 h5 F5 H5 B5 R5 v s5 r5 o5 => ?_⟩
          have as5 := as4.on s5
          obtain ⟨F6, r6, s6, d6⟩ := r5.freezeV o5
          have as6 := as5.on s6
          have st6 := (st4.trans s5).trans s6
          refine ⟨accV, as6.at_, by rw [hacc.length]; exact h5.1, F6, B5, clsE e5 vs, acc ++ [t.fr], accV ++ [v], comp st6 as6 (.inr ⟨_, rfl⟩), le'.trans st6.le, ?_, (r6.aside as6).2, (hacc.mono st6.le).append (.cons d6 .nil), h5.2⟩
          rw [← wσ]
          exact (r6.aside as6).1.wipe m hm
    · have ei : i = items.length := by omega
      subst ei
      rw [List.drop_length] at h'
      obtain ⟨hc', h'⟩ := h'
      refine .inl ⟨fd.stop _ F' H' _ env' B' r' le' hc' (Nat.le_refl _), ?_⟩
      refine hq _ _ h' F' H' B' (fun a => a = D) _ (s1.trans s') r'.unwipe ⟨.lst rfl as'.at_ hacc, fun i a e z => as'.out ⟨i, by rw [← e]; exact z⟩, fun a e => by rw [e]; exact as'.off, fun a e => by rw [e, as'.at_]; simp⟩
theorem ze_lc (hc : X.calm = true) (hN : X.N.Nodup) (hi : ZI X pm tg iter wi) (ok : BlkOk X.N X.env.scope scope own)
    (hg : ∀ (s : Shared) (H : Hp) (C : Addr) (cl : List (Str × Addr)) (fp : List Addr), PG (X.blk s H scope (compEnvC scope cl C X.env) fp) tg (TGz X pm ws g)) (ht : ∀ (s : Shared) (H : Hp) (C : Addr) (cl : List (Str × Addr)) (fp : List Addr), PTs (X.blk s H scope (compEnvC scope cl C X.env) fp) ifs (TTz X pm wt))
    (he : ∀ (s : Shared) (H : Hp) (C : Addr) (cl : List (Str × Addr)) (fp : List Addr), PE (X.blk s H scope (compEnvC scope cl C X.env) fp) elt (TZ X pm we)) (hm : ∀ i ∈ own.map (·.2), pm[i]? ≠ some true) (hws : ∀ i ∈ ws, i ∈ own.map (·.2)) (hs : ∀ x, foldedSetIterable iter X.env x = pure x := by intro _; rfl) :
    ZE X pm (.ListComp elt [⟨tg, iter, ifs, 0⟩] scope pos) (wLc (own.map (·.2)) wi g wt we) := pe_imp (pe_lc hc hN hi ok hg ht he hs) fun _ _ _ => tz_lc hm hws
end
theorem zs_setLc {X : Cx} {pm : List Bool} {elt tg iter : Expr} {ifs : List Expr} {scope : Scope} {own : List (Str × Nat)} {pos spos : Pos} {wi : WI} {g : WG} {wt : WT} {we : WE} {ws : List Nat} {i : Nat} {y : Str} {py : Pos}
    (hc : X.calm = true) (hN : X.N.Nodup) (hy : X.N[i]? = some y) (hl : X.env.scope.names.lookup y = some .local) (hmi : pm[i]? ≠ some true)
    (hsw : swapsWith (.ListComp elt [⟨tg, iter, ifs, 0⟩] scope pos) (some (.Name y py)) spos.line X.env = pure true) (hi : ZI X pm tg iter wi) (ok : BlkOk X.N X.env.scope scope own)
    (hg : ∀ (s : Shared) (H : Hp) (C : Addr) (cl : List (Str × Addr)) (fp : List Addr), PG (X.blk s H scope (compEnvC scope cl C X.env) fp) tg (TGz X pm ws g)) (ht : ∀ (s : Shared) (H : Hp) (C : Addr) (cl : List (Str × Addr)) (fp : List Addr), PTs (X.blk s H scope (compEnvC scope cl C X.env) fp) ifs (TTz X pm wt))
    (he : ∀ (s : Shared) (H : Hp) (C : Addr) (cl : List (Str × Addr)) (fp : List Addr), PE (X.blk s H scope (compEnvC scope cl C X.env) fp) elt (TZ X pm we)) (hm : ∀ i ∈ own.map (·.2), pm[i]? ≠ some true) (hws : ∀ i ∈ ws, i ∈ own.map (·.2)) (hs : ∀ x, foldedSetIterable iter X.env x = pure x := by intro _; rfl) :
    ZS X pm (.Assign [.Name y py] (.ListComp elt [⟨tg, iter, ifs, 0⟩] scope pos) spos) (wSet i (wLc (own.map (·.2)) wi g wt we)) := ps_imp (ps_setLc hc hN hy hl hsw hi ok hg ht he hs) fun D σ H ⟨pv, F, B, env, E, m, rel, hw, cn⟩ =>
  tz_lc hm hws ⟨pv, F, B, env, _, m, rel, hw, fun t e1 h1 F1 H1 B1 R1 v s1 r1 o1 => by
    obtain ⟨B2, r2, s2⟩ := r1.store o1 m hmi
    exact cn.nx _ F1 H1 _ B2 h1 (s1.less s2) r2⟩
/-- a name that stays through an expression -/
def wPinE (j : Nat) (w : WE) : WE := fun env P => (gt env j).isSome = true ∧ w env P
theorem ze_pin {X : Cx} {pm : List Bool} {e : Expr} {w : WE} (j : Nat) (h : ZE X (pinL pm j) e w) : ZE X pm e (wPinE j w) := pe_imp h fun σ H Q ⟨pv, F, B, env, P, m, rel, hw, hq⟩ => by
  obtain ⟨hs, hw⟩ := hw
  obtain ⟨t, q⟩ := Option.isSome_iff_exists.mp hs
  obtain ⟨v, e1, e2⟩ := rel.at_ j t (gt_some q)
  have hk : ∀ (i : Nat) (u : V), pv[i]? = some (some u) → (pinV pv j v)[i]? = some (some u) := fun i u hu => by
    by_cases z : i = j
    · subst z
      have := rel.fix i u hu
      rw [e1] at this; cases this
      exact pinV_at pv i v
    · exact pinV_ne pv j v i u z hu
  exact ⟨pinV pv j v, F, B, env, P, m.pin j v, rel.pin e1, hw, fun t e ht F' H' B' R v st r o => hq t e ht F' H' B' R v st (r.unpin hk) o⟩
end Zl

namespace Zl
open PySem PySem.Spec PyProof.Rows L2

/-! ### isinstance -/
def tyN : D → Option String
  | .non => some "NoneType"
  | .bl _ => some "bool"
  | .int _ => some "int"
  | .str _ => some "str"
  | .lst _ => some "list"
  | .rol _ => some "list"
  | .tup _ => some "tuple"
  | _ => none
def isiT (a n : String) : Bool := a == n || (a == "bool" && n == "int")
def isiNames : List String := ["int", "str", "bool", "list", "tuple", "dict"]
def gIsi : List D → (T → Prop) → Prop
  | [x, .ty n], k => match tyN x with
    | some a => isiNames.contains n = true ∧ k (.fz (.bl (isiT a n)))
    | none => False
  | _, _ => False
theorem kit_all : ∀ a ∈ ["NoneType", "bool", "int", "str", "list", "tuple"], ∀ n ∈ isiNames, kitB a n = some (isiT a n) := by decide +kernel
section
variable {X : Cx} {K : PySem.W.Frag} {F H : Hp}
theorem tyx_of {x : D} {v : V} {a : String} (s : Same F H) (h : Pk K F H v x) (e : tyN x = some a) : TyX K H v (.type a) ∧ a ∈ ["NoneType", "bool", "int", "str", "list", "tuple"] := by
  cases x <;> cases e
  · rw [h.non]; exact ⟨.base .non, by decide⟩
  · rw [h.bl]; exact ⟨.base (.bl _), by decide⟩
  · rw [h.int]; exact ⟨.base (.int _), by decide⟩
  · rw [h.str]; exact ⟨.base (.str _), by decide⟩
  · obtain ⟨p, vs, rfl, hq, _⟩ := h.tup1 s
    refine ⟨?_, by decide⟩
    rcases hq with (hq | ⟨o, hq⟩) | ⟨o, its, n, hq, hc, _⟩
    · exact .base (.tup hq)
    · exact .fTuple hq
    · exact .kTuple hq hc
  · obtain ⟨p, vs, rfl, hq, _⟩ := h.lst1 s
    exact ⟨.base (.lst hq), by decide⟩
  · obtain ⟨p, vs, rfl, hq, _⟩ := h.rol1 s
    refine ⟨?_, by decide⟩
    rcases hq with (hq | ⟨o, hq⟩) | ⟨o, its, n, hq, hc, _⟩
    · exact .base (.lst hq)
    · exact .base (.frz hq)
    · exact .kList hq hc
theorem opn_isi : OpN K (rIsi K) gIsi := ⟨fun F H vs ds P Q s hv h hq => by
  match ds, hv, h with
  | [], _, h => exact h.elim
  | [_], _, h => exact h.elim
  | [x, y], hv', h =>
    obtain ⟨v, u, rfl, k1, k2⟩ := hv'.two
    cases y <;> first
      | exact h.elim
      | skip
    rename_i n
    have h : (match tyN x with | some a => isiNames.contains n = true ∧ P (.fz (.bl (isiT a n))) | none => False) := h
    cases e : tyN x with
    | none => rw [e] at h; exact h.elim
    | some a =>
      rw [e] at h
      obtain ⟨t1, t2⟩ := tyx_of s k1 e
      have hn : n ∈ isiNames := by simpa using h.1
      have ku : u = .ty n := by
        cases k2 with
        | d h => cases h; rfl
      rw [ku]
      exact ⟨v, .ty n, .type a, .type n, isiT a n, rfl, .ty n, t1, kit_ty (kit_all a t2 n hn), hq _ _ F H Rg0 h.2 (.refl s) (.fz (.bl _))⟩
  | x :: y :: _ :: _, _, h => exact absurd h (by cases y <;> exact fun z => z)⟩
/-- isinstance(x, C) of an instance of C -/
def gIsiC (c : Cd) : List D → (T → Prop) → Prop
  | [.ins c' _, .cls C], k => (c' = c ∧ C = c.C) ∧ k (.fz (.bl true))
  | _, _ => False
def rIsiC (C : Addr) : List V → Hp → VK → Prop := fun xs H Q => ∃ a dx fs, xs = [.ref a, .ref C] ∧ H a = some (.ins C dx fs) ∧ Q (.bl true) H
theorem opn_isiC {c : Cd} : OpN K (rIsiC c.C) (gIsiC c) := ⟨fun F H vs ds P Q s hv h hq => by
  match ds, hv, h with
  | [], _, h => exact h.elim
  | [_], _, h => exact absurd h (by cases ‹D› <;> exact fun z => z)
  | [x, y], hv', h =>
    obtain ⟨v, u, rfl, k1, k2⟩ := hv'.two
    cases x <;> cases y <;> first
      | exact h.elim
      | skip
    obtain ⟨⟨e1, e2⟩, h9⟩ := h
    subst e1 e2
    obtain ⟨C0, ku⟩ : ∃ C0, u = .ref C0 ∧ C0 = (_ : Cd).C := by
      cases k2 with
      | d h => cases h; exact ⟨_, rfl, rfl⟩
    obtain ⟨ku, ku2⟩ := ku
    subst ku ku2
    cases k1 with
    | d k =>
      cases k with
      | ins hh l hs => exact ⟨_, _, _, rfl, s _ _ hh, hq _ _ F H Rg0 h9 (.refl s) (.fz (.bl _))⟩
    | ins hh l => exact ⟨_, _, _, rfl, hh, hq _ _ F H Rg0 h9 (.refl s) (.fz (.bl _))⟩
  | x :: y :: _ :: _, _, h => exact absurd h (by cases x <;> cases y <;> exact fun z => z)⟩
/-- a built-in type, a class of the text, as a value -/
theorem ze_ty {pm : List Bool} {x : Str} {n : String} {pos : Pos} (hg : Gl X x) (hm : X.mg x = none) (hv : bootBuiltins x = some (.type n)) (hn : x ≠ "__name__" := by decide) (hd : (x == ("__debug__" : Str)) = false := by decide) : ZE X pm (.Name x pos) (wC (.ty n)) :=
  ze_c (pe_bltn (v := .ty n) hg hm hv rfl hn hd) fun _ _ => .ty n
theorem ze_cls {pm : List Bool} {x : Str} {C : Addr} {pos : Pos} (hg : Gl X x) (hm : X.mg x = some (.ref C)) (hd : (x == ("__debug__" : Str)) = false := by decide) : ZE X pm (.Name x pos) (wC (.cls C)) :=
  ze_c (pe_glob (v := .ref C) hg hm rfl hd) fun _ _ => .cls C
end

/-! ### in, not in: flat things in a list or tuple -/
def flatD : D → Bool
  | .non => true
  | .bl _ => true
  | .int _ => true
  | .str _ => true
  | _ => false
end Zl

/-! A def's promise where no repr is under way (repr of lists and tuples asks for it). -/
namespace Zl
open PySem PySem.Spec PyProof.Rows L2

/-- no repr is under way -/
abbrev NoG (A : Around) : Prop := A.guards = some []
theorem NoG.deeper {A : Around} (g : NoG A) (e : Env) : NoG (A.deeper e) := by
  first | exact g | (unfold NoG at *; simp [Around.deeper, g])
theorem NoG.make {A : Around} (g : NoG A) (C : Addr) (us : List Value) : NoG (A.under (.builtin "type.__call__" ⟨.ref C :: us, []⟩)) := by
  unfold NoG at *
  first | exact g | simp [Around.under, Code.guards, Code.isGuard, guardIds, pushGuards, g]
structure FnG (P : Program) (w : World) (K : PySem.W.Frag) (mg : Str → Option Value) (base : Heap) (k : Nat) (f : Addr) (fd : FuncData) (ps : List Str) (sp : Sp) : Prop where
  len : ∀ vs H Q E, sp vs H Q E → vs.length = ps.length
  run : ∀ (A : Around) (outer : List Env) (s : Shared) (H : Hp) (args : Args) (us : List Value) (vs : List V) (Q : VK) (E : XK), NoG A → Room k A → Env0 P w K mg base A outer s H →
    BindsTo s fd args (ps.zip us) → Vals vs us → sp vs H Q E → codeAny (model P w) A (.call (.ref f) args) (CR CX0 outer P w H s Q E) s
section
variable {P : Program} {w : World} {K : PySem.W.Frag} {mg : Str → Option Value} {base : Heap}
/-- a def's promise by its body -/
theorem fnG_body {x qual : Str} {st : Stmt} {f : Addr} {fd : FuncData} {N ps : List Str} {k : Nat} {sp : Sp} (Fn : Fun K x qual st f fd) (S : FnScope N ps (defScope st)) (len : ∀ vs H Q E, sp vs H Q E → vs.length = ps.length)
    (hbody : ∀ (cdv : Value), fd.code = cdv → ∀ (A : Around) (outer : List Env) (s : Shared) (H : Hp) (vs : List V) (Q : VK) (E : XK), NoG A → Room k (A.deeper (envOfC qual (defScope st) s.heap.objs.size f cdv)) → sp vs H Q E →
      ∃ t, PSs (cxOf CX0 P w K mg base N qual (defScope st) f cdv A outer s H E).nox (defBody st) t ∧ t { nx := fun _ H' => Q .non H', rt := Q } (start N vs) H) : FnG P w K mg base (k + 1) f fd ps sp := by
  obtain ⟨oc, od, kV, doc, pm, an, cdv, ct, osl, efd, lk, hcd⟩ := Fn.ex
  subst efd
  constructor
  · exact len
  intro A outer s H args us vs Q E ng hr e0 hb rv hsp
  have inS := fun b o (z : base.get? b = some o) => (e0.bs b o z).1
  have kin : K.In s.heap := e0.mod.kin.keeps inS
  have nl : s.heap.NoLimit := e0.mod.nolimit.keeps inS
  have hk : ∀ y ∈ ps.zip us, (defScope st).names.lookup y.1 = some .local ∨ ((defScope st).names.lookup y.1 = some .cell ∧ ((cellsFrom (s.heap.objs.size + 1) (defScope st).names []).lookup y.1).isSome = true) := by
    rintro ⟨n, v⟩ hy
    cases S.par n (List.of_mem_zip hy).1 with
    | inl q => exact Or.inl q
    | inr q => exact Or.inr ⟨q, PySem.W.cellsFrom_some _ _ _ (Or.inl q)⟩
  refine codeAny_call_function hr.depth (kin _ _ lk) rfl S.co S.gen rfl (PySem.W.codeRec_of kin hcd) (hb _ _ _ _ (wpAny_newFunctionEnv_cells S.kind hk ?_))
  intro env he s1 inC
  subst he
  refine ⟨nl.keeps inC.toInCall.keep, codeAny_func ?_⟩
  obtain ⟨t, ht, hq⟩ := hbody cdv rfl A outer s H vs Q E ng (hr.deeper _) hsp
  have I := inv_start (CX := CX0) (P := P) (w := w) (N := N) (qual := qual) (f := f) (cd := cdv) (E := E) S hr.hd e0 (len _ _ _ _ hsp) rv inC
  refine wpAny_mono (ht.nox.run [] s1 (start N vs) H _ I hq) ?_ fun _ _ z => z
  intro fl s' hs
  match fl, hs with
  | .ret u, ⟨v, _, H', J, r, q⟩ => exact ⟨v, H', J.os, J.bare, J.base, J.hok, r, q⟩
  | .next, ⟨_, H', J, q⟩ => exact ⟨V.non, H', J.os, J.bare, J.base, J.hok, (rfl : Value.none = Value.none), q⟩
  | .brk, ⟨_, _, _, q⟩ => exact q.elim
  | .cont, ⟨_, _, _, q⟩ => exact q.elim
/-- THE RULE for a def -/
theorem z_funG {x qual : Str} {st : Stmt} {f : Addr} {fd : FuncData} {N ps : List Str} {k : Nat} {sp : DSp} (pm : List Bool) (Fn : Fun K x qual st f fd) (S : FnScope N ps (defScope st)) (hpm : pm.length = ps.length) (len : ∀ ts P, sp ts P → ts.length = ps.length)
    (hbody : ∀ (cdv : Value), fd.code = cdv → ∀ (A : Around) (outer : List Env) (s : Shared) (H : Hp) (E : XK), NoG (A.deeper (envOfC qual (defScope st) s.heap.objs.size f cdv)) → Room k (A.deeper (envOfC qual (defScope st) s.heap.objs.size f cdv)) →
      ∃ w0, ZSs (cxOf CX0 P w K mg base N qual (defScope st) f cdv A outer s H E).nox pm (defBody st) w0 ∧ ∀ ts P, sp ts P → w0 (fin pm ts P) (Zl.entry N.length ts)) : FnG P w K mg base (k + 1) f fd ps (spOf K sp) := by
  refine fnG_body Fn S (fun vs H Q E ⟨F, B, ts, P, r, h, _⟩ => ?_) fun cdv hcd A outer s H vs Q E ng hr ⟨F, B, ts, P, r0, h, hq⟩ => ?_
  · have := r.len
    rw [List.length_map, List.length_map] at this
    rw [this]; exact len ts P h
  · obtain ⟨w0, hw, hb⟩ := hbody cdv hcd A outer s H E (ng.deeper _) hr
    have hvl : vs.length = ts.length := by have := r0.len; rwa [List.length_map, List.length_map] at this
    have hpv : pm.length = vs.length := by rw [hpm, hvl, len ts P h]
    obtain ⟨B2, r1, s1, m1⟩ := Rel.entry (N := N) hpv r0
    refine ⟨_, hw, pinned pm vs, F, B2, _, fin pm ts P, m1, r1, hb ts P h, ?_⟩
    have go : ∀ (t : T) (env' : Ev) (F' H' : Hp) (σ' : L2.St) (B' : Nat → Rg) (R' : Rg) (v : V), (match aft pm ts env' with | some ts' => P t ts' | none => False) → Step F H (U B2) F' H' (Ru (U B') R') → Rel K (pinned pm vs) F' H' σ' env' B' → OwnV K F' H' B' R' v t → Q v H' := fun t env' F' H' σ' B' R' v hp s2 r2 o2 => by
      cases q : aft pm ts env' with
      | none => rw [q] at hp; exact hp.elim
      | some ts' =>
        rw [q] at hp
        obtain ⟨B3, r3, s3, o3⟩ := Rel.out hpv r0 s2.le r2 q o2 (s2.more s1)
        exact hq t ts' hp F' H' B3 R' v s3 r3 o3
    exact ⟨fun env' F' H' σ' B' hp s2 r2 => go (.fz .non) env' F' H' σ' B' Rg0 .non hp s2.r0 r2 (OwnV.fz .non), fun t env' F' H' σ' B' R' v hp s2 r2 o2 => go t env' F' H' σ' B' R' v hp s2 r2 o2, fun env' F' H' σ' B' hp s2 r2 => hp.elim, fun env' F' H' σ' B' hp s2 r2 => hp.elim⟩
end
section
variable {X : Cx} {k : Nat} {f C : Addr} {fd : FuncData} {ps : List Str} {sp : Sp} {dvs : List V} {ds : List Value} {x m : Str} {p pos apos : Pos} {e o : Expr} {es : List Expr} {ta : TE} {t : TA}
  {pins : List (Addr × Obj)} {σ : L2.St} {H : Hp} {s : Shared} {Q : VK} {us : List Value} {vs : List V}
/-- the callee runs -/
theorem runG (Fn : FnG X.prog X.w X.K X.mg X.base k f fd ps sp) (g : NoG X.A) (hr : Room k X.A) (hb : Binds X.K fd ps ds) (hd : Vals dvs ds) (I : Inv X pins σ H s) (r : Vals vs us) (h : sp (vs ++ dvs) H Q E0) :
    wpAny (model X.prog X.w) X.A (call (.ref f) us) (EP X pins σ Q) X.xe s := by
  have rr := r.append hd
  have hl : (us ++ ds).length = ps.length := rr.length ▸ Fn.len _ _ _ _ h
  refine wpAny_call (codeAny_mono (Fn.run X.A X.stack s H ⟨us, []⟩ (us ++ ds) (vs ++ dvs) Q E0 g hr I.env0 (hb s us I.kIn hl) rr h) ?_)
  intro r s' hq
  match r, hq with
  | .ok (.ret _), hq => exact I.after hq
  | .error _, hq => exact hq.elim
theorem runMG (M : Mk X.K C f) (Fn : FnG X.prog X.w X.K X.mg X.base k f fd ps sp) (g : NoG X.A) (hr : Room (k + 1) X.A) (hb : Binds X.K fd ps ds) (hd : Vals dvs ds) (I : Inv X pins σ H s) (r : Vals vs us)
    (h : ∀ x dx, H x = none → H dx = none → dx ≠ x → sp (.ref x :: (vs ++ dvs)) (upd (upd H dx (.own x)) x (.ins C dx [])) (fun v H2 => v = .non ∧ Q (.ref x) H2) E0) :
    wpAny (model X.prog X.w) X.A (call (.ref C) us) (EP X pins σ Q) X.xe s := by
  -- the new object's place is n + 1, its dict's n
  generalize en : s.heap.objs.size = n
  have f1 : H (n + 1) = none := I.hok.fresh (en ▸ Nat.le_succ _)
  have f0 : H n = none := I.hok.fresh (en ▸ Nat.le_refl _)
  have hq := h (n + 1) n f1 f0 (Nat.ne_of_lt (Nat.lt_succ_self _))
  have J := Inv.made (C := C) I
  rw [en] at J
  have rr : Vals (.ref (n + 1) :: (vs ++ dvs)) (.ref (n + 1) :: (us ++ ds)) := .cons rfl (r.append hd)
  have hl : (.ref (n + 1) :: us ++ ds).length = ps.length := rr.length ▸ Fn.len _ _ _ _ hq
  have body := Fn.run _ X.stack _ _ ⟨.ref (n + 1) :: us, []⟩ _ _ _ E0 (g.make C us) (hr.make C us []) (J.env0.make C us []) (hb _ (.ref (n + 1) :: us) J.kIn hl) rr hq
  refine wpAny_call (make_map (f := f) I.kIn M.makes M.init (beq_iff_eq.mp M.fn) ?_)
  rw [en]
  refine codeAny_mono body ?_
  intro r s' hq'
  match r, hq' with
  | .ok (.ret _), hq' =>
    obtain ⟨v, H', I3, rv, ev, q3⟩ := J.after hq'
    subst ev
    exact ⟨rv, ⟨V.ref (n + 1), H', I3, rfl, q3⟩⟩
  | .error _, hq' => exact hq'.elim
theorem pe_callG (Fn : FnG X.prog X.w X.K X.mg X.base k f fd ps sp) (g : NoG X.A) (hr : Room k X.A) (hg : Gl X x) (hm : X.mg x = some (.ref f)) (hk : PySem.W.keepIn X.K (.ref f) = true) (hb : Binds X.K fd ps ds) (hd : Vals dvs ds)
    (ha : PA X (e :: es) t) (hdb : (x == ("__debug__" : Str)) = false) (he : starEach (e :: es) X.env = (false, eval e X.env) :: starEach es X.env) (hpl : (backTo pos (starEach es X.env)).any (·.1) = false) :
    PE X (.Call (.Name x p) (e :: es) [] pos) (tCall sp dvs E0 t) where
  run := fun pins s σ H Q I h => wpAny_Call_Name_kw (ld_glob I hg hm (PySem.W.callWith_K (h₀ := X.base) I.ok.mod.kin hk (thn (ha.run pos pins s σ H _ I h) fun us s1 ⟨vs, H1, I1, r, q⟩ => ⟨I1.kIn, runG Fn g hr hb hd I1 r q⟩) he hpl) hdb)
theorem pe_call0G (Fn : FnG X.prog X.w X.K X.mg X.base k f fd ps sp) (g : NoG X.A) (hr : Room k X.A) (hg : Gl X x) (hm : X.mg x = some (.ref f)) (hk : PySem.W.keepIn X.K (.ref f) = true) (hb : Binds X.K fd ps ds) (hd : Vals dvs ds)
    (hdb : (x == ("__debug__" : Str)) = false) : PE X (.Call (.Name x p) [] [] pos) (tCall sp dvs E0 tNil) where
  run := fun pins s σ H Q I h => wpAny_Call_Name_kw (ld_glob I hg hm (PySem.W.callWith_K0 I.kIn hk (runG (us := []) Fn g hr hb hd I .nil h)) hdb)
theorem pe_methG {pl : Sem Bool} (he : PE X o ta) (c : Cls X.K C) (hm : Meth X.K C m f) (Fn : FnG X.prog X.w X.K X.mg X.base k f fd ps sp) (g : NoG X.A) (hr : Room k X.A) (hb : Binds X.K fd ps ds) (hd : Vals dvs ds) (ha : PA X (e :: es) t)
    (hst : starEach (e :: es) X.env = (false, eval e X.env) :: starEach es X.env) (hpl : (backTo pos (starEach es X.env)).any (·.1) = false)
    (ht : eval (.Call (.Attribute o m apos) (e :: es) [] pos) X.env = (do
      let ov ← eval o X.env
      standAt apos.atName
      let (f, first) ← holding [ov] (getMethod ov m pl)
      callWith pos f first (backTo pos (starEach (e :: es) X.env)) (backToKw pos (keywordEach [] X.env)))) : PE X (.Call (.Attribute o m apos) (e :: es) [] pos) (tMeth C m sp dvs E0 ta t) where
  run := fun pins s σ H Q I h => PySem.W.methodCall_KW (pl := pl) (thn (he.run pins s σ H _ I h) fun u s1 ⟨x, H1, I1, rx, a, dx, fs, ex, ea, l, q⟩ => by
    subst ex
    cases (show u = Value.ref a from rx)
    exact getmeth_ok I1 ea c hm l (PySem.W.callWith_K (first := [.ref a]) (h₀ := X.base) I.ok.mod.kin hm.kp (thn (ha.run pos pins s1 σ H1 _ I1 q) fun us s2 ⟨vs, H2, I2, r, q2⟩ => ⟨I2.kIn, runG (us := .ref a :: us) (vs := .ref a :: vs) Fn g hr hb hd I2 (.cons rfl r) q2⟩) hst hpl)) ht
theorem pe_meth0G {pl : Sem Bool} (he : PE X o ta) (c : Cls X.K C) (hm : Meth X.K C m f) (Fn : FnG X.prog X.w X.K X.mg X.base k f fd ps sp) (g : NoG X.A) (hr : Room k X.A) (hb : Binds X.K fd ps ds) (hd : Vals dvs ds)
    (ht : eval (.Call (.Attribute o m apos) [] [] pos) X.env = (do
      let ov ← eval o X.env
      standAt apos.atName
      let (f, first) ← holding [ov] (getMethod ov m pl)
      callWith pos f first (backTo pos (starEach [] X.env)) (backToKw pos (keywordEach [] X.env)))) : PE X (.Call (.Attribute o m apos) [] [] pos) (tMeth C m sp dvs E0 ta tNil) where
  run := fun pins s σ H Q I h => PySem.W.methodCall_KW (pl := pl) (thn (he.run pins s σ H _ I h) fun u s1 ⟨x, H1, I1, rx, a, dx, fs, ex, ea, l, q⟩ => by
    subst ex
    cases (show u = Value.ref a from rx)
    exact getmeth_ok I1 ea c hm l (PySem.W.callWith_K0 (first := [.ref a]) I1.kIn hm.kp (runG (us := [.ref a]) (vs := [.ref a]) Fn g hr hb hd I1 (.cons rfl .nil) q))) ht
theorem pe_makeG (M : Mk X.K C f) (Fn : FnG X.prog X.w X.K X.mg X.base k f fd ps sp) (g : NoG X.A) (hr : Room (k + 1) X.A) (hg : Gl X x) (hm : X.mg x = some (.ref C)) (hb : Binds X.K fd ps ds) (hd : Vals dvs ds)
    (ha : PA X (e :: es) t) (hdb : (x == ("__debug__" : Str)) = false) (he : starEach (e :: es) X.env = (false, eval e X.env) :: starEach es X.env) (hpl : (backTo pos (starEach es X.env)).any (·.1) = false) :
    PE X (.Call (.Name x p) (e :: es) [] pos) (tMake C sp dvs E0 t) where
  run := fun pins s σ H Q I h => wpAny_Call_Name_kw (ld_glob I hg hm (PySem.W.callWith_K (h₀ := X.base) I.ok.mod.kin M.kp (thn (ha.run pos pins s σ H _ I h) fun us s1 ⟨vs, H1, I1, r, q⟩ => ⟨I1.kIn, runMG M Fn g hr hb hd I1 r q⟩) he hpl) hdb)
theorem pe_make0G (M : Mk X.K C f) (Fn : FnG X.prog X.w X.K X.mg X.base k f fd ps sp) (g : NoG X.A) (hr : Room (k + 1) X.A) (hg : Gl X x) (hm : X.mg x = some (.ref C)) (hb : Binds X.K fd ps ds) (hd : Vals dvs ds)
    (hdb : (x == ("__debug__" : Str)) = false) : PE X (.Call (.Name x p) [] [] pos) (tMake C sp dvs E0 tNil) where
  run := fun pins s σ H Q I h => wpAny_Call_Name_kw (ld_glob I hg hm (PySem.W.callWith_K0 I.kIn M.kp (runMG (us := []) M Fn g hr hb hd I .nil h)) hdb)
end
end Zl

/-! The law's call at the top, by a promise that asks for no repr under way. -/
namespace Zl
open PySem PySem.Spec PyProof.Rows L2
section
variable {P : Program} {w : World} {K : PySem.W.Frag} {mg mb : Str → Option Value} {k : Nat} {fa a : Addr} {fd : FuncData} {x : Str} {sp : Sp} {s : Shared} {vs : List Value} {ns : List Int}
/-- what is asked behind the law's call -/
def EndOk (s : Shared) (r : Result) (s' : Shared) : Prop := r = .ok (.ret (.bool true)) ∧ OldK s.heap s'.heap ∧ s'.os = s.os ∧ AllBare s'.gens
/-- from an abstract heap that tracks the script at most -/
theorem callG_at {H : Hp} (KX : K.In s.heap) (hns : s.heap.Ns mainGlobals mg) (hb : s.heap.Ns builtinsNs mb) (hbb : ∀ x : Str, x ≠ "__name__" → mb x = bootBuiltins x) (hlim : s.heap.NoLimit) (hg : s.gens = #[])
    (ha : s.heap.get? a = some { cls := .type "list", data := .seq vs.toArray }) (hr : Room k callerA) (Fn : ∀ base : Heap, K.In base → base.Ns mainGlobals mg → FnG P w K mg base k fa fd [x] sp)
    (hbind : ∀ (s : Shared) (u : Value), BindsTo s fd ⟨[u], []⟩ [(x, u)]) (hO : Only H) (hsp : sp [.ref a] H (fun v _ => v = .bl true) E0) (hok : HOk P w H s.heap) (hA : ∀ b, H b ≠ none → b = a) (hK : H a ≠ none → K.lookup a = none) :
    codeAny (model P w) callerA (.call (.ref fa) ⟨[.ref a], []⟩) (EndOk s) s := by
  -- what is no dict of the heap's is tracked at most
  have free : ∀ {b : Addr} {o : Obj}, s.heap.get? b = some o → (∀ c, o.data ≠ .seq c 0) → H b = none := fun {b o} e d => by
    by_cases z : H b = none
    · exact z
    · have := hA b z
      subst this
      rw [ha] at e
      cases e
      exact absurd rfl (d vs.toArray)
  have nsH : ∀ {b : Addr} {m : Str → Option Value}, s.heap.Ns b m → (hidT s.heap H).Ns b m := fun ⟨o, es, ep, e, d, q⟩ => ⟨o, es, ep, hidT_get e (free e fun c z => by rw [d] at z; cases z), d, q⟩
  have kH : K.In (hidT s.heap H) := fun b o e => hidT_get (KX b o e) (by
    by_cases z : H b = none
    · exact z
    · have z2 := hA b z
      subst z2
      rw [hK z] at e
      cases e)
  obtain ⟨mc, c1, c2⟩ := hlim
  have M : Mod K mg (hidT s.heap H) := ⟨kH, nsH hns, ⟨mb, nsH hb, hbb⟩, ⟨mc, nsH c1, c2⟩⟩
  have none_in : ∀ {b : Addr}, b ∉ ([] : List Addr) := fun z => by cases z
  have e0 : Env0 P w K mg (hidT s.heap H) callerA [] s H := ⟨rfl, M, fun b o e => of_hidT e, Nat.le_of_eq (hidT_size _ _), trivial, fun b z => (none_in z).elim, hok, .of_eq hg⟩
  refine codeAny_mono ((Fn _ kH (nsH hns)).run callerA [] s H ⟨[.ref a], []⟩ [.ref a] [.ref a] _ E0 rfl hr e0 (hbind s (.ref a)) (.cons rfl .nil) hsp) ?_
  intro r s' h
  match r, h with
  | .error _, h => exact h.elim
  | .ok (.ret u), ⟨v, H', os, bare, un, hok', rv, q⟩ =>
    replace q : v = .bl true := q
    subst q
    cases (show u = Value.bool true from rv)
    refine ⟨rfl, OldK.of_keep ?_, os, bare⟩
    intro b o e
    rcases hO b with z | ⟨ob, xs, z⟩
    · exact un.keep b o e z (fun y => none_in (show b ∈ ([] : List Addr) from y)) none_in
    · have e1 := (hok b _ z).1
      have e2 := (hok' b _ (un.frzs b ob _ z)).1
      rw [e1] at e
      rw [← e]
      exact e2
/-- THE HEAD -/
theorem callG (KX : K.In s.heap) (hns : s.heap.Ns mainGlobals mg) (hb : s.heap.Ns builtinsNs mb) (hbb : ∀ x : Str, x ≠ "__name__" → mb x = bootBuiltins x) (hlim : s.heap.NoLimit) (hg : s.gens = #[])
    (ha : s.heap.get? a = some { cls := .type "list", data := .seq vs.toArray }) (hi : IntsAre vs ns) (hl : ns.length ≤ sizeLine) (hr : Room k callerA) (Fn : ∀ base : Heap, K.In base → base.Ns mainGlobals mg → FnG P w K mg base k fa fd [x] sp)
    (hbind : ∀ (s : Shared) (u : Value), BindsTo s fd ⟨[u], []⟩ [(x, u)]) (hsp : ∀ H : Hp, SqL K H a (ns.map V.int) → sp [.ref a] H (fun v _ => v = .bl true) E0) :
    codeAny (model P w) callerA (.call (.ref fa) ⟨[.ref a], []⟩) (EndOk s) s := by
  have rv := vals_ints hi
  by_cases q : K.lookup a = none
  · -- tracked, known to the object
    let H : Hp := fun b => if b = a then some (.frz { cls := .type "list", data := .seq vs.toArray } (.lst (ns.map V.int))) else none
    have at_a : H a = some (.frz { cls := .type "list", data := .seq vs.toArray } (.lst (ns.map V.int))) := if_pos rfl
    have off_a : ∀ {b : Addr}, b ≠ a → H b = none := fun z => if_neg z
    refine callG_at (H := H) KX hns hb hbb hlim hg ha hr Fn hbind (fun b => ?_) (hsp H (.inl (.inr ⟨_, at_a⟩))) (fun b u z => ?_) (fun b z => ?_) fun _ => q
    · rcases Classical.em (b = a) with y | y
      · subst y; exact .inr ⟨_, _, at_a⟩
      · exact .inl (off_a y)
    · rcases Classical.em (b = a) with y | y
      · subst y
        rw [at_a] at z
        cases z
        exact ⟨ha, by rw [List.length_map]; exact hl, vs, _, rv, ha⟩
      · rw [off_a y] at z; cases z
    · rcases Classical.em (b = a) with y | y
      · exact y
      · exact (z (off_a y)).elim
  · -- an object of the module
    obtain ⟨o, ho⟩ := Option.ne_none_iff_exists'.mp q
    have e := KX a o ho
    rw [ha] at e
    cases e
    exact callG_at (H := fun _ => none) KX hns hb hbb hlim hg ha hr Fn hbind (fun _ => .inl rfl) (hsp _ (.inr ⟨_, vs.toArray, _, ho, rfl, rfl, rfl, by rw [List.size_toArray, hi.length]; exact hl, by simpa using rv⟩)) (fun b u z => by cases z) (fun b z => (z rfl).elim) fun z => (z rfl).elim
end
theorem walk_ofG {l : PySem.W.OpenLaw} {n k : Nat} {q : Program} {loose : List Str} {XP : (Str → Option Value) → Heap → Prop} {YP : World → Heap → Prop} {d : DefRec} {K : Params → PySem.W.Frag} {sp : World → Sp} {x : Str}
    (hn : l.most = some n) (hn2 : n ≤ sizeLine) (hdf : d.params.defaults = []) (hr : Room k callerA) (hY : ∀ (w : World) (h : Heap), YP w h → (K w.params).In h)
    (F : ∀ (w : World) (mg : Str → Option Value) (fa : Addr) (h : Heap), (K w.params).In h → h.Ns mainGlobals mg → mg d.name = some (.ref fa) → ∃ fd : FuncData, (∀ (s : Shared) (u : Value), BindsTo s fd ⟨[u], []⟩ [(x, u)]) ∧
      ∀ base : Heap, (K w.params).In base → base.Ns mainGlobals mg → FnG l.prog w (K w.params) mg base k fa fd [x] (sp w))
    (hsp : ∀ (w : World) (H : Hp) (a : Addr) (ns : List Int), ns.length ≤ n → SqL (K w.params) H a (ns.map V.int) → sp w [.ref a] H (fun v _ => v = .bl true) E0) :
    PySem.W.WalkO q loose XP YP l.row.toRowW d [] (fun f vs => PySem.call f vs) := by
  refine Att.attach_call hn hdf ?_
  intro w s₀ s₁ mg mb fa o pm cd doc a vs ns G Y ho hd hcd hmg hobj hints hlen hg
  have KX := hY w _ Y
  obtain ⟨fd, hb, hF⟩ := F w mg fa _ KX G.T.g hmg
  exact callG KX G.T.g G.T.b G.T.builtins G.T.nolimit hg hobj hints (Nat.le_trans hlen hn2) hr hF hb fun H hS => hsp w H a ns hlen hS
end Zl

/-! repr of data. -/
namespace Zl
open PySem PySem.Spec PyProof.Rows L2

/-- data of at most that depth that repr can show -/
def D.rp : Nat → D → Bool
  | _, .non => true
  | _, .bl _ => true
  | _, .int i => decide (i.natAbs < 2 ^ 200)
  | _, .str s => PyData.strOk s
  | n + 1, .tup ds => ds.all (D.rp n)
  | n + 1, .lst ds => ds.all (D.rp n)
  | n + 1, .rol ds => ds.all (D.rp n)
  | _, _ => false
mutual
/-- its text is at most that long -/
def D.sz : D → Nat
  | .str s => 10 * s.length + 2
  | .tup ds => D.szs ds + 3
  | .lst ds => D.szs ds + 3
  | .rol ds => D.szs ds + 3
  | _ => 210
def D.szs : List D → Nat
  | [] => 0
  | d :: ds => d.sz + 2 + D.szs ds
end
theorem D.rp_ok : ∀ (n : Nat) (d : D), D.rp n d = true → D.ok n d = true
  | _, .non, _ => by simp [D.ok]
  | _, .bl _, _ => by simp [D.ok]
  | _, .int _, _ => by simp [D.ok]
  | n, .str _, h => by cases n <;> exact h
  | 0, .tup ds, h => by cases h
  | 0, .lst ds, h => by cases h
  | 0, .rol ds, h => by cases h
  | n + 1, .tup ds, h => List.all_eq_true.mpr fun d hd => D.rp_ok n d (List.all_eq_true.mp h d hd)
  | n + 1, .lst ds, h => List.all_eq_true.mpr fun d hd => D.rp_ok n d (List.all_eq_true.mp h d hd)
  | n + 1, .rol ds, h => List.all_eq_true.mpr fun d hd => D.rp_ok n d (List.all_eq_true.mp h d hd)
  | 0, .ins _ _, h => by cases h
  | 0, .map _ _ _ _, h => by cases h
  | 0, .unk, h => by cases h
  | 0, .rot _, h => by cases h
  | _ + 1, .map _ _ _ _, h => by cases h
  | _ + 1, .unk, h => by cases h
  | _ + 1, .rot _, h => by cases h
  | 0, .ty _, h => by cases h
  | 0, .cls _, h => by cases h
  | _ + 1, .ins _ _, h => by cases h
  | _ + 1, .ty _, h => by cases h
  | _ + 1, .cls _, h => by cases h
theorem log_small {i : Int} (h : i.natAbs < 2 ^ 200) : i.natAbs.log2 < 200 := by
  by_cases z : i.natAbs = 0
  · rw [z]; decide
  · exact (Nat.log2_lt z).mpr h
theorem pys_len : ∀ ds : List D, (PyData.shownAll (D.pys ds)).length = ds.length
  | [] => by simp [D.pys, PyData.shownAll]
  | d :: ds => by simp only [D.pys, PyData.shownAll, List.length_cons, pys_len ds]
theorem shows {n : Nat} (ih : ∀ d : D, D.rp n d = true → d.py.showable = true ∧ d.py.shown.length ≤ d.sz) : ∀ ds : List D, ds.all (D.rp n) = true → PyData.showableAll (D.pys ds) = true ∧ ((PyData.shownAll (D.pys ds)).map (·.length)).sum + 2 * ds.length ≤ D.szs ds
  | [], _ => by simp [D.pys, PyData.showableAll, PyData.shownAll, D.szs]
  | d :: ds, h => by
    rw [List.all_cons, Bool.and_eq_true] at h
    obtain ⟨a, b⟩ := ih d h.1
    obtain ⟨c, e⟩ := shows ih ds h.2
    simp only [D.pys, PyData.showableAll, PyData.shownAll, D.szs, List.map_cons, List.sum_cons, List.length_cons, a, c, Bool.and_self, true_and]
    omega
theorem D.rp_py : ∀ (n : Nat) (d : D), D.rp n d = true → d.py.showable = true ∧ d.py.shown.length ≤ d.sz
  | n, .non, _ => by simp only [D.py, PyData.showable, PyData.shown, D.sz, true_and]; decide +kernel
  | n, .bl b, _ => by simp only [D.py, PyData.showable, PyData.shown, D.sz, true_and]; cases b <;> decide +kernel
  | n, .int i, h => by
    have h : decide (i.natAbs < 2 ^ 200) = true := by cases n <;> exact h
    have h := of_decide_eq_true h
    have l := log_small h
    simp only [D.py, PyData.showable, PyData.shown, D.sz]
    refine ⟨decide_eq_true (by omega), ?_⟩
    have := int_text_length_le (a := i) (k := 200) (by decide) l
    rw [PySem.ofString_length]
    omega
  | n, .str x, h => by
    have h : PyData.strOk x = true := by cases n <;> exact h
    simp only [D.py, PyData.showable, PyData.shown, D.sz, true_and]
    refine StrLaws.reprText_len x fun c hc => ?_
    have := (Array.all_eq_true_iff_forall_mem.mp h) c (by simpa using hc)
    have := of_decide_eq_true this
    omega
  | 0, .tup ds, h => by cases h
  | 0, .lst ds, h => by cases h
  | 0, .rol ds, h => by cases h
  | n + 1, .tup ds, h => by
    obtain ⟨a, b⟩ := shows (D.rp_py n) ds h
    simp only [D.py, PyData.showable, PyData.shown, D.sz]
    have := tupleText_len_le (PyData.shownAll (D.pys ds))
    rw [pys_len] at this
    exact ⟨a, by omega⟩
  | n + 1, .lst ds, h => by
    obtain ⟨a, b⟩ := shows (D.rp_py n) ds h
    simp only [D.py, PyData.showable, PyData.shown, D.sz]
    have := listText_len_le (PyData.shownAll (D.pys ds))
    rw [pys_len] at this
    exact ⟨a, by omega⟩
  | n + 1, .rol ds, h => by
    obtain ⟨a, b⟩ := shows (D.rp_py n) ds h
    simp only [D.py, PyData.showable, PyData.shown, D.sz]
    have := listText_len_le (PyData.shownAll (D.pys ds))
    rw [pys_len] at this
    exact ⟨a, by omega⟩
  | 0, .ins _ _, h => by cases h
  | 0, .map _ _ _ _, h => by cases h
  | 0, .unk, h => by cases h
  | 0, .rot _, h => by cases h
  | _ + 1, .map _ _ _ _, h => by cases h
  | _ + 1, .unk, h => by cases h
  | _ + 1, .rot _, h => by cases h
  | 0, .ty _, h => by cases h
  | 0, .cls _, h => by cases h
  | _ + 1, .ins _ _, h => by cases h
  | _ + 1, .ty _, h => by cases h
  | _ + 1, .cls _, h => by cases h
/-- the text that repr gives -/
def D.rpr (d : D) : Str := d.py.shown
def gRepr : List D → (T → Prop) → Prop
  | [x], k => (D.rp 60 x = true ∧ D.sz x ≤ sizeLine) ∧ k (.fz (.str (D.rpr x)))
  | _, _ => False
def rRepr (K : PySem.W.Frag) : List V → Hp → VK → Prop := fun vs H Q => ∃ v d, vs = [v] ∧ Dp K H v d ∧ d.canLay0 = true ∧ d.depth ≤ 60 ∧ d.showable = true ∧ d.shown.length ≤ sizeLine ∧ Q (.str d.shown) H
theorem cr_repr {X : Cx} (g : NoG X.A) (hu : X.A.units + 64 < cLine) : CallR X (.builtin "repr") (rRepr X.K) := by
  intro pins s σ H xs us Q I r h
  obtain ⟨v, d, rfl, hd, hl, hdp, hs, hz, q⟩ := h
  obtain ⟨u, rfl, rx⟩ := vals1 r
  obtain ⟨as, rd⟩ := hd.reads I _ _ _ rx
  cases rd with
  | none => exact P.repr_of_none ⟨.str _, H, I.tok _, ⟨_, by simp only [PyData.shown]; rfl⟩, q⟩
  | bool b => exact P.repr_of_bool ⟨.str _, H, I.tok _, ⟨_, by simp only [PyData.shown]; cases b <;> rfl⟩, q⟩
  | int i t => exact P.repr_of_int (of_decide_eq_true (by simpa only [PyData.showable] using hs)) ⟨.str _, H, I.tok _, ⟨_, by simp only [PyData.shown]; rfl⟩, q⟩
  | str x t => exact P.repr_of_str ⟨.str _, H, I.tok _, ⟨_, by simp only [PyData.shown]; rfl⟩, q⟩ (by simpa only [PyData.shown] using hz)
  | list h1 h2 h3 h4 => exact repr_of_reads' (.list h1 h2 h3 h4) hs (PyData.noDict_hsm (PyData.hasDict_of_canLay _ hl)) g (by omega) (fun _ _ e => e) (fun h' u tk kp => ⟨.str _, H, I.kept (t' := tk) kp, ⟨_, rfl⟩, q⟩) hz
  | tuple h1 h2 h3 h4 => exact repr_of_reads' (.tuple h1 h2 h3 h4) hs (PyData.noDict_hsm (PyData.hasDict_of_canLay _ hl)) g (by omega) (fun _ _ e => e) (fun h' u tk kp => ⟨.str _, H, I.kept (t' := tk) kp, ⟨_, rfl⟩, q⟩) hz
  | dict h1 h2 h3 h4 h5 => cases hl
theorem opn_repr {K : PySem.W.Frag} : OpN K (rRepr K) gRepr := ⟨fun F H vs ds P Q s hv h hq => by
  match ds, hv, h with
  | [], _, h => exact h.elim
  | _ :: _ :: _, _, h => exact h.elim
  | [d], hv, h =>
    obtain ⟨v, rfl, kv⟩ := hv.one
    obtain ⟨⟨h1, h2⟩, h3⟩ := h
    obtain ⟨a, b⟩ := D.ok_py 60 d (D.rp_ok 60 d h1)
    obtain ⟨c, e⟩ := D.rp_py 60 d h1
    exact ⟨v, d.py, rfl, kv.dp s (D.rp_ok 60 d h1), a, b, c, by omega, hq _ _ F H Rg0 h3 (.refl s) (.fz (.str _))⟩⟩
end Zl

namespace Zl
open PySem PySem.Spec PyProof.Rows L2

/-! ### what the printer names -/
def wQ (m : WQ) : WE := fun env P => m env fun d => P (.fz d) env
section
variable {X : Cx} {pm : List Bool} {e : Expr} {w : WQ} {o : WO}
theorem ze_vq (h : ZV X pm e w) : ZE X pm e (wQ w) := ze_v h
theorem pz_none : PO X none (TPz X pm none) := po_none
theorem pz_some (h : ZO X pm e o) : PO X (some e) (TPz X pm (some o)) := po_some h
theorem zgn_nil : ∀ ds env P, zgNil ds env P → ds.length = 0 := fun _ _ _ h => zgNil_len h
theorem zgn_len {gs : WGs} {i n : Nat} (h : ∀ ds env P, gs ds env P → ds.length = n) : ∀ ds env P, zgCons (zgName i) gs ds env P → ds.length = n + 1 := fun _ _ _ q => zgCons_len (g := zgName i) h (fun _ _ _ _ g k => k _ g) (fun _ _ _ g => g) q
end

/-! ### callees -/
structure Cal (P : Program) (w : World) (K : PySem.W.Frag) (mg : Str → Option Value) (base : Heap) (x : Str) (k : Nat) (ps : List Str) (sp : DSp) : Prop where
  ex : ∃ f fd, FnG P w K mg base k f fd ps (spOf K sp) ∧ mg x = some (.ref f) ∧ PySem.W.keepIn K (.ref f) = true ∧ Binds K fd ps []
structure CalM (P : Program) (w : World) (K : PySem.W.Frag) (mg : Str → Option Value) (base : Heap) (x : Str) (c : Cd) (k : Nat) (ps : List Str) (sp : DSp) : Prop where
  ex : ∃ f fd, FnG P w K mg base k f fd ps (spOf K sp) ∧ mg x = some (.ref c.C) ∧ Mk K c.C f ∧ Binds K fd ps []
structure CalT (P : Program) (w : World) (K : PySem.W.Frag) (mg : Str → Option Value) (base : Heap) (m : Str) (c : Cd) (k : Nat) (ps : List Str) (sp : DSp) : Prop where
  ex : ∃ f fd, FnG P w K mg base k f fd ps (spOf K sp) ∧ Meth K c.C m f ∧ m ∉ c.ns ∧ Binds K fd ps []
section
variable {X : Cx} {pm : List Bool} {k : Nat} {ps : List Str} {sp : DSp} {x m : Str} {p pos apos : Pos} {o e : Expr} {es : List Expr} {wo : WO} {wa : WA} {c : Cd}
theorem ze_callC (h : Cal X.prog X.w X.K X.mg X.base x k ps sp) (g : NoG X.A) (hr : Room k X.A) (hg : Gl X x) (ha : ZA X pm (e :: es) wa) (hdb : (x == ("__debug__" : Str)) = false := by decide) (he : starEach (e :: es) X.env = (false, eval e X.env) :: starEach es X.env := by rfl) (hpl : (backTo pos (starEach es X.env)).any (·.1) = false := by rfl) :
    ZE X pm (.Call (.Name x p) (e :: es) [] pos) (wCall sp [] wa) := by
  obtain ⟨f, fd, Fn, hm, hk, hb⟩ := h.ex
  exact pe_imp (pe_callG Fn g hr hg hm hk hb .nil ha hdb he hpl) fun σ H Q h => ta_call (dvs := []) (fun _ => .nil) h
theorem ze_callC0 (h : Cal X.prog X.w X.K X.mg X.base x k ps sp) (g : NoG X.A) (hr : Room k X.A) (hg : Gl X x) (hdb : (x == ("__debug__" : Str)) = false := by decide) :
    ZE X pm (.Call (.Name x p) [] [] pos) (wCall sp [] aNil) := by
  obtain ⟨f, fd, Fn, hm, hk, hb⟩ := h.ex
  refine pe_imp (pe_call0G Fn g hr hg hm hk hb .nil hdb) fun σ H Q h => ?_
  obtain ⟨pv, F, B, env, P, m, rel, hw, hq⟩ := ta_call (E := E0) (dvs := []) (fun _ => .nil) h
  exact hq _ _ hw F H B [] .refl rel .nil
theorem ze_makeC (h : CalM X.prog X.w X.K X.mg X.base x c k ps sp) (g : NoG X.A) (hr : Room (k + 1) X.A) (hg : Gl X x) (ha : ZA X pm (e :: es) wa) (hdb : (x == ("__debug__" : Str)) = false := by decide) (he : starEach (e :: es) X.env = (false, eval e X.env) :: starEach es X.env := by rfl) (hpl : (backTo pos (starEach es X.env)).any (·.1) = false := by rfl) :
    ZE X pm (.Call (.Name x p) (e :: es) [] pos) (wMake c sp [] wa) := by
  obtain ⟨f, fd, Fn, hm, M, hb⟩ := h.ex
  exact pe_imp (pe_makeG M Fn g hr hg hm hb .nil ha hdb he hpl) fun σ H Q h => tm_make (dvs := []) (fun _ => .nil) h
theorem ze_makeC0 (h : CalM X.prog X.w X.K X.mg X.base x c k ps sp) (g : NoG X.A) (hr : Room (k + 1) X.A) (hg : Gl X x) (hdb : (x == ("__debug__" : Str)) = false := by decide) :
    ZE X pm (.Call (.Name x p) [] [] pos) (wMake c sp [] aNil) := by
  obtain ⟨f, fd, Fn, hm, M, hb⟩ := h.ex
  refine pe_imp (pe_make0G M Fn g hr hg hm hb .nil hdb) fun σ H Q h => ?_
  obtain ⟨pv, F, B, env, P, mk, rel, hw, hq⟩ := tm_make (E := E0) (dvs := []) (fun _ => .nil) h
  exact hq _ _ hw F H B [] .refl rel .nil
theorem ze_methC {pl : Sem Bool} (h : CalT X.prog X.w X.K X.mg X.base m c k ps sp) (g : NoG X.A) (hr : Room k X.A) (hc : ClsOk X.K c) (he : ZO X pm o wo) (ha : ZA X pm (e :: es) wa)
    (hst : starEach (e :: es) X.env = (false, eval e X.env) :: starEach es X.env := by rfl) (hpl : (backTo pos (starEach es X.env)).any (·.1) = false := by rfl)
    (ht : eval (.Call (.Attribute o m apos) (e :: es) [] pos) X.env = (do
      let ov ← eval o X.env
      standAt apos.atName
      let (f, first) ← holding [ov] (getMethod ov m pl)
      callWith pos f first (backTo pos (starEach (e :: es) X.env)) (backToKw pos (keywordEach [] X.env))) := by rfl) :
    ZE X pm (.Call (.Attribute o m apos) (e :: es) [] pos) (wMeth c sp [] wo wa) := by
  obtain ⟨f, fd, Fn, me, hn, hb⟩ := h.ex
  exact pe_imp (pe_methG he hc.cls me Fn g hr hb .nil ha hst hpl ht) fun σ H Q h => tm_meth (dvs := []) (fun _ => .nil) hn h
theorem ze_methC0 {pl : Sem Bool} (h : CalT X.prog X.w X.K X.mg X.base m c k ps sp) (g : NoG X.A) (hr : Room k X.A) (hc : ClsOk X.K c) (he : ZO X pm o wo)
    (ht : eval (.Call (.Attribute o m apos) [] [] pos) X.env = (do
      let ov ← eval o X.env
      standAt apos.atName
      let (f, first) ← holding [ov] (getMethod ov m pl)
      callWith pos f first (backTo pos (starEach [] X.env)) (backToKw pos (keywordEach [] X.env))) := by rfl) :
    ZE X pm (.Call (.Attribute o m apos) [] [] pos) (wMeth c sp [] wo aNil) := by
  obtain ⟨f, fd, Fn, me, hn, hb⟩ := h.ex
  refine pe_imp (pe_meth0G he hc.cls me Fn g hr hb .nil ht) fun σ H Q h => ?_
  obtain ⟨pv, F, B, env, P, mk, rel, hw, hq⟩ := tm_meth (E := E0) (dvs := []) (fun _ => .nil) hn h
  exact ⟨pv, F, B, env, P, mk, rel, hw, fun s e0 h0 F1 H1 B1 v s1 r1 i1 => by
    obtain ⟨a, dx, fs, ev, hh, hl, pv', F', B', env', P', mk', rel', hw', hq'⟩ := hq s e0 h0 F1 H1 B1 v s1 r1 i1
    exact ⟨a, dx, fs, ev, hh, hl, hq' _ _ hw' F' H1 B' [] .refl rel' .nil⟩⟩
end

/-! ### more operators -/
def gAddI : D → D → (T → Prop) → Prop
  | .int i, .int j, k => k (.fz (.int (i + j)))
  | _, _, _ => False
def gAddA : D → D → (T → Prop) → Prop
  | .int i, .int j, k => k (.fz (.int (i + j)))
  | .str x, .str y, k => x.length + y.length ≤ sizeLine ∧ k (.fz (.str (x ++ y)))
  | _, _, _ => False
def gMulI : D → D → (T → Prop) → Prop
  | .int i, .int j, k => CMul i j ∧ k (.fz (.int (i * j)))
  | _, _, _ => False
section
variable {X : Cx} {K : PySem.W.Frag}
theorem op2_inadd : Op2 K rAdd gAddI := ⟨fun F H v u x y P Q s hv hu h hq => by
  cases x <;> cases y <;> first
    | exact h.elim
    | exact ⟨_, _, hv.int, hu.int, hq _ _ F H Rg0 h (.refl s) (.fz (.int _))⟩⟩
theorem op2_insub : Op2 K rSub gSub := ⟨fun F H v u x y P Q s hv hu h hq => by
  cases x <;> cases y <;> first
    | exact h.elim
    | exact ⟨_, _, hv.int, hu.int, hq _ _ F H Rg0 h (.refl s) (.fz (.int _))⟩⟩
theorem ip_addZ : PIp X .Add (fun x y H Q => rI0 (fun i j => V.int (i + j)) x y H Q ∨ ∃ i j, x = .str i ∧ y = .str j ∧ i.length + j.length ≤ sizeLine ∧ Q (.str (i ++ j)) H) := ip_of (iop_add.or iop_add_str)
theorem op2_ipadd : Op2 K (fun x y H Q => rI0 (fun i j => V.int (i + j)) x y H Q ∨ ∃ i j, x = .str i ∧ y = .str j ∧ i.length + j.length ≤ sizeLine ∧ Q (.str (i ++ j)) H) gAddA := ⟨fun F H v u x y P Q s hv hu h hq => by
  cases x <;> cases y <;> first
    | exact h.elim
    | exact .inl ⟨_, _, hv.int, hu.int, hq _ _ F H Rg0 h (.refl s) (.fz (.int _))⟩
    | exact .inr ⟨_, _, hv.str, hu.str, h.1, hq _ _ F H Rg0 h.2 (.refl s) (.fz (.str _))⟩⟩
theorem ip_subZ : PIp X .Sub (rI0 fun i j => V.int (i - j)) := ip_of iop_sub
theorem ip_mulZ : PIp X .Mult (rI CMul fun i j => V.int (i * j)) := ip_of iop_mul
theorem op2_ipmul : Op2 K (rI CMul fun i j => V.int (i * j)) gMulI := ⟨fun F H v u x y P Q s hv hu h hq => by
  cases x <;> cases y <;> first
    | exact h.elim
    | exact ⟨_, _, hv.int, hu.int, h.1, hq _ _ F H Rg0 h.2 (.refl s) (.fz (.int _))⟩⟩
end

/-! ### pop(i), insert -/
def mPopAll (ds es : List D) (k : D → List D → Prop) : Prop := match es with
  | [] => match ds.getLast? with
    | some d => k d ds.dropLast
    | none => False
  | [.int i] => (-(2 ^ 63) ≤ i ∧ i < 2 ^ 63) ∧ match seqIndex? i ds.length with
    | some n => match ds[n]? with
      | some d => k d (ds.eraseIdx n)
      | none => False
    | none => False
  | _ => False
def mInsert (ds es : List D) (k : D → List D → Prop) : Prop := match es with
  | [.int i, d] => (ds.length < sizeLine ∧ 0 ≤ i ∧ i < 2 ^ 63) ∧ k .non (ds.take i.toNat ++ [d] ++ ds.drop i.toNat)
  | _ => False
section
variable {X : Cx} {K : PySem.W.Frag}
theorem mt_popAll : MtR X "list.pop" (fun x vs H Q => rPop x vs H Q ∨ rPopAt x vs H Q) := MtR.or mt_pop mt_popAt
theorem mut_popAll : MutL K (fun x vs H Q => rPop x vs H Q ∨ rPopAt x vs H Q) mPopAll := ⟨fun F H a vs ds as es P Q s ha hd he h hq => by
  match es, he, h with
  | [], .nil, h => exact .inl (mut_pop.run F H a vs ds [] [] P Q s ha hd .nil h hq)
  | [.int i], .cons (.int _) .nil, h =>
    obtain ⟨⟨h1, h2⟩, h⟩ := h
    cases q : seqIndex? i ds.length with
    | none => simp only [q] at h
    | some n =>
      simp only [q] at h
      cases e : ds[n]? with
      | none => simp only [e] at h
      | some d =>
        simp only [e] at h
        obtain ⟨v, e1, e2⟩ := hd.get e
        exact .inr ⟨a, vs, i, n, v, rfl, rfl, ha, h1, h2, by rw [hd.length]; exact q, e1, hq _ _ _ _ h e2 (hd.eraseIdx n)⟩
  | [.non], _, h => exact h.elim
  | [.bl _], _, h => exact h.elim
  | [.str _], _, h => exact h.elim
  | [.tup _], _, h => exact h.elim
  | [.lst _], _, h => exact h.elim
  | [.rol _], _, h => exact h.elim
  | [.ins _ _], _, h => exact h.elim
  | [.ty _], _, h => exact h.elim
  | [.cls _], _, h => exact h.elim
  | x :: _ :: _, _, h => exact absurd h (by cases x <;> exact fun z => z)⟩
theorem mut_insert : MutL K (fun x vs H Q => ∃ (l : Addr) (xs : List V) (i : Int) (y : V), x = .ref l ∧ vs = [.int i, y] ∧ H l = some (.lst xs) ∧ xs.length < sizeLine ∧ 0 ≤ i ∧ i < 2 ^ 63 ∧
    Q .non (upd H l (.lst (xs.take i.toNat ++ [y] ++ xs.drop i.toNat)))) mInsert := ⟨fun F H a vs ds as es P Q s ha hd he h hq => by
  match es, he, h with
  | [.int i, d], .cons (.int _) (.cons hd' .nil), h =>
    exact ⟨a, vs, i, _, rfl, rfl, ha, by rw [hd.length]; exact h.1.1, h.1.2.1, h.1.2.2, hq _ _ _ _ h.2 .non (((hd.take _).append (.cons hd' .nil)).append (hd.drop _))⟩
  | [], _, h => exact h.elim
  | [x], _, h => exact absurd h (by cases x <;> exact fun z => z)
  | x :: _ :: _ :: _, _, h => exact absurd h (by cases x <;> exact fun z => z)
  | [.non, _], _, h => exact h.elim
  | [.bl _, _], _, h => exact h.elim
  | [.str _, _], _, h => exact h.elim
  | [.tup _, _], _, h => exact h.elim
  | [.lst _, _], _, h => exact h.elim
  | [.rol _, _], _, h => exact h.elim
  | [.ins _ _, _], _, h => exact h.elim
  | [.ty _, _], _, h => exact h.elim
  | [.cls _, _], _, h => exact h.elim⟩
end

/-! ### abs, sum, tuple, str -/
def gAbs : List D → (T → Prop) → Prop
  | [.int i], k => k (.fz (.int (if i < 0 then -i else i)))
  | _, _ => False
section
variable {X : Cx} {K : PySem.W.Frag}
theorem opn_abs : OpN K (fun xs H Q => ∃ i, xs = [.int i] ∧ Q (.int (if i < 0 then -i else i)) H) gAbs := ⟨fun F H vs ds P Q s hv h hq => by
  match ds, hv, h with
  | [], _, h => exact h.elim
  | _ :: _ :: _, _, h => (first | exact h.elim | (rename_i d _ _ _; cases d <;> exact h.elim))
  | [d], hv, h =>
    obtain ⟨v, rfl, kv⟩ := hv.one
    cases d <;> first
      | exact h.elim
      | exact ⟨_, by rw [kv.int], hq _ _ F H Rg0 h (.refl s) (.fz (.int _))⟩⟩
end
/-- the items of a list or tuple -/
def seqD : D → Option (List D)
  | .lst ds => some ds
  | .rol ds => some ds
  | .tup ds => some ds
  | _ => none
theorem seq_of {K : PySem.W.Frag} {F H : Hp} {v : V} {d : D} {ds : List D} (s : Same F H) (h : Pk K F H v d) (e : seqD d = some ds) : ∃ a vs, v = .ref a ∧ (SqL K H a vs ∨ SqT K H a vs) ∧ IsDs K F vs ds := by
  cases d <;> cases e
  · obtain ⟨a, vs, e, h1, h2⟩ := h.tup1 s; exact ⟨a, vs, e, .inr h1, h2⟩
  · obtain ⟨a, vs, e, h1, h2⟩ := h.lst1 s; exact ⟨a, vs, e, .inl (SqL.of h1), h2⟩
  · obtain ⟨a, vs, e, h1, h2⟩ := h.rol1 s; exact ⟨a, vs, e, .inl h1, h2⟩
def gTuple : List D → (T → Prop) → Prop
  | [.lst xs], k => k (.fz (.tup xs))
  | [.tup xs], k => k (.fz (.tup xs))
  | [.rol xs], k => k (.fz (.tup xs))
  | _, _ => False
section
variable {X : Cx} {K : PySem.W.Frag}
theorem cr_tuple : CallR X (.type "tuple") (fun xs H Q => ∃ p ys, xs = [.ref p] ∧ ((SqL X.K H p ys ∧ ∀ l, H l = none → Q (.ref l) (upd H l (.tup ys))) ∨ (SqT X.K H p ys ∧ Q (.ref p) H))) := call_tuple_of
theorem opn_tuple : OpN K (fun xs H Q => ∃ p ys, xs = [V.ref p] ∧ ((SqL K H p ys ∧ ∀ l, H l = none → Q (.ref l) (upd H l (.tup ys))) ∨ (SqT K H p ys ∧ Q (.ref p) H))) gTuple := ⟨fun F H vs ds P Q s hv h hq => by
  match ds, hv, h with
  | [], _, h => exact h.elim
  | _ :: _ :: _, _, h => (first | exact h.elim | (rename_i d _ _ _; cases d <;> exact h.elim))
  | [d], hv, h =>
    obtain ⟨v, rfl, kv⟩ := hv.one
    have mk : ∀ {a : Addr} {us : List V} {xs : List D}, SqL K H a us → IsDs K F us xs → P (.fz (.tup xs)) → ∃ p ys, [V.ref a] = [V.ref p] ∧ ((SqL K H p ys ∧ ∀ l, H l = none → Q (.ref l) (upd H l (.tup ys))) ∨ (SqT K H p ys ∧ Q (.ref p) H)) := fun {a us xs} h1 d1 h =>
      ⟨a, us, rfl, .inl ⟨h1, fun p hp => by
        have al := Alloc.frz (o := .tup us) s hp
        exact hq _ _ _ _ Rg0 h al (.fz (.tup upd_same (d1.mono al.le)))⟩⟩
    cases d <;> first
      | exact h.elim
      | skip
    · obtain ⟨a, us, e, h1, d1⟩ := kv.tup1 s
      refine ⟨a, us, by rw [e], .inr ⟨h1, ?_⟩⟩
      exact hq _ _ F H Rg0 h (.refl s) (.fz (by rw [← e]; exact match kv with | .d q => q))
    · obtain ⟨a, us, rfl, h1, d1⟩ := kv.lst1 s
      exact mk (SqL.of h1) d1 h
    · obtain ⟨a, us, rfl, h1, d1⟩ := kv.rol1 s
      exact mk h1 d1 h⟩
end
def intsD : List D → Option (List Int)
  | [] => some []
  | .int i :: r => match intsD r with
    | some is => some (i :: is)
    | none => none
  | _ :: _ => none
theorem intsD_of : ∀ {ds : List D} {ns : List Int}, intsD ds = some ns → ds = ns.map D.int
  | [], ns, h => by cases h; rfl
  | d :: r, ns, h => by
    cases d <;> first
      | (cases h; done)
      | skip
    rename_i i
    have h : (match intsD r with | some is => some (i :: is) | none => none) = some ns := h
    cases q : intsD r with
    | none => rw [q] at h; cases h
    | some is => rw [q] at h; cases h; rw [List.map_cons, intsD_of q]
theorem intsD_map (ns : List Int) : intsD (ns.map D.int) = some ns := by
  induction ns with
  | nil => rfl
  | cons i r ih => show (match intsD (r.map D.int) with | some is => some (i :: is) | none => none) = _; rw [ih]
def gSum : List D → (T → Prop) → Prop
  | [.lst xs], k => match intsD xs with
    | some ns => k (.fz (.int ns.sum))
    | none => False
  | [.rol xs], k => match intsD xs with
    | some ns => k (.fz (.int ns.sum))
    | none => False
  | _, _ => False
section
variable {X : Cx} {K : PySem.W.Frag}
theorem opn_sum : OpN K (rSum K) gSum := ⟨fun F H vs ds P Q s hv h hq => by
  match ds, hv, h with
  | [], _, h => exact h.elim
  | _ :: _ :: _, _, h => (first | exact h.elim | (rename_i d _ _ _; cases d <;> exact h.elim))
  | [d], hv, h =>
    obtain ⟨v, rfl, kv⟩ := hv.one
    cases d <;> first
      | exact h.elim
      | skip
    · rename_i xs
      have h : (match intsD xs with | some ns => P (.fz (.int ns.sum)) | none => False) := h
      cases q : intsD xs with
      | none => rw [q] at h; exact h.elim
      | some ns =>
        rw [q] at h
        obtain ⟨a, us, rfl, h1, d1⟩ := kv.lst1 s
        rw [intsD_of q] at d1
        exact ⟨a, ns, rfl, by rw [← d1.ints]; exact SqL.of h1, hq _ _ F H Rg0 h (.refl s) (.fz (.int _))⟩
    · rename_i xs
      have h : (match intsD xs with | some ns => P (.fz (.int ns.sum)) | none => False) := h
      cases q : intsD xs with
      | none => rw [q] at h; exact h.elim
      | some ns =>
        rw [q] at h
        obtain ⟨a, us, rfl, h1, d1⟩ := kv.rol1 s
        rw [intsD_of q] at d1
        exact ⟨a, ns, rfl, by rw [← d1.ints]; exact h1, hq _ _ F H Rg0 h (.refl s) (.fz (.int _))⟩⟩
end
end Zl

namespace Zl
open PySem PySem.Spec PyProof.Rows L2

/-! ### rules for the plain part -/
theorem wSeq_cut {a b : WS} {E : DE} {env : Ev} (Mid : Ev → Prop) (h1 : ∀ K : Ev → Prop, (∀ e, Mid e → K e) → a { E with nx := K } env) (h2 : ∀ e, Mid e → b E e) : wSeq a b E env := h1 _ h2
theorem wForL_inv {g : WG} {wb : WS} {chk : Ev → Prop} {E : DE} (I : Nat → Ev → Prop) : ∀ {items : List D} {n : Nat} {env : Ev}, I n env →
    (∀ i e, n ≤ i → I i e → chk e) →
    (∀ (i : Nat) d e, items[i]? = some d → I (n + i) e → ∀ K : Ev → Prop, (∀ e', I (n + i + 1) e' → K e') → g d e fun e1 => wb { nx := K, rt := E.rt, bk := E.nx, ct := K } e1) →
    (∀ e, I (n + items.length) e → E.nx e) → wForL g wb chk items E env
  | [], n, env, h0, hc, hs, he => ⟨hc n env (Nat.le_refl _) h0, he env h0⟩
  | d :: ds, n, env, h0, hc, hs, he => ⟨hc n env (Nat.le_refl _) h0, hs 0 d env rfl h0 _ fun e' h' => wForL_inv (n := n + 1) I h' (fun i e hi => hc i e (by omega))
      (fun i d' e hd hi K hk => hs (i + 1) d' e (by simpa using hd) (by rw [show n + (i + 1) = n + 1 + i by omega]; exact hi) K (by rw [show n + (i + 1) + 1 = n + 1 + i + 1 by omega]; exact hk))
      (fun e h => he e (by rw [List.length_cons, show n + (ds.length + 1) = n + 1 + ds.length by omega]; exact h))⟩
/-- THE RULE for a for loop -/
theorem for_inv {g : WG} {wb : WS} {chk : Ev → Prop} {E : DE} {items : List D} {env : Ev} (I : Nat → Ev → Prop) (h0 : I 0 env) (hc : ∀ i e, I i e → chk e)
    (hs : ∀ (i : Nat) d e, items[i]? = some d → I i e → ∀ K : Ev → Prop, (∀ e', I (i + 1) e' → K e') → g d e fun e1 => wb { nx := K, rt := E.rt, bk := E.nx, ct := K } e1)
    (he : ∀ e, I items.length e → E.nx e) : wForL g wb chk items E env :=
  wForL_inv (n := 0) I h0 (fun i e _ => hc i e) (fun i d e hd hi K hk => hs i d e hd (by rwa [Nat.zero_add] at hi) K (by rwa [Nat.zero_add] at hk)) (fun e h => he e (by rwa [Nat.zero_add] at h))
theorem while_inv {c : WT} {wb : WS} {E : DE} {env : Ev} (I : Nat → Ev → Prop) (n : Nat) (h0 : I n env)
    (hs : ∀ (n : Nat) e, I n e → ∀ K : Ev → Prop, (∀ m e', m < n → I m e' → K e') → c e fun k e1 => (k = true → wb { nx := K, rt := E.rt, bk := E.nx, ct := K } e1) ∧ (k = false → E.nx e1)) : wWhile c wb E env := by
  have mono : ∀ n m, n ≤ m → ∀ e, wWh c wb n E e → wWh c wb n E e := fun _ _ _ _ h => h
  refine ⟨n + 1, ?_⟩
  suffices h : ∀ b n e, n < b → I n e → wWh c wb b E e from h (n + 1) n env (Nat.lt_succ_self _) h0
  intro b
  induction b with
  | zero => intro n e h; omega
  | succ b ih => intro n e hb hi; exact hs n e hi _ fun m e' hm h' => ih m e' (by omega) h'
/-- a list comprehension -/
theorem lc_inv {g : WG} {wt : WT} {we : WE} {own : List Nat} {chk : Ev → Prop} {k : List D → Ev → Prop} (I : Nat → List D → Ev → Prop) : ∀ {items : List D} {n : Nat} {acc : List D} {env : Ev}, I n acc env →
    (∀ i a e, n ≤ i → I i a e → chk e) →
    (∀ (i : Nat) d a e, items[i]? = some d → I (n + i) a e → ∀ K : List D → Ev → Prop, (∀ a' e', I (n + i + 1) a' e' → K a' e') → g d e fun e1 => wt e1 fun b e2 => (b = true → we e2 fun t e3 => a.length < sizeLine ∧ K (a ++ [t.fr]) (clsE e3 own)) ∧ (b = false → K a (clsE e2 own))) →
    (∀ a e, I (n + items.length) a e → k a e) → wLcL g wt we own chk items acc k env
  | [], n, acc, env, h0, hc, hs, he => ⟨hc n acc env (Nat.le_refl _) h0, he acc env h0⟩
  | d :: ds, n, acc, env, h0, hc, hs, he => ⟨hc n acc env (Nat.le_refl _) h0, hs 0 d acc env rfl h0 (fun a e => wLcL g wt we own chk ds a k e) fun a' e' h' => lc_inv (n := n + 1) I h' (fun i a e hi => hc i a e (by omega))
      (fun i d' a e hd hi K hk => hs (i + 1) d' a e (by simpa using hd) (by rw [show n + (i + 1) = n + 1 + i by omega]; exact hi) K (by rw [show n + (i + 1) + 1 = n + 1 + i + 1 by omega]; exact hk))
      (fun a e h => he a e (by rw [List.length_cons, show n + (ds.length + 1) = n + 1 + ds.length by omega]; exact h))⟩
theorem lc_inv0 {g : WG} {wt : WT} {we : WE} {own : List Nat} {chk : Ev → Prop} {k : List D → Ev → Prop} {items : List D} {env : Ev} (I : Nat → List D → Ev → Prop) (h0 : I 0 [] env) (hc : ∀ i a e, I i a e → chk e)
    (hs : ∀ (i : Nat) d a e, items[i]? = some d → I i a e → ∀ K : List D → Ev → Prop, (∀ a' e', I (i + 1) a' e' → K a' e') → g d e fun e1 => wt e1 fun b e2 => (b = true → we e2 fun t e3 => a.length < sizeLine ∧ K (a ++ [t.fr]) (clsE e3 own)) ∧ (b = false → K a (clsE e2 own)))
    (he : ∀ a e, I items.length a e → k a e) : wLcL g wt we own chk items [] k env :=
  lc_inv (n := 0) I h0 (fun i a e _ => hc i a e) (fun i d a e hd hi K hk => hs i d a e hd (by rwa [Nat.zero_add] at hi) K (by rwa [Nat.zero_add] at hk)) (fun a e h => he a e (by rwa [Nat.zero_add] at h))

theorem noF {P : Prop} (h : true = false) : P := Bool.noConfusion h
theorem noT {P : Prop} (h : false = true) : P := Bool.noConfusion h
theorem le_b {a b : Nat} (h : Nat.ble a b = true) : a ≤ b := Nat.le_of_ble_eq_true h
theorem cmR {i j : Int} (h : decide (-(2 ^ 64) < j ∧ j < 2 ^ 64) = true) : CMul i j := .inr (of_decide_eq_true h)
theorem cmL {i j : Int} (h : decide (-(2 ^ 64) < i ∧ i < 2 ^ 64) = true) : CMul i j := .inl (of_decide_eq_true h)
/-- all of them ints -/
def AllI (ds : List D) : Prop := ∃ rs : List Int, ds = rs.map D.int
theorem AllI.nil : AllI [] := ⟨[], rfl⟩
theorem AllI.of (rs : List Int) : AllI (rs.map D.int) := ⟨rs, rfl⟩
theorem AllI.add {ds : List D} {x : Int} : AllI ds → AllI (ds ++ [D.int x])
  | ⟨rs, h⟩ => ⟨rs ++ [x], by rw [h, List.map_append]; rfl⟩
theorem len_add {α : Type} {xs : List α} {x : α} {n : Nat} (h : xs.length ≤ n) : (xs ++ [x]).length ≤ n + 1 := by rw [List.length_append, List.length_singleton]; omega
theorem len_addE {α : Type} {xs : List α} {x : α} {n : Nat} (h : xs.length = n) : (xs ++ [x]).length = n + 1 := by rw [List.length_append, List.length_singleton]; omega
theorem szl {n : Nat} (h : n ≤ 10000) : n < sizeLine := Nat.lt_of_le_of_lt h (by decide)
mutual
theorem eqv_self : ∀ d : D, PyData.eqv d.py d.py = true
  | .non => by simp [D.py, PyData.eqv]
  | .bl _ => by simp [D.py, PyData.eqv]
  | .int _ => by simp [D.py, PyData.eqv]
  | .str _ => by simp [D.py, PyData.eqv]
  | .tup ds => by simp only [D.py, PyData.eqv]; exact eqv_selfs ds
  | .lst ds => by simp only [D.py, PyData.eqv]; exact eqv_selfs ds
  | .rol ds => by simp only [D.py, PyData.eqv]; exact eqv_selfs ds
  | .ins _ _ => by simp [D.py, PyData.eqv]
  | .map _ _ _ _ => by simp [D.py, PyData.eqv]
  | .unk => by simp [D.py, PyData.eqv]
  | .rot _ => by simp [D.py, PyData.eqv]
  | .ty _ => by simp [D.py, PyData.eqv]
  | .cls _ => by simp [D.py, PyData.eqv]
theorem eqv_selfs : ∀ ds : List D, PyData.eqvAll (D.pys ds) (D.pys ds) = true
  | [] => by simp [D.pys, PyData.eqvAll]
  | d :: ds => by simp only [D.pys, PyData.eqvAll, Bool.and_eq_true]; exact ⟨eqv_self d, eqv_selfs ds⟩
end
theorem eqb_self (d : D) : D.eqb d d = true := eqv_self d
theorem ok_ints {n : Nat} (rs : List Int) : (rs.map D.int).all (D.ok n) = true := by
  rw [List.all_eq_true]
  intro d hd
  obtain ⟨i, _, rfl⟩ := List.mem_map.mp hd
  cases n <;> rfl
theorem ok_lst {ds : List D} (h : ds.all (D.ok 59) = true) : D.ok 60 (.lst ds) = true := h
theorem cut_to (xs : List D) (k : Nat) : cutD xs none (some (k : Int)) = xs.take k := by
  unfold cutD
  rw [HT.sIx_nat, HT.sIx_none, List.drop_zero, Nat.sub_zero]
  by_cases h : k ≤ xs.length
  · rw [Nat.min_eq_left h]
  · rw [Nat.min_eq_right (by omega), List.take_length, List.take_of_length_le (by omega)]
theorem cut_from (xs : List D) (k : Nat) : cutD xs (some (k : Int)) none = xs.drop k := by
  unfold cutD
  rw [HT.sIx_nat, HT.sIx_none]
  by_cases h : k ≤ xs.length
  · rw [Nat.min_eq_left h, List.take_of_length_le (by simp)]
  · rw [Nat.min_eq_right (by omega), List.drop_length, List.drop_of_length_le (by omega), List.take_nil]
theorem noE {k : Bool} (h : (!k) = true) (e : k = true) {P : Prop} : P := by rw [e] at h; cases h
theorem ixN_nat {n j : Nat} (hj : j < n) : ixN n (j : Int) = some j := by
  unfold ixN
  rw [if_pos (by omega), if_pos (by omega), Int.toNat_natCast]
theorem gIx_l {xs : List D} {i : Int} {d : D} {k : T → Prop} (h : atI xs i = some d) (q : k (.fz d)) : gIx (.lst xs) (.int i) k := by
  show (match atI xs i with | some d => k (.fz d) | none => False)
  rw [h]; exact q
theorem gIx_r {xs : List D} {i : Int} {d : D} {k : T → Prop} (h : atI xs i = some d) (q : k (.fz d)) : gIx (.rol xs) (.int i) k := by
  show (match atI xs i with | some d => k (.fz d) | none => False)
  rw [h]; exact q
theorem gIx_t {xs : List D} {i : Int} {d : D} {k : T → Prop} (h : atI xs i = some d) (q : k (.fz d)) : gIx (.tup xs) (.int i) k := by
  show (match atI xs i with | some d => k (.fz d) | none => False)
  rw [h]; exact q
/-- a match on something known -/
theorem m_some {α : Type} {o : Option α} {x : α} {f : α → Prop} (h : o = some x) (q : f x) : (match (generalizing := false) o with | some y => f y | none => False) := by
  rw [h]; exact q
theorem eq_tt {k : Bool → Prop} {x y : D} (h : eqS x y = some true) (q : k true) : eqK x y k := by
  unfold eqK; rw [h]; exact q
theorem eq_ff {k : Bool → Prop} {x y : D} (h : eqS x y = some false) (q : k false) : eqK x y k := by
  unfold eqK; rw [h]; exact q
end Zl

/-! in, not in; names of the module. -/
namespace Zl
open PySem PySem.Spec PyProof.Rows L2
theorem room65 {k : Nat} {A : Around} (r : Room k A) : A.units + 65 < cLine := by have := r.un; omega
def inD (x : D) (ds : List D) : Bool := ds.any fun z => D.eqb z x
/-- one sign -/
def sgn (c : Str) : Option Nat := match c.cps.toList with
  | [n] => some n
  | _ => none
theorem sgn_eq {c : Str} {n : Nat} (h : sgn c = some n) : c = ⟨#[n]⟩ := by
  unfold sgn at h
  obtain ⟨a⟩ := c
  cases e : a.toList with
  | nil => simp only [e] at h; cases h
  | cons x r =>
    cases r with
    | nil =>
      simp only [e] at h
      cases h
      congr 1
      apply Array.toList_inj.mp
      rw [e]
    | cons _ _ => simp only [e] at h; cases h
def gInB (f : Bool → Bool) : D → D → (T → Prop) → Prop
  | x, .lst ds, k => (D.ok 60 x = true ∧ D.ok 60 (.lst ds) = true) ∧ k (.fz (.bl (f (inD x ds))))
  | x, .rol ds, k => (D.ok 60 x = true ∧ D.ok 60 (.rol ds) = true) ∧ k (.fz (.bl (f (inD x ds))))
  | .str c, .str z, k => match sgn c with
    | some n => k (.fz (.bl (f (decide (n ∈ z.cps.toList)))))
    | none => False
  | _, _, _ => False
abbrev gIn := gInB fun b => b
abbrev gNotIn := gInB fun b => !b
def rInA (K : PySem.W.Frag) : R2 := fun x y H Q => rInD K x y H Q ∨ (∃ (c : Nat) (z : Str), x = .str ⟨#[c]⟩ ∧ y = .str z ∧ Q (.bl (decide (c ∈ z.cps.toList))) H)
def rNotInA (K : PySem.W.Frag) : R2 := fun x y H Q => rNotInD K x y H Q ∨ (∃ (c : Nat) (z : Str), x = .str ⟨#[c]⟩ ∧ y = .str z ∧ Q (.bl (!decide (c ∈ z.cps.toList))) H)
section
variable {X : Cx} {K : PySem.W.Frag}
theorem or_in (hu : X.A.units + 65 < cLine) : OpR X (compareOp .In) (rInA X.K) := (op_inD hu).or op_in_sign
theorem or_notin (hu : X.A.units + 65 < cLine) : OpR X (compareOp .NotIn) (rNotInA X.K) := (op_notInD hu).or op_notIn_sign
theorem any_py (x : D) : ∀ ds : List D, ((D.pys ds).any fun z => PyData.eqv z x.py) = inD x ds
  | [] => rfl
  | d :: ds => by
    show (PyData.eqv d.py x.py || (D.pys ds).any fun z => PyData.eqv z x.py) = (D.eqb d x || inD x ds)
    rw [any_py x ds]; rfl
theorem op2_in : Op2 K (rInA K) gIn := ⟨fun F H v u x y P Q s hv hu h hq => by
  cases y <;> first
    | (cases x <;> exact h.elim)
    | skip
  · rename_i z
    cases x <;> first
      | exact h.elim
      | skip
    rename_i c
    have h : (match sgn c with | some n => P (.fz (.bl (decide (n ∈ z.cps.toList)))) | none => False) := h
    cases e : sgn c with
    | none => rw [e] at h; exact h.elim
    | some n =>
      rw [e] at h
      exact .inr ⟨n, z, by rw [hv.str, sgn_eq e], hu.str, hq _ _ F H Rg0 h (.refl s) (.fz (.bl _))⟩
  · rename_i ds
    have h : (D.ok 60 x = true ∧ D.ok 60 (.lst ds) = true) ∧ P (.fz (.bl (inD x ds))) := by cases x <;> exact h
    refine .inl ⟨x.py, D.pys ds, hv.dp s h.1.1, hu.dp s h.1.2, D.ok_shaped h.1.1, D.ok_shaped h.1.2, ?_⟩
    rw [any_py]
    exact hq _ _ F H Rg0 h.2 (.refl s) (.fz (.bl _))
  · rename_i ds
    have h : (D.ok 60 x = true ∧ D.ok 60 (.rol ds) = true) ∧ P (.fz (.bl (inD x ds))) := by cases x <;> exact h
    refine .inl ⟨x.py, D.pys ds, hv.dp s h.1.1, hu.dp s h.1.2, D.ok_shaped h.1.1, D.ok_shaped h.1.2, ?_⟩
    rw [any_py]
    exact hq _ _ F H Rg0 h.2 (.refl s) (.fz (.bl _))⟩
theorem op2_notin : Op2 K (rNotInA K) gNotIn := ⟨fun F H v u x y P Q s hv hu h hq => by
  cases y <;> first
    | (cases x <;> exact h.elim)
    | skip
  · rename_i z
    cases x <;> first
      | exact h.elim
      | skip
    rename_i c
    have h : (match sgn c with | some n => P (.fz (.bl (!decide (n ∈ z.cps.toList)))) | none => False) := h
    cases e : sgn c with
    | none => rw [e] at h; exact h.elim
    | some n =>
      rw [e] at h
      exact .inr ⟨n, z, by rw [hv.str, sgn_eq e], hu.str, hq _ _ F H Rg0 h (.refl s) (.fz (.bl _))⟩
  · rename_i ds
    have h : (D.ok 60 x = true ∧ D.ok 60 (.lst ds) = true) ∧ P (.fz (.bl (!inD x ds))) := by cases x <;> exact h
    refine .inl ⟨x.py, D.pys ds, hv.dp s h.1.1, hu.dp s h.1.2, D.ok_shaped h.1.1, D.ok_shaped h.1.2, ?_⟩
    rw [any_py]
    exact hq _ _ F H Rg0 h.2 (.refl s) (.fz (.bl _))
  · rename_i ds
    have h : (D.ok 60 x = true ∧ D.ok 60 (.rol ds) = true) ∧ P (.fz (.bl (!inD x ds))) := by cases x <;> exact h
    refine .inl ⟨x.py, D.pys ds, hv.dp s h.1.1, hu.dp s h.1.2, D.ok_shaped h.1.1, D.ok_shaped h.1.2, ?_⟩
    rw [any_py]
    exact hq _ _ F H Rg0 h.2 (.refl s) (.fz (.bl _))⟩
/-- a constant of the module -/
structure GConst (mg : Str → Option Value) (x : Str) (v : V) : Prop where
  ex : ∃ u, mg x = some u ∧ RelV v u
theorem ze_gInt {pm : List Bool} {x : Str} {i : Int} {pos : Pos} (h : GConst X.mg x (.int i)) (hg : Gl X x) (hd : (x == ("__debug__" : Str)) = false := by decide) : ZE X pm (.Name x pos) (wC (.int i)) :=
  ze_c (C8.pe_gc hg h.ex hd) fun _ _ => .int i
theorem ze_gStr {pm : List Bool} {x : Str} {i : Str} {pos : Pos} (h : GConst X.mg x (.str i)) (hg : Gl X x) (hd : (x == ("__debug__" : Str)) = false := by decide) : ZE X pm (.Name x pos) (wC (.str i)) :=
  ze_c (C8.pe_gc hg h.ex hd) fun _ _ => .str i
end
end Zl

/-! Dicts: keys ints and texts, or tuples of these. -/
namespace Zl
open PySem PySem.Spec PyProof.Rows L2
def keyL : List D → Option (List Key)
  | [] => some []
  | .int i :: r => match keyL r with
    | some k => some (.inl i :: k)
    | none => none
  | .str s :: r => match keyL r with
    | some k => some (.inr s :: k)
    | none => none
  | _ => none
/-- the key that a datum is -/
def keyD : Bool → D → Option (List Key)
  | false, .int i => some [.inl i]
  | false, .str s => some [.inr s]
  | true, .tup ds => keyL ds
  | _, _ => none
/-- the value v is the key k -/
def KeyAt (H : Hp) (b : Bool) (v : V) (k : List Key) : Prop := match b with
  | false => ∃ x, k = [x] ∧ v = kV x
  | true => ∃ q, v = .ref q ∧ H q = some (.tup (k.map kV))
def kix : List (List Key) → List Key → Nat
  | [], _ => 0
  | k' :: r, k => if k' = k then 0 else kix r k + 1
def dgt {α : Type} (ks : List (List Key)) (ds : List α) (k : List Key) : Option α := ds[kix ks k]?
theorem kix_lt {k : List Key} : ∀ {ks : List (List Key)}, k ∈ ks → kix ks k < ks.length ∧ ks[kix ks k]? = some k
  | [], h => nomatch h
  | k' :: r, h => by
    unfold kix
    by_cases z : k' = k
    · rw [if_pos z]; exact ⟨by simp, by simp [z]⟩
    · rw [if_neg z]
      have := kix_lt (ks := r) ((List.mem_cons.mp h).resolve_left fun e => z e.symm)
      exact ⟨by simp; omega, by simpa using this.2⟩
theorem kix_no {k : List Key} : ∀ {ks : List (List Key)}, k ∉ ks → kix ks k = ks.length
  | [], h => rfl
  | k' :: r, h => by
    unfold kix
    rw [if_neg fun z => h (by rw [z]; exact List.mem_cons_self ..), kix_no fun z => h (List.mem_cons_of_mem _ z)]
    rfl
theorem kix_le (ks : List (List Key)) (k : List Key) : kix ks k ≤ ks.length := by
  by_cases h : k ∈ ks
  · exact Nat.le_of_lt (kix_lt h).1
  · rw [kix_no h]; exact Nat.le_refl _
/-- the dict has the key -/
def hasK (ks : List (List Key)) (k : List Key) : Bool := decide (kix ks k < ks.length)
theorem hasK_iff {ks : List (List Key)} {k : List Key} : hasK ks k = true ↔ k ∈ ks := by
  unfold hasK
  rw [decide_eq_true_iff]
  refine ⟨fun h => ?_, fun h => (kix_lt h).1⟩
  by_cases z : k ∈ ks
  · exact z
  · rw [kix_no z] at h; exact absurd h (Nat.lt_irrefl _)
theorem hasK_yes {ks : List (List Key)} {k : List Key} (h : k ∈ ks) : hasK ks k = true := hasK_iff.mpr h
theorem hasK_no {ks : List (List Key)} {k : List Key} (h : k ∉ ks) : hasK ks k = false := by
  cases e : hasK ks k with
  | false => rfl
  | true => exact absurd (hasK_iff.mp e) h
section
variable {K : PySem.W.Frag} {F H : Hp}
theorem keyL_ok : ∀ {vs : List V} {ds : List D} {k : List Key}, IsDs K F vs ds → keyL ds = some k → vs = k.map kV
  | _, _, _, .nil, e => by cases e; rfl
  | _, _, k, @IsDs.cons _ _ v vs d ds h r, e => by
    cases d <;> try (cases e; done)
    · rename_i i
      have e : (match keyL ds with | some k => some (.inl i :: k) | none => none) = some k := e
      cases q : keyL ds with
      | none => rw [q] at e; cases e
      | some k' =>
        rw [q] at e; cases e
        cases h
        rw [keyL_ok r q]; rfl
    · rename_i i
      have e : (match keyL ds with | some k => some (.inr i :: k) | none => none) = some k := e
      cases q : keyL ds with
      | none => rw [q] at e; cases e
      | some k' =>
        rw [q] at e; cases e
        cases h
        rw [keyL_ok r q]; rfl
theorem Pk.key {b : Bool} {v : V} {x : D} {k : List Key} (s : Same F H) (h : Pk K F H v x) (e : keyD b x = some k) : KeyAt H b v k := by
  cases b
  · cases x <;> try (cases e; done)
    · cases e; exact ⟨_, rfl, h.int⟩
    · cases e; exact ⟨_, rfl, h.str⟩
  · cases x <;> try (cases e; done)
    rename_i ds
    have e : keyL ds = some k := e
    cases h with
    | d h =>
      cases h with
      | tup hf hr =>
        refine ⟨_, rfl, ?_⟩
        rw [← keyL_ok hr e]
        exact s _ _ hf
/-! ### what a dict holds -/
def hdp (p : List Key × V) : Key × V := (p.1.headD (.inl 0), p.2)
theorem mO_f (kvs : List (List Key × V)) : mO false kvs = .dK (kvs.map hdp) := rfl
theorem valV_at {κ : Type} [DecidableEq κ] {k : κ} : ∀ {kvs : List (κ × V)} {v : V}, valV kvs k = some v → ∃ i : Nat, kvs[i]? = some (k, v)
  | [], v, h => nomatch h
  | p :: r, v, h => by
    by_cases z : p.1 = k
    · rw [valV_pos z] at h
      cases h
      exact ⟨0, by rw [← z]; rfl⟩
    · rw [valV_neg z] at h
      obtain ⟨i, hi⟩ := valV_at h
      exact ⟨i + 1, by simpa using hi⟩
theorem valV_ix {k : List Key} : ∀ (kvs : List (List Key × V)), valV kvs k = (kvs.map (·.2))[kix (kvs.map (·.1)) k]?
  | [] => rfl
  | p :: r => by
    show _ = (p.2 :: r.map (·.2))[if p.1 = k then 0 else kix (r.map (·.1)) k + 1]?
    by_cases z : p.1 = k
    · rw [valV_pos z, if_pos z]; rfl
    · rw [valV_neg z, if_neg z, valV_ix r]; rfl
theorem valV_hd {x : Key} : ∀ (kvs : List (List Key × V)), (∀ k ∈ kvs.map (·.1), ∃ y, k = [y]) → valV (kvs.map hdp) x = valV kvs [x]
  | [], _ => rfl
  | p :: r, h => by
    obtain ⟨y, ey⟩ := h p.1 (by simp)
    have eh : (hdp p).1 = y := by show p.1.headD (.inl 0) = y; rw [ey]; rfl
    have ih := valV_hd (x := x) r fun k hk => h k (by simp at hk ⊢; exact .inr hk)
    rw [List.map_cons]
    by_cases z : p.1 = [x]
    · have zy : y = x := by rw [ey] at z; exact List.head_eq_of_cons_eq z
      rw [valV_pos (by rw [eh]; exact zy), valV_pos z]; rfl
    · have zy : ¬ y = x := fun e => z (by rw [ey, e])
      rw [valV_neg (by rw [eh]; exact zy), valV_neg z, ih]
theorem dget_mO {b : Bool} {a : Addr} {v : V} {k : List Key} {kvs : List (List Key × V)} (h : Rd H a (mO b kvs)) (ko : kO b (kvs.map (·.1))) (q : KeyAt H b v k) : DGet H a v (valV kvs k) := by
  cases b
  · obtain ⟨x, rfl, rfl⟩ := q
    exact .inl ⟨_, x, h, rfl, (valV_hd kvs (ko.2 rfl)).symm⟩
  · obtain ⟨q, rfl, hq⟩ := q
    exact .inr ⟨kvs, k, q, h, rfl, hq, rfl⟩
theorem Rd.lO {l : Bool} {a : Addr} {o : Obj} {u : HO} (h : H a = some (lO l o u)) : Rd H a u := by
  cases l
  · exact .inl h
  · exact .inr ⟨o, h⟩
theorem Pks.get : ∀ {vs : List V} {ds : List D} {i : Nat} {d : D}, Pks K F H vs ds → ds[i]? = some d → ∃ v, vs[i]? = some v ∧ Pk K F H v d
  | _, _, _, _, .nil, e => by simp at e
  | _, _, 0, _, .cons h _, e => by simp at e; subst e; exact ⟨_, rfl, h⟩
  | _, _, i + 1, d, .cons _ r, e => by
    obtain ⟨v, h1, h2⟩ := Pks.get (i := i) (d := d) r (by simpa using e)
    exact ⟨v, by simpa using h1, h2⟩
theorem Pks.length : ∀ {vs : List V} {ds : List D}, Pks K F H vs ds → vs.length = ds.length
  | _, _, .nil => rfl
  | _, _, .cons _ r => by rw [List.length_cons, List.length_cons, Pks.length r]
/-- data that never changes -/
def imm : D → Bool
  | .non => true
  | .bl _ => true
  | .int _ => true
  | .str _ => true
  | .tup _ => true
  | _ => false
theorem Pk.imm {v : V} {d : D} (h : Pk K F H v d) (e : imm d = true) : IsD K F v d := by
  cases h with
  | d h => exact h
  | lst _ _ => cases e
  | ins _ _ => cases e
  | map _ _ _ _ => cases e
  | unk => cases e
/-- may be taken out of a dict: it stands in what nobody changes, or it never changes -/
def okG (l : Bool) (d : D) : Prop := match l with
  | true => True
  | false => Zl.imm d = true
theorem dget_of {b l : Bool} {u : V} {v : V} {x : D} {ks : List (List Key)} {ds : List D} {y : List Key} (s : Same F H) (hv : Pk K F H v x) (hu : Pk K F H u (.map b l ks ds)) (e : keyD b x = some y) :
    ∃ a o, u = .ref a ∧ L2.IsD H a ∧ DGet H a v o ∧ o.isSome = hasK ks y ∧ (∀ d, dgt ks ds y = some d → ∃ w, o = some w ∧ Pk K F H w d ∧ (okG l d → IsD K F w d)) ∧ (dgt ks ds y = none → o = none) ∧ ds.length = ks.length := by
  have ka := hv.key s e
  have isd : ∀ {a : Addr} {kvs : List (List Key × V)}, Rd H a (mO b kvs) → L2.IsD H a := fun {a kvs} h => by
    cases b
    · exact .inl ⟨_, h⟩
    · exact .inr ⟨_, h⟩
  have mem : ∀ {kvs : List (List Key × V)}, (valV kvs y).isSome = hasK (kvs.map (·.1)) y := fun {kvs} => by
    rw [valV_ix]
    by_cases h : y ∈ kvs.map (·.1)
    · have := (kix_lt h).1
      rw [hasK_yes h, List.getElem?_eq_getElem (by simpa using this)]; rfl
    · rw [hasK_no h, kix_no h, List.getElem?_eq_none (by simp)]; rfl
  cases hu with
  | d hu =>
    cases hu with
    | map hf he ko hr =>
      subst he
      have hl := hr.length
      have rd := Rd.lO (s _ _ hf)
      refine ⟨_, _, rfl, isd rd, dget_mO rd ko ka, mem, fun d hd => ?_, fun hn => ?_, by rw [← hl]; simp⟩
      · obtain ⟨w, h1, h2⟩ := hr.get hd
        exact ⟨w, by rw [valV_ix]; exact h1, .d h2, fun _ => h2⟩
      · rw [valV_ix, List.getElem?_eq_none]
        have := List.getElem?_eq_none_iff.mp hn
        omega
  | map hf he ko hr =>
    subst he
    have hl := hr.length
    have rd : Rd H _ (mO b _) := .inl hf
    refine ⟨_, _, rfl, isd rd, dget_mO rd ko ka, mem, fun d hd => ?_, fun hn => ?_, by rw [← hl]; simp⟩
    · obtain ⟨w, h1, h2⟩ := hr.get hd
      exact ⟨w, by rw [valV_ix]; exact h1, h2, fun q => h2.imm q⟩
    · rw [valV_ix, List.getElem?_eq_none]
      have := List.getElem?_eq_none_iff.mp hn
      omega
end
/-! ### k in d, d[k] -/
def gInD (f : Bool → Bool) : D → D → (T → Prop) → Prop
  | x, .map b _ ks _, k => match keyD b x with
    | some y => k (.fz (.bl (f (hasK ks y))))
    | none => False
  | _, _, _ => False
def gIxD : D → D → (T → Prop) → Prop
  | .map b l ks ds, x, k => match keyD b x with
    | some y => match dgt ks ds y with
      | some d => okG l d ∧ k (.fz d)
      | none => False
    | none => False
  | _, _, _ => False
section
variable {X : Cx} {K : PySem.W.Frag}
def rInDict : R2 := fun y x H Q => ∃ a o, x = .ref a ∧ DGet H a y o ∧ Q (.bl o.isSome) H
def rNotInDict : R2 := fun y x H Q => ∃ a o, x = .ref a ∧ DGet H a y o ∧ Q (.bl (!o.isSome)) H
def rIxDict : R2 := fun x y H Q => ∃ a v, x = .ref a ∧ DGet H a y (some v) ∧ Q v H
theorem or_inDict (hu : X.A.units + 65 < cLine) : OpR X (compareOp .In) rInDict := by
  intro pins s σ H y x iv u Q I ry rx h
  obtain ⟨a, o, rfl, g, q⟩ := h
  cases (show u = Value.ref a from rx)
  exact d_in (by omega) I g ry fun s' I' => ⟨.bl o.isSome, H, I', rfl, q⟩
theorem or_notinDict (hu : X.A.units + 65 < cLine) : OpR X (compareOp .NotIn) rNotInDict := by
  intro pins s σ H y x iv u Q I ry rx h
  obtain ⟨a, o, rfl, g, q⟩ := h
  cases (show u = Value.ref a from rx)
  exact d_notIn (by omega) I g ry fun s' I' => ⟨.bl (!o.isSome), H, I', rfl, q⟩
theorem op2_inDict : Op2 K rInDict (gInD fun b => b) := ⟨fun F H v u x y P Q s hv hu h hq => by
  cases y <;> first
    | exact h.elim
    | skip
  rename_i b l ks ds
  have h : (match keyD b x with | some y => P (.fz (.bl (hasK ks y))) | none => False) := h
  cases e : keyD b x with
  | none => rw [e] at h; exact h.elim
  | some k =>
    rw [e] at h
    obtain ⟨a, o, ea, _, g, es, _⟩ := dget_of s hv hu e
    exact ⟨a, o, ea, g, by rw [es]; exact hq _ _ F H Rg0 h (.refl s) (.fz (.bl _))⟩⟩
theorem op2_notinDict : Op2 K rNotInDict (gInD fun b => !b) := ⟨fun F H v u x y P Q s hv hu h hq => by
  cases y <;> first
    | exact h.elim
    | skip
  rename_i b l ks ds
  have h : (match keyD b x with | some y => P (.fz (.bl (!hasK ks y))) | none => False) := h
  cases e : keyD b x with
  | none => rw [e] at h; exact h.elim
  | some k =>
    rw [e] at h
    obtain ⟨a, o, ea, _, g, es, _⟩ := dget_of s hv hu e
    exact ⟨a, o, ea, g, by rw [es]; exact hq _ _ F H Rg0 h (.refl s) (.fz (.bl _))⟩⟩
/-- in, not in of whatever is looked into -/
def gInAll (f : Bool → Bool) (x y : D) (k : T → Prop) : Prop := match y with
  | .map b l ks ds => gInD f x (.map b l ks ds) k
  | y => gInB f x y k
theorem op2_inAll : Op2 K (fun y x H Q => rInA K y x H Q ∨ rInDict y x H Q) (gInAll fun b => b) := ⟨fun F H v u x y P Q s hv hu h hq => by
  cases y <;> first
    | exact .inl (op2_in.run F H v u x _ P Q s hv hu h hq)
    | exact .inr (op2_inDict.run F H v u x _ P Q s hv hu h hq)⟩
theorem op2_notinAll : Op2 K (fun y x H Q => rNotInA K y x H Q ∨ rNotInDict y x H Q) (gInAll fun b => !b) := ⟨fun F H v u x y P Q s hv hu h hq => by
  cases y <;> first
    | exact .inl (op2_notin.run F H v u x _ P Q s hv hu h hq)
    | exact .inr (op2_notinDict.run F H v u x _ P Q s hv hu h hq)⟩
theorem or_inAll (hu : X.A.units + 65 < cLine) : OpR X (compareOp .In) (fun y x H Q => rInA X.K y x H Q ∨ rInDict y x H Q) := (or_in hu).or (or_inDict hu)
theorem or_notinAll (hu : X.A.units + 65 < cLine) : OpR X (compareOp .NotIn) (fun y x H Q => rNotInA X.K y x H Q ∨ rNotInDict y x H Q) := (or_notin hu).or (or_notinDict hu)
end
end Zl

namespace Zl
open PySem PySem.Spec PyProof.Rows L2
theorem setA_eq {α : Type} : ∀ (xs : List α) (i : Nat) (x : α), i < xs.length → setA xs i x = xs.set i x
  | [], i, _, h => by simp at h
  | _ :: _, 0, _, _ => rfl
  | y :: r, i + 1, x, h => by show y :: setA r i x = y :: r.set i x; rw [setA_eq r i x (by simpa using h)]
theorem setA_end {α : Type} : ∀ (xs : List α) (x : α), setA xs xs.length x = xs ++ [x]
  | [], _ => rfl
  | y :: r, x => by show y :: setA r r.length x = y :: (r ++ [x]); rw [setA_end r x]
theorem setA_map {α β : Type} (f : α → β) : ∀ (xs : List α) (i : Nat) (x : α), (setA xs i x).map f = setA (xs.map f) i (f x)
  | [], 0, _ => rfl
  | [], _ + 1, _ => rfl
  | _ :: _, 0, _ => rfl
  | y :: r, i + 1, x => by show f y :: (setA r i x).map f = f y :: setA (r.map f) i (f x); rw [setA_map f r i x]
theorem set_same_at {α : Type} : ∀ (xs : List α) (i : Nat) (x : α), xs[i]? = some x → xs.set i x = xs
  | [], _, _, h => by simp at h
  | y :: r, 0, x, h => by simp at h; rw [h]; rfl
  | y :: r, i + 1, x, h => by show y :: r.set i x = y :: r; rw [set_same_at r i x (by simpa using h)]
/-- the keys behind d[k] = v -/
abbrev kput (ks : List (List Key)) (k : List Key) : List (List Key) := setA ks (kix ks k) k
abbrev vput {α : Type} (ks : List (List Key)) (ts : List α) (k : List Key) (t : α) : List α := setA ts (kix ks k) t
theorem kput_old {ks : List (List Key)} {k : List Key} (h : k ∈ ks) : kput ks k = ks := by
  have := kix_lt h
  unfold kput
  rw [setA_eq _ _ _ this.1, set_same_at _ _ _ this.2]
theorem kput_new {ks : List (List Key)} {k : List Key} (h : k ∉ ks) : kput ks k = ks ++ [k] := by
  unfold kput
  rw [kix_no h, setA_end]
theorem vput_new {α : Type} {ks : List (List Key)} {ts : List α} {k : List Key} {t : α} (h : k ∉ ks) (hl : ts.length = ks.length) : vput ks ts k t = ts ++ [t] := by
  unfold vput
  rw [kix_no h, ← hl, setA_end]
theorem vput_old {α : Type} {ks : List (List Key)} {ts : List α} {k : List Key} {t : α} (h : k ∈ ks) (hl : ts.length = ks.length) : vput ks ts k t = ts.set (kix ks k) t := by
  unfold vput
  rw [setA_eq _ _ _ (by rw [hl]; exact (kix_lt h).1)]
theorem kput_ok {b : Bool} {ks : List (List Key)} {k : List Key} (h : kO b ks) (hk : b = false → ∃ x, k = [x]) : kO b (kput ks k) := by
  by_cases z : k ∈ ks
  · rw [kput_old z]; exact h
  · rw [kput_new z]
    refine ⟨?_, fun e x hx => ?_⟩
    · rw [List.nodup_append]
      refine ⟨h.1, by simp, fun a ha c hc e => ?_⟩
      rw [List.mem_singleton.mp hc] at e
      exact z (e ▸ ha)
    · rcases List.mem_append.mp hx with y | y
      · exact h.2 e x y
      · rw [List.mem_singleton.mp y]; exact hk e
theorem putK_setA {k : List Key} {v : V} : ∀ {kvs : List (List Key × V)}, (kvs.map (·.1)).Nodup → putK kvs k v = setA kvs (kix (kvs.map (·.1)) k) (k, v)
  | [], _ => rfl
  | p :: r, nd => by
    have nd' := List.nodup_cons.mp (show (p.1 :: r.map (·.1)).Nodup from nd)
    have ih := putK_setA (k := k) (v := v) nd'.2
    show _ = setA (p :: r) (if p.1 = k then 0 else kix (r.map (·.1)) k + 1) (k, v)
    by_cases z : p.1 = k
    · rw [if_pos z]
      show _ = (k, v) :: r
      unfold putK
      rw [if_pos (by rw [List.any_cons, decide_eq_true z]; rfl), List.map_cons, if_pos z, z]
      congr 1
      have : ∀ q ∈ r, (if q.1 = k then (q.1, v) else q) = q := fun q hq => by
        rw [if_neg fun e => nd'.1 (by rw [z, ← e]; exact List.mem_map.mpr ⟨q, hq, rfl⟩)]
      exact (List.map_congr_left this).trans (List.map_id' r)
    · rw [if_neg z]
      show _ = p :: setA r (kix (r.map (·.1)) k) (k, v)
      rw [← ih]
      unfold putK
      rw [List.any_cons, decide_eq_false z, Bool.false_or]
      split
      · rw [List.map_cons, if_neg z]
      · rfl
theorem putK_hd {x : Key} {v : V} {kvs : List (List Key × V)} (h : ∀ k ∈ kvs.map (·.1), ∃ y, k = [y]) : (putK kvs [x] v).map hdp = putK (kvs.map hdp) x v := by
  have e : ∀ p ∈ kvs, (p.1 = [x]) ↔ ((hdp p).1 = x) := fun p hp => by
    obtain ⟨y, ey⟩ := h p.1 (List.mem_map.mpr ⟨p, hp, rfl⟩)
    show _ ↔ p.1.headD (.inl 0) = x
    rw [ey]
    constructor
    · intro z; exact List.head_eq_of_cons_eq z
    · intro z; rw [← z]; rfl
  have ea : (kvs.any fun kv => decide (kv.1 = [x])) = ((kvs.map hdp).any fun kv => decide (kv.1 = x)) := by
    rw [List.any_map]
    apply Bool.eq_iff_iff.mpr
    rw [List.any_eq_true, List.any_eq_true]
    constructor
    · rintro ⟨p, hp, z⟩; exact ⟨p, hp, decide_eq_true ((e p hp).mp (of_decide_eq_true z))⟩
    · rintro ⟨p, hp, z⟩; exact ⟨p, hp, decide_eq_true ((e p hp).mpr (of_decide_eq_true z))⟩
  unfold putK
  rw [ea]
  split
  · rw [List.map_map, List.map_map]
    apply List.map_congr_left
    intro p hp
    show hdp (if p.1 = [x] then (p.1, v) else p) = if (hdp p).1 = x then ((hdp p).1, v) else hdp p
    by_cases z : p.1 = [x]
    · rw [if_pos z, if_pos ((e p hp).mp z)]; rfl
    · rw [if_neg z, if_neg fun y => z ((e p hp).mpr y)]
  · rw [List.map_append]; rfl
/-- the heap behind d[k] = v -/
theorem dput_mO {H : Hp} {b : Bool} {a : Addr} {y v : V} {k : List Key} {kvs : List (List Key × V)} (h : H a = some (mO b kvs)) (ko : kO b (kvs.map (·.1))) (q : KeyAt H b y k) (hl : kvs.length < sizeLine) :
    DPut H a y v (upd H a (mO b (setA kvs (kix (kvs.map (·.1)) k) (k, v)))) := by
  rw [← putK_setA ko.1]
  cases b
  · obtain ⟨x, rfl, rfl⟩ := q
    refine .inl ⟨_, x, h, rfl, by rwa [List.length_map], ?_⟩
    rw [mO_f, putK_hd (ko.2 rfl)]
    rfl
  · obtain ⟨q, rfl, hq⟩ := q
    exact .inr ⟨kvs, k, q, h, rfl, hq, hl, rfl⟩
theorem mO_nt (b : Bool) (kvs : List (List Key × V)) : NT (mO b kvs) := by cases b <;> exact nofun
theorem mO_tup (b : Bool) (kvs : List (List Key × V)) : ∀ xs, mO b kvs ≠ .tup xs := by
  intro xs z
  cases b <;> cases z
section
variable {K : PySem.W.Frag} {pv : List (Option V)} {F H : Hp} {σ : L2.St} {env : Ev} {B : Nat → Rg} {R R2 : Rg} {v w : V} {t u u' : T} {b : Bool} {ks : List (List Key)} {ts : List T} {j : Nat} {k : List Key}
theorem KeyAt.one {y : V} (q : KeyAt H b y k) : b = false → ∃ x, k = [x] := fun e => by
  subst e
  obtain ⟨x, h, _⟩ := q
  exact ⟨x, h⟩
/-- a value is put into a dict of one's own -/
theorem IsT.putMap (h : IsT K F H R w (.map b ks ts)) (hv : IsT K F H R2 v t) (hd : ∀ a, R2 a → R a → False) {y : V} (q : KeyAt H b y k) :
    ∃ a kvs, w = .ref a ∧ R a ∧ H a = some (mO b kvs) ∧ kvs.length = ks.length ∧ kO b ks ∧ kvs.map (·.1) = ks ∧ IsT K F (upd H a (mO b (setA kvs (kix ks k) (k, v)))) (Ru R R2) w (.map b (kput ks k) (vput ks ts k t)) := by
  cases h with
  | @map _ R' a _ kvs _ _ ra ha he ko n jj hs =>
    subst he
    have nR2 : ¬ R2 a := fun z => hd a z ra
    generalize hH : upd H a (mO b (setA kvs (kix (kvs.map (·.1)) k) (k, v))) = H'
    have kp : ∀ c o, c ≠ a → H c = some o → H' c = some o := fun c o z e => by rw [← hH, upd_ne z]; exact e
    have at_ : H' a = some (mO b (setA kvs (kix (kvs.map (·.1)) k) (k, v))) := by rw [← hH, upd_same]
    have hs' : IsTs K F H' R' (kvs.map (·.2)) ts := hs.mono (Same.refl _) (fun c o z e => kp c o (fun y => n (by rw [← y]; exact z)) e) fun _ z => z
    have hv' : IsT K F H' R2 v t := hv.mono (Same.refl _) (fun c o z e => kp c o (fun y => nR2 (by rw [← y]; exact z)) e) fun _ z => z
    have hl := hs.length
    rw [List.length_map] at hl
    have kl := kix_le (kvs.map (·.1)) k
    rw [List.length_map] at kl
    refine ⟨a, kvs, rfl, ra, ha, by rw [List.length_map], ko, rfl, ?_⟩
    rw [hH]
    refine .map (R' := Ru R' R2) (.inl ra) at_ ?_ (kput_ok ko q.one) (fun z => z.elim n nR2) (fun c z => z.imp (jj c) id) ?_
    · rw [setA_map]
    · rw [setA_map]
      exact hs'.put (by omega) hv' fun c z y => hd c y (jj c z)
/-- a name's own object takes a value in -/
theorem Rel.join {H' : Hp} (r : Rel K pv F H σ env B) (o : OwnV K F H B R v t) (g : gt env j = some u) (e : σ[j]? = some (some w)) (kp : ∀ a x, ¬ B j a → H a = some x → H' a = some x) (lv : ∀ a, H a ≠ none → H' a ≠ none) (s : Same F H') (tq : Tq F H') (it : IsT K F H' (Ru (B j) R) w u') :
    ∃ B2, Rel K pv F H' σ (st env j u') B2 ∧ Step F H (Ru (U B) R) F H' (U B2) := by
  let B2 : Nat → Rg := fun k b => B k b ∨ (k = j ∧ R b)
  refine ⟨B2, ⟨s, by rw [st_eq, List.length_set]; exact r.len, fun k x h => ?_, fun k l b h1 h2 => ?_, fun k b h => ?_, fun k b h => ?_, r.fix, tq⟩, .out (Same.refl _) (fun b x q z => kp b x (fun y => z (.inl ⟨j, y⟩)) q) (fun b h => .inl ?_) fun b h => .inl h⟩
  · rw [st_eq] at h
    by_cases z : k = j
    · subst z
      rw [List.getElem?_set] at h
      split at h
      · split at h
        · cases h
          exact ⟨w, e, it.mono (Same.refl _) (fun _ _ _ q => q) fun a z => z.imp id fun z => ⟨rfl, z⟩⟩
        · cases h
      · rename_i n; exact absurd rfl n
    · rw [List.getElem?_set_ne (Ne.symm z)] at h
      obtain ⟨x', f1, f2⟩ := r.at_ k x h
      exact ⟨x', f1, f2.mono (Same.refl _) (fun b y hb q => kp b y (fun q => z (r.dis k j b hb q)) q) fun _ z => .inl z⟩
  · rcases h1 with h1 | ⟨rfl, h1⟩ <;> rcases h2 with h2 | ⟨rfl, h2⟩
    · exact r.dis k l b h1 h2
    · exact (o.dis k b h2 h1).elim
    · exact (o.dis l b h1 h2).elim
    · rfl
  · rcases h with h | ⟨_, h⟩
    · exact r.off k b h
    · exact o.off b h
  · rcases h with h | ⟨_, h⟩
    · exact lv b (r.live k b h)
    · exact lv b (o.live b h)
  · obtain ⟨k, h | ⟨_, h⟩⟩ := h
    · exact .inl ⟨k, h⟩
    · exact .inr h
/-- the dict that a name holds -/
def mapAt : T → Option (Bool × List (List Key) × List T)
  | .map b ks ts => some (b, ks, ts)
  | .at_ _ (.map b ks ts) => some (b, ks, ts)
  | _ => none
/-- .. changed -/
def mapTo : T → T → T
  | .at_ a _, t => .at_ a t
  | _, t => t
theorem Rel.putMap (r : Rel K pv F H σ env B) (o : OwnV K F H B R v t) (g : gt env j = some u) (e : σ[j]? = some (some w)) (hm : mapAt u = some (b, ks, ts)) {y : V} (q : KeyAt H b y k) (hz : ks.length < sizeLine) :
    ∃ a H' B2, w = .ref a ∧ DPut H a y v H' ∧ Rel K pv F H' σ (st env j (mapTo u (.map b (kput ks k) (vput ks ts k t)))) B2 ∧ Step F H (Ru (U B) R) F H' (U B2) := by
  obtain ⟨w', e1, e2⟩ := r.at_ j _ (gt_some g)
  rw [e] at e1; cases e1
  have main : IsT K F H (B j) w (.map b ks ts) → (∀ {H' R'} {x : T}, IsT K F H' R' w x → IsT K F H' R' w (mapTo u x)) → ∃ a H' B2, w = .ref a ∧ DPut H a y v H' ∧ Rel K pv F H' σ (st env j (mapTo u (.map b (kput ks k) (vput ks ts k t)))) B2 ∧ Step F H (Ru (U B) R) F H' (U B2) := fun h wrap => by
    obtain ⟨a, kvs, rfl, ra, ha, hl, ko, he, h2⟩ := h.putMap o.is (fun a z y => o.dis j a z y) q
    have ne : ∀ c, ¬ B j c → c ≠ a := fun c z y => z (by rw [y]; exact ra)
    obtain ⟨B2, r2, s2⟩ := r.join o g e (u' := mapTo u (.map b (kput ks k) (vput ks ts k t))) (H' := upd H a (mO b (setA kvs (kix ks k) (k, v)))) (fun c x z e => by rw [upd_ne (ne c z)]; exact e) (fun c z => by
        by_cases y : c = a
        · subst y; rw [upd_same]; simp
        · rw [upd_ne y]; exact z) (fun c x ec => by
        have : c ≠ a := fun z => by subst z; rw [r.off j c ra] at ec; cases ec
        rw [upd_ne this]; exact r.sub c x ec) (Tq.upd r.tp (fun ps z => by rw [ha] at z; exact mO_nt _ _ ps (Option.some.inj z)) (mO_tup _ _)) (wrap h2)
    have dp := dput_mO (v := v) ha (by rw [he]; exact ko) q (by rw [hl]; exact hz)
    rw [he] at dp
    exact ⟨a, _, B2, rfl, dp, r2, s2⟩
  cases u with
  | map b' ks' ts' => cases hm; exact main e2 fun h => h
  | at_ a' t' =>
    cases t' with
    | map b' ks' ts' =>
      cases hm
      cases e2 with
      | at_ h => exact main h fun h => .at_ h
    | fz _ => cases hm
    | lst _ => cases hm
    | ins _ _ => cases hm
    | hole _ => cases hm
    | at_ _ _ => cases hm
  | fz _ => cases hm
  | lst _ => cases hm
  | ins _ _ => cases hm
  | hole _ => cases hm
end
/-! ### {}, d[k] = v -/
def wDNew (b : Bool) : WE := fun env P => P (.map b [] []) env
/-- j[k] = e, j's a dict of one's own -/
def wSetKey (j : Nat) (w : WE) (o : WO) : WS := fun E env => w env fun t e1 => (gt e1 j).isSome = true ∧ o e1 fun b e2 => match rs e2 b, gt e2 j with
  | some x, some u => match mapAt u with
    | some (b, ks, ts) => match keyD b x with
      | some k => ks.length < sizeLine ∧ E.nx (st e2 j (mapTo u (.map b (kput ks k) (vput ks ts k t))))
      | none => False
    | none => False
  | _, _ => False
theorem OwnV.on {K : PySem.W.Frag} {F H F2 H2 : Hp} {B B2 : Nat → Rg} {R : Rg} {v : V} {t : T} (o : OwnV K F H B R v t) (s : Step F H (U B) F2 H2 (U B2)) : OwnV K F2 H2 B2 R v t := by
  have nU : ∀ a, R a → ¬ U B a := fun a h ⟨i, z⟩ => o.dis i a h z
  have kp : ∀ a x, R a → H a = some x → NT x → H2 a = some x := fun a x h q => s.keep a x q (nU a h)
  refine ⟨o.is.monoN s.le kp fun _ z => z, fun i a h z => ?_, fun a h => ?_, fun a h => ?_⟩
  · rcases s.fresh a ⟨i, z⟩ with y | y
    · exact nU a h y
    · exact o.live a h y
  · cases q : F2 a with
    | none => rfl
    | some x =>
      rcases s.newF a (by rw [q]; simp) with y | y | y
      · exact absurd (o.off a h) y
      · exact absurd y (nU a h)
      · exact absurd y (o.live a h)
  · exact s.lv a (o.live a h) (nU a h)
theorem Step.beside {F H F1 H1 F2 H2 : Hp} {B B1 B2 : Nat → Rg} {R : Rg} (s : Step F H (U B) F1 H1 (Ru (U B1) R)) (o : ∀ a, R a → ¬ U B1 a ∧ H1 a ≠ none ∧ F1 a = none) (t : Step F1 H1 (U B1) F2 H2 (U B2)) : Step F H (U B) F2 H2 (Ru (U B2) R) where
  le := s.le.trans t.le
  keep := fun a x h n nt => by
    have h1 := s.keep a x h n nt
    refine t.keep a x h1 (fun z => ?_) nt
    rcases s.fresh a (.inl z) with y | y
    · exact n y
    · rw [h] at y; cases y
  lv := fun a h n => t.lv a (s.lv a h n) fun z => (s.fresh a (.inl z)).elim n h
  fresh := fun a h => by
    rcases h with h | h
    · rcases t.fresh a h with z | z
      · exact s.fresh a (.inl z)
      · exact s.gone z
    · exact s.fresh a (.inr h)
  newF := fun a h => by
    rcases t.newF a h with z | z | z
    · exact s.newF a z
    · exact .inr (s.fresh a (.inl z))
    · exact .inr (s.gone z)
section
variable {X : Cx} {pm : List Bool} {e i : Expr} {w : WE} {wo : WO} {x : Str} {pos pos' npos : Pos}
theorem ze_dnew (b : Bool) : ZE X pm (.Dict [] [] pos) (wDNew b) := by
  cases b
  · refine pe_imp pe_dnewK fun σ H Q ⟨pv, F, B, env, P, m, rel, hw, hq⟩ => fun p hp => ?_
    have al := Alloc.own (o := .dK []) rel.sub hp
    obtain ⟨r2, s2, d2⟩ := rel.alloc al
    exact hq _ _ hw _ _ B _ _ s2 r2 (rel.own al (.map (R' := Rg0) (kvs := []) rfl upd_same rfl ⟨List.nodup_nil, fun _ _ h => nomatch h⟩ (fun z => z) (fun _ z => z.elim) .nil))
  · refine pe_imp pe_dnewT fun σ H Q ⟨pv, F, B, env, P, m, rel, hw, hq⟩ => fun p hp => ?_
    have al := Alloc.own (o := .dT []) rel.sub hp
    obtain ⟨r2, s2, d2⟩ := rel.alloc al
    exact hq _ _ hw _ _ B _ _ s2 r2 (rel.own al (.map (R' := Rg0) (kvs := []) rfl upd_same rfl ⟨List.nodup_nil, fun _ _ h => nomatch h⟩ (fun z => z) (fun _ z => z.elim) .nil))
theorem zs_setKey (j : Nat) (hu : X.A.units + 64 < cLine) (he : ZE X pm e w) (hi : ZO X pm i wo) (hN : X.N[j]? = some x := by rfl) (hv : Vis X.env.scope x := by first | exact Or.inl rfl | exact Or.inr (Or.inl rfl) | exact Or.inr (Or.inr rfl)) (hd : (x == ("__debug__" : Str)) = false := by decide)
    (hcd : (x == ("__classdict__" : Str)) = false := by decide) (hs : swapsWith e (some (.Subscript (.Name x npos) i pos')) pos.line X.env = pure false := by rfl) :
    ZS X pm (.Assign [.Subscript (.Name x npos) i pos'] e pos) (wSetKey j w wo) := ps_imp (ps_dput (by omega) (pe_var hN hv hd hcd) hi he hs) fun D σ H ⟨pv, F, B, env, E, m, rel, hw, cn⟩ =>
  ⟨pv, F, B, env, _, m, rel, hw, fun t e1 h1 F1 H1 B1 R1 v s1 r1 o1 => by
    obtain ⟨h0, h1⟩ := h1
    cases g0 : gt e1 j with
    | none => rw [g0] at h0; cases h0
    | some t0 =>
      obtain ⟨v0, ev, iv⟩ := r1.at_ j _ (gt_some g0)
      refine ⟨v0, ev, pv, F1, B1, e1, _, m, r1, h1, fun b e2 h2 F3 H3 B3 u s3 r3 i3 => ?_⟩
      cases qb : rs e2 b with
      | none => simp only [qb] at h2
      | some y =>
        cases g1 : gt e2 j with
        | none => simp only [qb, g1] at h2
        | some t1 =>
          simp only [qb, g1] at h2
          cases hm : mapAt t1 with
          | none => simp only [hm] at h2
          | some bkt =>
            obtain ⟨bb, ks, ts⟩ := bkt
            simp only [hm] at h2
            cases hk : keyD bb y with
            | none => simp only [hk] at h2
            | some k =>
              simp only [hk] at h2
              have o3 := o1.on s3
              obtain ⟨a, H', B2, ea, dp, r4, s4⟩ := r3.putMap o3 g1 ev hm ((r3.pk i3 qb).key r3.sub hk) h2.1
              exact ⟨a, H', ea, dp, cn.nx _ F3 _ σ B2 h2.2 ((s1.beside (fun a z => ⟨fun ⟨i, y⟩ => o1.dis i a z y, o1.live a z, o1.off a z⟩) s3).trans s4) r4⟩⟩
end
end Zl

namespace Zl
open PySem PySem.Spec PyProof.Rows L2
/-! ### d[k], d.get(k, x) -/
section
variable {X : Cx} {K : PySem.W.Frag}
theorem ix_dict (hu : X.A.units + 64 < cLine) : IxR X rIxDict := by
  intro value slice pins s σ H x y v u Q I rx ry h hs
  obtain ⟨a, z, rfl, g, q⟩ := h
  obtain rfl : v = Value.ref a := rx
  exact tail_any (dict_typeIs I g) PySem.F.slot_dict_getitem.lookup (d_getItem (by omega) I g ry fun w' s3 I3 rw' => ⟨z, H, I3, rw', q⟩) hs
theorem op2_ixD : Op2 K rIxDict gIxD := ⟨fun F H v u x y P Q s hv hu h hq => by
  cases x <;> first
    | exact h.elim
    | skip
  rename_i b l ks ds
  have h : (match keyD b y with | some y => (match dgt ks ds y with | some d => okG l d ∧ P (.fz d) | none => False) | none => False) := h
  cases e : keyD b y with
  | none => rw [e] at h; exact h.elim
  | some k =>
    simp only [e] at h
    cases e2 : dgt ks ds k with
    | none => rw [e2] at h; exact h.elim
    | some d =>
      rw [e2] at h
      obtain ⟨a, o, ea, _, g, _, gd, _⟩ := dget_of s hu hv e
      obtain ⟨w, eo, _, hw⟩ := gd d e2
      subst eo
      exact ⟨a, w, ea, g, hq _ _ F H Rg0 h.2 (.refl s) (.fz (hw h.1))⟩⟩
/-- x[i], whatever x be -/
def gIxAll (x y : D) (k : T → Prop) : Prop := match x with
  | .map b l ks ds => gIxD (.map b l ks ds) y k
  | x => gIx x y k
theorem op2_ixAll : Op2 K (fun x y H Q => rIx K x y H Q ∨ rIxDict x y H Q) gIxAll := ⟨fun F H v u x y P Q s hv hu h hq => by
  cases x <;> first
    | exact .inl (op2_ix.run F H v u _ y P Q s hv hu h hq)
    | exact .inr (op2_ixD.run F H v u _ y P Q s hv hu h hq)⟩
theorem ix_all (hu : X.A.units + 64 < cLine) : IxR X (fun x y H Q => rIx X.K x y H Q ∨ rIxDict x y H Q) := ix_seq.or (ix_dict hu)
end
/-- d.get(k, x) -/
def wGet2 (od ok : WO) (wf : WE) : WE := fun env P => od env fun a e1 => (∃ b l ks ds, rs e1 a = some (.map b l ks ds)) ∧ ok e1 fun c e2 => wf e2 fun t e3 => match rs e3 a, rs e3 c with
  | some (.map b l ks ds), some x => match keyD b x with
    | some y => match dgt ks ds y with
      | some d => okG l d ∧ P (.fz d) e3
      | none => P t e3
    | none => False
  | _, _ => False
section
variable {X : Cx} {pm : List Bool} {o e f : Expr} {apos cpos : Pos} {od oe : WO} {wf : WE}
theorem ze_get2 (hu : X.A.units + 64 < cLine) (ho : ZO X pm o od) (he : ZO X pm e oe) (hf : ZE X pm f wf) (m : M2 X o "get" apos e f cpos := by exact ⟨rfl, rfl, rfl, rfl⟩) : ZE X pm (.Call (.Attribute o "get" apos) [e, f] [] cpos) (wGet2 od oe wf) :=
  pe_imp (pe_dget2 (by omega) ho he hf m) fun σ H Q ⟨pv, F, B, env, P, mk, rel, hw, hq⟩ => by
  refine ⟨pv, F, B, env, _, mk, rel, hw, fun a e1 h1 F1 H1 B1 v s1 r1 i1 => ?_⟩
  obtain ⟨⟨b, l, ks, ds, ea⟩, h1⟩ := h1
  have pk := r1.pk i1 ea
  obtain ⟨ad, rfl, isd⟩ : ∃ ad, v = .ref ad ∧ L2.IsD H1 ad := by
    have isd : ∀ {a : Addr} {kvs : List (List Key × V)}, Rd H1 a (mO b kvs) → L2.IsD H1 a := fun {a kvs} h => by
      cases b
      · exact .inl ⟨_, h⟩
      · exact .inr ⟨_, h⟩
    cases pk with
    | d h => cases h with | map hf _ _ _ => exact ⟨_, rfl, isd (Rd.lO (r1.sub _ _ hf))⟩
    | map hf _ _ _ => exact ⟨_, rfl, isd (.inl hf)⟩
  refine ⟨ad, rfl, isd, pv, F1, B1, e1, _, mk, r1, h1, fun c e2 h2 F2 H2 B2 u s2 r2 i2 => ⟨pv, F2, B2, e2, _, mk, r2, h2, fun t e3 h3 F3 H3 B3 R3 w s3 r3 o3 => ?_⟩⟩
  have i1' := (i1.mono s2.le).mono s3.le
  have i2' := i2.mono s3.le
  cases qa : rs e3 a with
  | none => simp only [qa] at h3
  | some da =>
    cases qc : rs e3 c with
    | none => cases da <;> simp only [qa, qc] at h3
    | some x =>
      cases da <;> try (simp only [qa, qc] at h3; done)
      rename_i b' l' ks' ds'
      simp only [qa, qc] at h3
      cases ek : keyD b' x with
      | none => simp only [ek] at h3
      | some y =>
        simp only [ek] at h3
        obtain ⟨a', ov, ea', _, g, _, gd, gn, _⟩ := dget_of r3.sub (r3.pk i2' qc) (r3.pk i1' qa) ek
        cases ea'
        refine ⟨ov, g, ?_⟩
        cases ed : dgt ks' ds' y with
        | some d =>
          simp only [ed] at h3
          obtain ⟨z, eo, _, hz⟩ := gd d ed
          subst eo
          exact hq _ _ h3.2 F3 H3 B3 Rg0 z (((s1.trans s2).trans s3).l.r0) r3 (OwnV.fz (hz h3.1))
        | none =>
          simp only [ed] at h3
          rw [gn ed]
          exact hq _ _ h3 F3 H3 B3 R3 w ((s1.trans s2).trans s3) r3 o3
end
end Zl

/-! What nobody changes any more: its dicts may be walked. -/
namespace Zl
open PySem PySem.Spec PyProof.Rows L2
mutual
/-- frozen, its dicts locked -/
def T.lk : T → D
  | .fz d => d
  | .lst ds => .lst ds
  | .ins c ts => .ins c (T.lks ts)
  | .map b ks ts => .map b true ks (T.lks ts)
  | .hole _ => .unk
  | .at_ _ t => t.lk
def T.lks : List T → List D
  | [] => []
  | t :: ts => t.lk :: T.lks ts
end
section
variable {X : Cx} {pins : List (Addr × Obj)} {σ : L2.St} {s : Shared} {K : PySem.W.Frag} {F H0 : Hp}
theorem mO_mut (b : Bool) (kvs : List (List Key × V)) : Mut (some (mO b kvs)) := by cases b <;> exact True.intro
/-- what locking gives -/
def Lkd (X : Cx) (pins : List (Addr × Obj)) (σ : L2.St) (s : Shared) (F H : Hp) (R : Rg) (G : Hp → Prop) : Prop :=
  ∃ H2, Inv X pins σ H2 s ∧ (∀ a, ¬ R a → H2 a = H a) ∧ (∀ a, H a ≠ none → H2 a ≠ none) ∧ ((∀ a xs, H2 a = some (.tup xs) → H a = some (.tup xs)) ∧ ∀ a ps, H a = some (.tbl ps) → H2 a = some (.tbl ps)) ∧ ∀ F', Same F F' → (∀ a o, R a → H2 a = some o → NT o → F' a = some o) → G F'
mutual
theorem IsT.lock : ∀ {R : Rg} {v : V} {t : T}, IsT K F H0 R v t → ∀ H, (∀ a, R a → H a = H0 a) → Inv X pins σ H s → Lkd X pins σ s F H R fun F' => Zl.IsD K F' v t.lk
  | _, _, _, .fz h, H, _, I => ⟨H, I, fun _ _ => rfl, fun _ h => h, ⟨fun _ _ h => h, fun _ _ h => h⟩, fun F' s _ => h.mono s⟩
  | _, _, _, .lst r h q, H, e, I => ⟨H, I, fun _ _ => rfl, fun _ h => h, ⟨fun _ _ h => h, fun _ _ h => h⟩, fun F' s k => .lst (k _ _ r ((e _ r).trans h) nofun) (q.mono s)⟩
  | _, _, _, .hole, H, _, I => ⟨H, I, fun _ _ => rfl, fun _ h => h, ⟨fun _ _ h => h, fun _ _ h => h⟩, fun F' s _ => .unk⟩
  | _, _, _, @IsT.at_ _ _ _ _ _ t q, H, e, I => (IsT.lock (t := t) q H e I : Lkd X pins σ s F H _ fun F' => Zl.IsD K F' _ t.lk)
  | _, _, _, @IsT.ins _ _ _ R R' a dx c vs ts r h l n j q, H, e, I => by
    obtain ⟨H2, I2, k1, k2, k3, k4⟩ := IsTs.lock q H (fun a z => e a (j a z)) I
    exact ⟨H2, I2, fun a z => k1 a (fun y => z (j a y)), k2, k3, fun F' s k => .ins (k _ _ r ((k1 _ n).trans ((e _ r).trans h)) nofun) l (k4 F' s fun a o z => k a o (j a z))⟩
  | _, _, _, @IsT.map _ _ _ R R' a b kvs ks ts r h he ko n j q, H, e, I => by
    obtain ⟨H1, I1, k1, k2, k3, k4⟩ := IsTs.lock q H (fun a z => e a (j a z)) I
    have ha : H1 a = some (mO b kvs) := (k1 _ n).trans ((e _ r).trans h)
    obtain ⟨od, I2⟩ := I1.lock ha (mO_mut b kvs)
    refine ⟨_, I2, fun c z => ?_, fun c z => ?_, ⟨fun c xs z => ?_, fun c ps z => ?_⟩, fun F' s k => ?_⟩
    · rw [upd_ne (fun y => z (by rw [y]; exact r))]
      exact k1 c fun y => z (j c y)
    · by_cases y : c = a
      · subst y; rw [upd_same]; simp
      · rw [upd_ne y]; exact k2 c z
    · by_cases y : c = a
      · subst y; rw [upd_same] at z; cases z
      · rw [upd_ne y] at z; exact k3.1 c xs z
    · have z1 := k3.2 c ps z
      have y : c ≠ a := fun y => by rw [y, ha] at z1; cases b <;> cases z1
      rw [upd_ne y]; exact z1
    · refine .map (l := true) (o := od) (k _ _ r upd_same nofun) he ko (k4 F' s fun c o z q nt => k c o (j c z) ?_ nt)
      rw [upd_ne fun y => n (by rw [← y]; exact z)]
      exact q
theorem IsTs.lock : ∀ {R : Rg} {vs : List V} {ts : List T}, IsTs K F H0 R vs ts → ∀ H, (∀ a, R a → H a = H0 a) → Inv X pins σ H s → Lkd X pins σ s F H R fun F' => IsDs K F' vs (T.lks ts)
  | _, _, _, .nil, H, _, I => ⟨H, I, fun _ _ => rfl, fun _ h => h, ⟨fun _ _ h => h, fun _ _ h => h⟩, fun F' s _ => .nil⟩
  | _, _, _, @IsTs.cons _ _ _ R R1 R2 v vs t ts j1 j2 d h q, H, e, I => by
    obtain ⟨H1, I1, k1, k2, k3, k4⟩ := IsT.lock h H (fun a z => e a (j1 a z)) I
    obtain ⟨H2, I2, l1, l2, l3, l4⟩ := IsTs.lock q H1 (fun a z => (k1 a fun y => d a y z).trans (e a (j2 a z))) I1
    refine ⟨H2, I2, fun a z => (l1 a fun y => z (j2 a y)).trans (k1 a fun y => z (j1 a y)), fun a z => l2 a (k2 a z), ⟨fun a xs z => k3.1 a xs (l3.1 a xs z), fun a ps z => l3.2 a ps (k3.2 a ps z)⟩, fun F' s k => .cons (k4 F' s fun a o z q => k a o (j1 a z) ((l1 a fun y => d a z y).trans q)) (l4 F' s fun a o z => k a o (j2 a z))⟩
end
end
/-- the value is frozen, its dicts locked -/
def wLk (w : WE) : WE := fun env P => w env fun t e => P (.fz t.lk) e
theorem Rel.lockV {X : Cx} {pins : List (Addr × Obj)} {pv : List (Option V)} {σ : L2.St} {s' : Shared} {F1 H1 : Hp} {e1 : Ev} {B1 : Nat → Rg} {R1 : Rg} {v : V} {t : T} (I1 : Inv X pins σ H1 s') (r1 : Rel X.K pv F1 H1 σ e1 B1) (o1 : OwnV X.K F1 H1 B1 R1 v t) :
    ∃ F2 H2, Inv X pins σ H2 s' ∧ Rel X.K pv F2 H2 σ e1 B1 ∧ Step F1 H1 (Ru (U B1) R1) F2 H2 (U B1) ∧ Zl.IsD X.K F2 v t.lk := by
  classical
  obtain ⟨H2, I2, k1, k2, k3, k4⟩ := o1.is.lock H1 (fun _ _ => rfl) I1
  have nB : ∀ i a, B1 i a → ¬ R1 a := fun i a z y => o1.dis i a y z
  have off_ : ∀ {a : Addr}, ¬ (R1 a ∧ ∀ ps, H2 a ≠ some (.tbl ps)) → (if R1 a ∧ ∀ ps, H2 a ≠ some (.tbl ps) then H2 a else F1 a) = F1 a := fun z => if_neg z
  have hl : Same F1 (fun a => if R1 a ∧ ∀ ps, H2 a ≠ some (.tbl ps) then H2 a else F1 a) := fun a x z => (off_ fun y => by rw [o1.off a y.1] at z; cases z).trans z
  have d2 := k4 (fun a => if R1 a ∧ ∀ ps, H2 a ≠ some (.tbl ps) then H2 a else F1 a) hl fun a o z q nt => (if_pos (⟨z, fun ps y => nt ps (Option.some.inj (q.symm.trans y))⟩ : R1 a ∧ ∀ ps, H2 a ≠ some (.tbl ps))).trans q
  have r2 : Rel X.K pv (fun a => if R1 a ∧ ∀ ps, H2 a ≠ some (.tbl ps) then H2 a else F1 a) H2 σ e1 B1 := by
    refine ⟨fun a x z => ?_, r1.len, fun i u z => ?_, r1.dis, fun i a z => ?_, fun i a z => k2 a (r1.live i a z), r1.fix, (r1.tp.le hl fun a ⟨ps, e⟩ n => (off_ fun z => z.2 ps (k3.2 a ps e)).trans n).re k3.1 k3.2⟩
    · by_cases y : R1 a ∧ ∀ ps, H2 a ≠ some (.tbl ps)
      · exact (if_pos y).symm.trans z
      · have z := (off_ y).symm.trans z
        rw [k1 a fun q => by rw [o1.off a q] at z; cases z]; exact r1.sub a x z
    · obtain ⟨w', e2, e3⟩ := r1.at_ i u z
      exact ⟨w', e2, e3.mono hl (fun a x y q => by rw [k1 a (nB i a y)]; exact q) fun _ z => z⟩
    · exact (off_ fun y => nB i a z y.1).trans (r1.off i a z)
  have s2 : Step F1 H1 (Ru (U B1) R1) (fun a => if R1 a ∧ ∀ ps, H2 a ≠ some (.tbl ps) then H2 a else F1 a) H2 (U B1) := by
    refine .out hl (fun a x z y => by rw [k1 a fun q => y (.inr q)]; exact z) (fun a z => .inl (.inl z)) fun a z => ?_
    by_cases y : R1 a
    · exact .inr (.inl (.inr y))
    · exact .inl fun q => z ((off_ fun w => y w.1).trans q)
  exact ⟨_, H2, I2, r2, s2, d2⟩
theorem ze_lk {X : Cx} {pm : List Bool} {e : Expr} {w : WE} (h : ZE X pm e w) : ZE X pm e (wLk w) := ⟨fun pins s σ H Q I ⟨pv, F, B, env, P, m, rel, hw, hq⟩ => by
  refine wpAny_mono (h.run pins s σ H (fun v H1 => ∃ F1 B1 R1 e1 t, P (.fz t.lk) e1 ∧ Step F H (U B) F1 H1 (Ru (U B1) R1) ∧ Rel X.K pv F1 H1 σ e1 B1 ∧ OwnV X.K F1 H1 B1 R1 v t) I ⟨pv, F, B, env, fun t e1 => P (.fz t.lk) e1, m, rel, hw, fun t e1 h1 F1 H1 B1 R1 v s1 r1 o1 => ⟨F1, B1, R1, e1, t, h1, s1, r1, o1⟩⟩) (fun u s' ⟨v, H1, I1, rv, F1, B1, R1, e1, t, h1, s1, r1, o1⟩ => ?_) fun _ _ x => x
  obtain ⟨F2, H2, I2, r2, s2, d2⟩ := r1.lockV I1 o1
  exact ⟨v, H2, I2, rv, hq _ _ h1 F2 H2 B1 Rg0 v (s1.trans s2).r0 r2 (OwnV.fz d2)⟩⟩
end Zl

/-! Walks over dicts that nobody changes any more. -/
namespace Zl
open PySem PySem.Spec PyProof.Rows L2
/-- a name's object is frozen, its dicts locked -/
def wLkV (j : Nat) : WE := fun env P => match gt env j with
  | some (.fz d) => P (.fz d) env
  | some t => P (.fz t.lk) (st env j (.fz t.lk))
  | none => False
def kD1 : Key → D
  | .inl i => .int i
  | .inr s => .str s
/-- a key as data -/
def kDt : Bool → List Key → D
  | false, k => kD1 (k.headD (.inl 0))
  | true, k => .tup (k.map kD1)
theorem kD1_is {K : PySem.W.Frag} {F : Hp} : ∀ k : Key, Zl.IsD K F (kV k) (kD1 k)
  | .inl i => .int i
  | .inr s => .str s
theorem kD1s_is {K : PySem.W.Frag} {F : Hp} : ∀ k : List Key, IsDs K F (k.map kV) (k.map kD1)
  | [] => .nil
  | x :: r => .cons (kD1_is x) (kD1s_is r)
def wiK (w : WE) : WI := fun env P => w env fun t e1 => match t with
  | .fz (.map b true ks _) => P (ks.map (kDt b)) (fun _ => True) e1
  | _ => False
section
variable {X : Cx} {pm : List Bool} {K : PySem.W.Frag} {pv : List (Option V)} {F1 : Hp}
theorem feeds_keysK {d : Addr} {o : Obj} {kvs : List (List Key × V)} (h : F1 d = some (.frz o (mO false kvs))) : Feeds K pv F1 (Itk d o (kvs.map hdp)) ((kvs.map (·.1)).map (kDt false)) (fun _ => True) where
  go := fun i x F H σ' env B r s c hx => ⟨r.sub _ _ (s _ _ h), by
    have := (List.getElem?_eq_some_iff.mp hx).1
    simpa using this⟩
  yld := fun i x F H σ' env B y H' r s c hx ⟨e, k, v, e1, e2⟩ => by
    subst e
    refine ⟨F, .refl r.sub, ?_⟩
    rw [List.getElem?_map] at e1
    cases q : kvs[i]? with
    | none => rw [q] at e1; cases e1
    | some p =>
      rw [q] at e1
      rw [List.getElem?_map, List.getElem?_map, q] at hx
      cases e1
      cases hx
      rw [e2]
      exact kD1_is _
  stop := fun i F H σ' env B r s c hx => ⟨r.sub _ _ (s _ _ h), by simpa using hx⟩
theorem feeds_keysT {d : Addr} {o : Obj} {kvs : List (List Key × V)} (h : F1 d = some (.frz o (mO true kvs))) : Feeds K pv F1 (Itkt d o kvs) ((kvs.map (·.1)).map (kDt true)) (fun _ => True) where
  go := fun i x F H σ' env B r s c hx => ⟨r.sub _ _ (s _ _ h), by
    have := (List.getElem?_eq_some_iff.mp hx).1
    simpa using this⟩
  yld := fun i x F H σ' env B y H' r s c hx ⟨e, k, v, q, e1, e2, e3⟩ => by
    subst e
    refine ⟨F, .refl r.sub, ?_⟩
    rw [List.getElem?_map, List.getElem?_map, e1] at hx
    cases hx
    rw [e2]
    exact .tup (r.tp.tup _ _ e3) (kD1s_is k)
  stop := fun i F H σ' env B r s c hx => ⟨r.sub _ _ (s _ _ h), by simpa using hx⟩
theorem zi_keys {tg e : Expr} {w : WE} (he : ZE X pm e w) : ZI X pm tg e (wiK w) := pi_imp (pi_keys he) fun σ H R ⟨pv, F, B, env, P, m, rel, hw, hq⟩ => ⟨pv, F, B, env, _, m, rel, hw, fun t e1 h1 F1 H1 B1 R1 v s1 r1 o1 => by
  cases t with
  | fz d =>
    cases d <;> try exact h1.elim
    rename_i b l ks ds
    cases l with
    | false => exact h1.elim
    | true =>
      have h1 : P (ks.map (kDt b)) (fun _ => True) e1 := h1
      cases o1.is with
      | fz h =>
        cases h with
        | @map a _ _ o kvs _ _ hf he ko hr =>
          subst he
          cases b with
          | false => exact ⟨a, o, rfl, .inl ⟨_, r1.sub _ _ hf, hq _ _ e1 h1 F1 H1 B1 _ s1.l r1 (feeds_keysK hf)⟩⟩
          | true => exact ⟨a, o, rfl, .inr ⟨_, r1.sub _ _ hf, hq _ _ e1 h1 F1 H1 B1 _ s1.l r1 (feeds_keysT hf)⟩⟩
  | _ => exact h1.elim⟩
theorem ze_lkV (j : Nat) {x : Str} {pos : Pos} (hN : X.N[j]? = some x := by rfl) (hv : Vis X.env.scope x := by first | exact Or.inl rfl | exact Or.inr (Or.inl rfl) | exact Or.inr (Or.inr rfl)) (hd : (x == ("__debug__" : Str)) = false := by decide)
    (hcd : (x == ("__classdict__" : Str)) = false := by decide) : ZE X pm (.Name x pos) (wLkV j) := by
  refine ⟨fun pins s σ H Q I ⟨pv, F, B, env, P, m, rel, hw, hq⟩ => ?_⟩
  have hw : (match gt env j with | some (.fz d) => P (.fz d) env | some t => P (.fz t.lk) (st env j (.fz t.lk)) | none => False) := hw
  cases g : gt env j with
  | none => rw [g] at hw; exact hw.elim
  | some t =>
    rw [g] at hw
    obtain ⟨v0, ev, r1, o1, s1⟩ := rel.take g
    have hi := (List.getElem?_eq_some_iff.mp ev).1
    have go : P (.fz t.lk) (st env j (.fz t.lk)) → wpAny (model X.prog X.w) X.A (eval (.Name x pos) X.env) (EP X pins σ Q) X.xe s := fun hp => by
      refine wpAny_mono ((pe_var (X := X) hN hv hd hcd (pos := pos)).run pins s σ H (fun v H1 => H1 = H ∧ v = v0) I ⟨v0, ev, rfl, rfl⟩) (fun u s' ⟨v, H1, I1, rv, e1, e2⟩ => ?_) fun _ _ x => x
      subst e1 e2
      obtain ⟨F2, H2, I2, r2, s2, d2⟩ := r1.lockV I1 o1
      obtain ⟨r3, s3⟩ := r2.put (i := j) (OwnV.fz d2) (fun u h => ⟨ev, by have := rel.fix j u h; rw [ev] at this; cases this; rfl⟩) hi
      rw [set_same ev, st_cl] at r3
      refine ⟨v, H2, I2, rv, hq _ _ hp F2 H2 _ Rg0 v ?_ r3 (OwnV.fz d2)⟩
      exact ((s2.more s1).less fun a h => (s3 a h).elim id False.elim).r0
    cases t with
    | fz d =>
      refine wpAny_mono ((pe_var (X := X) hN hv hd hcd (pos := pos)).run pins s σ H (fun v H1 => H1 = H ∧ v = v0) I ⟨v0, ev, rfl, rfl⟩) (fun u s' ⟨v, H1, I1, rv, e1, e2⟩ => ?_) fun _ _ x => x
      subst e1 e2
      obtain ⟨v1, ev1, i1⟩ := rel.at_ j _ (gt_some g)
      rw [ev] at ev1; cases ev1
      cases i1 with
      | fz h => exact ⟨v, H1, I1, rv, hq _ _ hw F H1 B Rg0 v Step.refl.r0 rel (OwnV.fz h)⟩
    | lst _ => exact go hw
    | ins _ _ => exact go hw
    | map _ _ _ => exact go hw
    | hole _ => exact go hw
    | at_ _ _ => exact go hw
end
end Zl

/-! d.setdefault(k, x): a part of an object of one's own is taken out, and given back. -/
namespace Zl
open PySem PySem.Spec PyProof.Rows L2
section
variable {X : Cx} {pins : List (Addr × Obj)} {σ : L2.St} {H : Hp} {s : Shared} {a : Addr} {y d : V} {u r : Value} {o : Option V} {A : Around} {E : Value → Shared → Prop}
theorem d_setdG {Q : Value → Shared → Prop} (hu : A.units + 1 < cLine) (I : Inv X pins σ H s) (g : DGet H a y o) (ry : RelV y u) (rd : RelV d r)
    (h1 : ∀ v, o = some v → ∀ (w' : Value) (s' : Shared), Inv X pins σ H s' → RelV v w' → Q w' s') (h2 : o = none → ∃ H', DPut H a y d H' ∧ ∀ (w' : Value) (s' : Shared), Inv X pins σ H' s' → RelV d w' → Q w' s') :
    wpAny (model X.prog X.w) A (call (.builtin "dict.setdefault") [.ref a, u, r]) Q E s := by
  rcases g with ⟨kvs, k, e, ey, l⟩ | ⟨kvs, k, b, e, ey, eb, l⟩
  · subst ey
    obtain ⟨z, hd, vs, rel, dd⟩ := dk_rd I.hok e
    have hz : vs.length ≤ sizeLine := by rw [← rel.length]; exact z
    refine call_meetsIn PySem.F.slot_dict_setdefault dd.typeIs PySem.F.entry_dict_setdefault (PySem.F.args_dict_setdefault_3 _ _ _) (kt_meets_setdefault (mixKind X.prog X.w) a (kV_is ry) hd r) ⟨vs, dd, hz, fun v hv => ?_, fun hn h' dd' hs => ?_⟩
    · have q := rel.val k
      rw [hv] at q
      cases q0 : valV kvs k with
      | none => rw [q0] at q; exact (show False from q).elim
      | some v0 =>
        rw [q0] at q
        exact h1 v0 (l.trans q0) _ _ (I.tok _) q
    · have q := rel.val k
      rw [hn] at q
      cases q0 : valV kvs k with
      | some v0 => rw [q0] at q; exact (show False from q).elim
      | none =>
        obtain ⟨H', dp, h2⟩ := h2 (l.trans q0)
        rcases dp with ⟨kvs', k', e', ey', l', eH⟩ | ⟨kvs', k', b', e', ey', eb', l', eH⟩
        · have ek := kV_inj ey'
          subst ek
          have ee : kvs' = kvs := by
            rcases e with e | ⟨ob, e⟩
            · rw [e'] at e; cases e; rfl
            · rw [e'] at e; cases e
          subst ee eH
          have hl2 : (putK kvs' k d).length ≤ sizeLine := by have := length_putK kvs' k d; omega
          have he : ∃ q, h'.get? a = some q := let ⟨q, _, _, hq, _⟩ := dd'; ⟨q, hq⟩
          exact h2 _ _ (d_write (t' := s.toks + 1) I (by rw [e']; exact True.intro) hs he (dk_new hl2 hd (rel.put k rd) dd')) rd
        · rcases e with e | ⟨ob, e⟩
          · rw [e'] at e; cases e
          · rw [e'] at e; cases e
  · subst ey
    cases (show u = Value.ref b from ry)
    obtain ⟨z, hd, xs, rel, dd⟩ := dt_rd I.hok e
    have hz : xs.length ≤ sizeLine := by rw [← Paired.length rel]; exact z
    refine PySem.call_setdefault_heap (hsz := hz) (tupleKind_room_in1 hu) (key_of I.hok eb) hd dd (fun p hp => ?_) fun hn h' dd' hs => ?_
    · have q := rel.val k
      rw [hp] at q
      cases q0 : valV kvs k with
      | none => rw [q0] at q; exact (show False from q).elim
      | some v0 =>
        rw [q0] at q
        exact h1 v0 (l.trans q0) _ _ (I.tok _) q
    · have q := rel.val k
      rw [hn] at q
      cases q0 : valV kvs k with
      | some v0 => rw [q0] at q; exact (show False from q).elim
      | none =>
        obtain ⟨H', dp, h2⟩ := h2 (l.trans q0)
        rcases dp with ⟨kvs', k', e', ey', l', eH⟩ | ⟨kvs', k', b', e', ey', eb', l', eH⟩
        · rcases e with e | ⟨ob, e⟩
          · rw [e'] at e; cases e
          · rw [e'] at e; cases e
        · have eb2 : b = b' := by cases ey'; rfl
          subst eb2
          have ek : k = k' := by
            exact kVs_inj (HO.tup.inj (Option.some.inj (eb.symm.trans eb')))
          subst ek
          have ee : kvs' = kvs := by
            rcases e with e | ⟨ob, e⟩
            · rw [e'] at e; cases e; rfl
            · rw [e'] at e; cases e
          subst ee eH
          have hl2 : (putK kvs' k d).length ≤ sizeLine := by have := length_putK kvs' k d; omega
          obtain ⟨q, es, ep, hq, g2, g3, g4, _, g5⟩ := dd'
          refine h2 _ _ (d_write I (by rw [e']; exact True.intro) hs ⟨q, hq⟩ ⟨hl2, hd, _, (rel.put k eb rd).keeps fun c ys ec => ?_, q, es, ep, hq, g2, g3, g4, g5⟩) rd
          rw [upd_ne (ne_of ec e' (fun z => nomatch z))]
          exact ec
end
def tSd (td ty tx : TE) : TE := fun σ H Q => td σ H fun x H1 => ∃ a, x = .ref a ∧ L2.IsD H1 a ∧ ty σ H1 fun y H2 => tx σ H2 fun z H3 => ∃ o, DGet H3 a y o ∧ (∀ v, o = some v → Q v H3) ∧ (o = none → ∃ H4, DPut H3 a y z H4 ∧ Q z H4)
theorem pe_sd {X : Cx} {o e f : Expr} {td ty tx : TE} {apos cpos : Pos} (hu : X.A.units + 1 < cLine) (ho : PE X o td) (he : PE X e ty) (hf : PE X f tx) (m : M2 X o "setdefault" apos e f cpos) : PE X (.Call (.Attribute o "setdefault" apos) [e, f] [] cpos) (tSd td ty tx) := by
  refine ⟨fun pins s σ H Q I h => ?_⟩
  refine wpAny_Call_method m.base m.few m.line PySem.F.plainAttrs_dict PySem.F.slot_dict_setdefault PySem.F.type_dict_setdefault (thn (ho.run pins s σ H _ I h) fun u s1 ⟨x, H1, I1, rx, a, ex, d, q1⟩ => ?_)
  subst ex
  obtain rfl : u = Value.ref a := rx
  obtain ⟨t1, t2, _⟩ := isD_at I1 d
  refine ⟨t1, t2, ?_⟩
  rw [m.trees]
  refine Calls.callWith_builtin rfl (Calls.evalArgs_plain (Calls.spliced_cons (thn (he.run pins s1 σ H1 _ I1 q1) fun iv s2 ⟨y, H2, I2, ry, q2⟩ =>
    Calls.spliced_cons (thn (hf.run pins s2 σ H2 _ I2 q2) fun fv s3 ⟨z, H3, I3, rz, ov, g, q3, q4⟩ => Calls.spliced_nil ?_))))
  exact d_setdG hu I3 g ry rz (fun v hv w' s4 I4 rw' => ⟨v, _, I4, rw', q3 v hv⟩) fun hn => by
    obtain ⟨H4, dp, q⟩ := q4 hn
    exact ⟨H4, dp, fun w' s4 I4 rw' => ⟨z, H4, I4, rw', q⟩⟩

section
variable {K : PySem.W.Frag} {pv : List (Option V)} {F H : Hp} {σ : L2.St} {env : Ev} {B : Nat → Rg} {R R2 : Rg} {v w : V} {t u u' t0 : T} {b : Bool} {ks : List (List Key)} {ts : List T} {j i n : Nat} {a : Addr}
def T.isFz : T → Bool
  | .fz _ => true
  | _ => false
theorem IsT.isRef (h : IsT K F H R v t) (e : t.isFz = false) : ∃ a, v = .ref a := by
  cases h <;> first
    | (cases e; done)
    | exact ⟨_, rfl⟩
theorem mO_vals {kvs kvs' : List (List Key × V)} (h : mO b kvs = mO b kvs') : kvs.map (·.2) = kvs'.map (·.2) := by
  cases b
  · have h : kvs.map hdp = kvs'.map hdp := HO.dK.inj h
    have := congrArg (List.map (·.2)) h
    rw [List.map_map, List.map_map] at this
    exact this
  · have h : kvs = kvs' := HO.dT.inj h
    rw [h]
theorem IsTs.take : ∀ {R : Rg} {vs : List V} {ts : List T} {i : Nat} {t : T}, IsTs K F H R vs ts → ts[i]? = some t →
    ∃ v Ri, vs[i]? = some v ∧ (∀ a, Ri a → R a) ∧ IsT K F H Ri v t ∧ ∀ a0, v = .ref a0 → IsTs K F H (fun b => R b ∧ ¬ Ri b) vs (ts.set i (.hole a0))
  | _, _, _, _, _, .nil, h => by simp at h
  | R, v :: vs, t0 :: ts, 0, t, .cons (R1 := R1) (R2 := R2) j1 j2 d h r, e => by
    cases e
    exact ⟨v, R1, rfl, j1, h, fun a0 ea => by
      subst ea
      exact .cons (R1 := Rg0) (R2 := R2) (fun _ z => z.elim) (fun a z => ⟨j2 a z, fun y => d a y z⟩) (fun _ z => z.elim) .hole r⟩
  | R, v :: vs, t0 :: ts, i + 1, t, .cons (R1 := R1) (R2 := R2) j1 j2 d h r, e => by
    obtain ⟨w, Ri, e1, s1, h1, k1⟩ := IsTs.take (i := i) r (by simpa using e)
    refine ⟨w, Ri, by simpa using e1, fun a z => j2 a (s1 a z), h1, fun a0 ea => ?_⟩
    exact .cons (R1 := R1) (R2 := fun b => R2 b ∧ ¬ Ri b) (fun a z => ⟨j1 a z, fun y => d a z (s1 a y)⟩) (fun a z => ⟨j2 a z.1, z.2⟩) (fun a z y => d a z y.1) h (k1 a0 ea)
/-- the name j's region shrinks -/
theorem Rel.shrink (r : Rel K pv F H σ env B) (g : gt env j = some u) (e : σ[j]? = some (some w)) (hs : ∀ a, R a → B j a) (it : IsT K F H R w u') :
    Rel K pv F H σ (st env j u') (fun k => if k = j then R else B k) := by
  have cs : ∀ k a, (if k = j then R else B k) a → B k a := fun k a h => by
    by_cases z : k = j
    · subst z; rw [if_pos rfl] at h; exact hs a h
    · rw [if_neg z] at h; exact h
  refine ⟨r.sub, by rw [st_eq, List.length_set]; exact r.len, fun k x h => ?_, fun k l a h1 h2 => r.dis k l a (cs _ _ h1) (cs _ _ h2), fun k a h => r.off k a (cs _ _ h), fun k a h => r.live k a (cs _ _ h), r.fix, r.tp⟩
  rw [st_eq] at h
  by_cases z : k = j
  · subst z
    rw [List.getElem?_set] at h
    split at h
    · split at h
      · cases h
        refine ⟨w, e, ?_⟩
        show IsT K F H (if k = k then R else B k) w _
        rw [if_pos rfl]; exact it
      · cases h
    · rename_i n; exact absurd rfl n
  · rw [List.getElem?_set_ne (Ne.symm z)] at h
    obtain ⟨x', f1, f2⟩ := r.at_ k x h
    refine ⟨x', f1, ?_⟩
    show IsT K F H (if k = j then R else B k) x' x
    rw [if_neg z]; exact f2
theorem mapTo_is (hm : mapAt u = some (b, ks, ts)) (h : IsT K F H R w u) : IsT K F H R w (.map b ks ts) ∧ ∀ {H' R'} {x : T}, IsT K F H' R' w x → IsT K F H' R' w (mapTo u x) := by
  cases u with
  | map b' ks' ts' => cases hm; exact ⟨h, fun h => h⟩
  | at_ a' t' =>
    cases t' with
    | map b' ks' ts' =>
      cases hm
      cases h with
      | at_ h => exact ⟨h, fun h => .at_ h⟩
    | fz _ => cases hm
    | lst _ => cases hm
    | ins _ _ => cases hm
    | hole _ => cases hm
    | at_ _ _ => cases hm
  | fz _ => cases hm
  | lst _ => cases hm
  | ins _ _ => cases hm
  | hole _ => cases hm
/-- a part of a dict is taken out -/
theorem Rel.outMap (r : Rel K pv F H σ env B) (g : gt env j = some u) (e : σ[j]? = some (some w)) (hm : mapAt u = some (b, ks, ts)) (ht : ts[n]? = some t0) (hf : t0.isFz = false) :
    ∃ a ad kvs Ri B2, w = .ref ad ∧ H ad = some (mO b kvs) ∧ kvs.map (·.1) = ks ∧ kO b ks ∧ (kvs.map (·.2))[n]? = some (.ref a) ∧ Rel K pv F H σ (st env j (mapTo u (.map b ks (ts.set n (.hole a))))) B2 ∧ OwnV K F H B2 Ri (.ref a) (.at_ a t0) ∧ ∀ c, Ru (U B2) Ri c → U B c := by
  obtain ⟨w', e1, e2⟩ := r.at_ j _ (gt_some g)
  rw [e] at e1; cases e1
  obtain ⟨h, wrap⟩ := mapTo_is hm e2
  cases h with
  | @map _ R' ad _ kvs _ _ ra ha he ko nn jj hs =>
    obtain ⟨v, Ri, ev, si, hi, k⟩ := hs.take ht
    obtain ⟨a, rfl⟩ := hi.isRef hf
    have it : IsT K F H (fun c => B j c ∧ ¬ Ri c) (.ref ad) (.map b ks (ts.set n (.hole a))) := .map (R' := fun c => R' c ∧ ¬ Ri c) ⟨ra, fun z => nn (si _ z)⟩ ha he ko (fun z => nn z.1) (fun c z => ⟨jj c z.1, z.2⟩) (k a rfl)
    refine ⟨a, ad, kvs, Ri, _, rfl, ha, he, ko, ev, r.shrink g e (fun c z => z.1) (wrap it), ⟨.at_ hi, fun i c z y => ?_, fun c z => r.off j c (jj c (si c z)), fun c z => r.live j c (jj c (si c z))⟩, fun c z => ?_⟩
    · by_cases q : i = j
      · rw [if_pos q] at y; exact y.2 z
      · rw [if_neg q] at y; exact q (r.dis i j c y (jj c (si c z)))
    · rcases z with ⟨i, z⟩ | z
      · by_cases q : i = j
        · rw [if_pos q] at z; exact ⟨j, z.1⟩
        · rw [if_neg q] at z; exact ⟨i, z⟩
      · exact ⟨j, jj c (si c z)⟩
end
def wSd (j : Nat) (ok : WO) (wf : WE) : WE := fun env P => (∃ u x, gt env j = some u ∧ mapAt u = some x) ∧ ok env fun c e2 => wf e2 fun t e3 => match rs e3 c, gt e3 j with
  | some x, some u => match mapAt u with
    | some (b, ks, ts) => match keyD b x with
      | some y => (ks.length < sizeLine ∧ ts.length = ks.length) ∧ match dgt ks ts y with
        | some (.fz d) => P (.fz d) e3
        | some t0 => ∀ a : Addr, P (.at_ a t0) (st e3 j (mapTo u (.map b ks (ts.set (kix ks y) (.hole a)))))
        | none => match t with
          | .fz d => P (.fz d) (st e3 j (mapTo u (.map b (kput ks y) (vput ks ts y (.fz d)))))
          | t => ∀ a : Addr, P (.at_ a t) (st e3 j (mapTo u (.map b (kput ks y) (vput ks ts y (.hole a)))))
      | none => False
    | none => False
  | _, _ => False
section
variable {X : Cx} {pm : List Bool} {e f : Expr} {x : Str} {npos apos cpos : Pos} {oe : WO} {wf : WE}
theorem ze_sd (j : Nat) (hu : X.A.units + 64 < cLine) (he : ZO X pm e oe) (hf : ZE X pm f wf) (hN : X.N[j]? = some x := by rfl) (hv : Vis X.env.scope x := by first | exact Or.inl rfl | exact Or.inr (Or.inl rfl) | exact Or.inr (Or.inr rfl)) (hd : (x == ("__debug__" : Str)) = false := by decide)
    (hcd : (x == ("__classdict__" : Str)) = false := by decide) (m : M2 X (.Name x npos) "setdefault" apos e f cpos := by exact ⟨rfl, rfl, rfl, rfl⟩) : ZE X pm (.Call (.Attribute (.Name x npos) "setdefault" apos) [e, f] [] cpos) (wSd j oe wf) :=
  pe_imp (pe_sd (by omega) (pe_var hN hv hd hcd) he hf m) fun σ H Q ⟨pv, F, B, env, P, mk, rel, hw, hq⟩ => by
  obtain ⟨⟨u0, x0, g0, m0⟩, hw⟩ := hw
  obtain ⟨v0, ev, iv⟩ := rel.at_ j _ (gt_some g0)
  obtain ⟨b0, ks0, ts0⟩ := x0
  obtain ⟨ad, rfl, isd⟩ : ∃ ad, v0 = .ref ad ∧ L2.IsD H ad := by
    obtain ⟨h, _⟩ := mapTo_is m0 iv
    cases h with
    | @map _ _ a _ kvs _ _ ra ha he ko nn jj hs =>
      refine ⟨a, rfl, ?_⟩
      cases b0
      · exact .inl ⟨_, .inl ha⟩
      · exact .inr ⟨_, .inl ha⟩
  refine ⟨_, ev, ad, rfl, isd, pv, F, B, env, _, mk, rel, hw, fun c e2 h2 F2 H2 B2 uk s2 r2 i2 => ⟨pv, F2, B2, e2, _, mk, r2, h2, fun t e3 h3 F3 H3 B3 R3 z s3 r3 o3 => ?_⟩⟩
  have i2' := i2.mono s3.le
  cases qc : rs e3 c with
  | none => simp only [qc] at h3
  | some x =>
    cases g : gt e3 j with
    | none => simp only [qc, g] at h3
    | some u =>
      simp only [qc, g] at h3
      cases hm : mapAt u with
      | none => simp only [hm] at h3
      | some bkt =>
        obtain ⟨b, ks, ts⟩ := bkt
        simp only [hm] at h3
        cases hk : keyD b x with
        | none => simp only [hk] at h3
        | some y =>
          simp only [hk] at h3
          obtain ⟨⟨hz, htl⟩, h3⟩ := h3
          have ka := (r3.pk i2' qc).key r3.sub hk
          obtain ⟨w', e1, e2'⟩ := r3.at_ j _ (gt_some g)
          rw [ev] at e1; cases e1
          obtain ⟨hmap, _⟩ := mapTo_is hm e2'
          obtain ⟨kvs, ha, hks, ko, hsl, hlen⟩ : ∃ kvs, H3 ad = some (mO b kvs) ∧ kvs.map (·.1) = ks ∧ kO b ks ∧ (∀ d, dgt ks ts y = some (.fz d) → ∃ v, valV kvs y = some v ∧ Zl.IsD X.K F3 v d) ∧ kvs.length = ts.length := by
            cases hmap with
            | @map _ R' _ _ kvs _ _ ra ha he ko nn jj hs =>
              refine ⟨kvs, ha, he, ko, fun d hd => ?_, by have := hs.length; rwa [List.length_map] at this⟩
              obtain ⟨v, Ri, e5, _, h5, _⟩ := hs.upd hd
              refine ⟨v, by rw [valV_ix, he]; exact e5, ?_⟩
              cases h5 with
              | fz h => exact h
          have g' : DGet H3 ad uk (valV kvs y) := dget_mO (.inl ha) (by rw [hks]; exact ko) ka
          have vix : valV kvs y = (kvs.map (·.2))[kix ks y]? := by rw [valV_ix, hks]
          have st3 : Step F H (U B) F3 H3 (Ru (U B3) R3) := s2.trans s3
          cases ed : dgt ks ts y with
          | some t0 =>
            have hne : valV kvs y ≠ none := by
              rw [vix]
              have hl := (List.getElem?_eq_some_iff.mp ed).1
              rw [List.getElem?_eq_getElem (by rw [List.length_map, hlen]; exact hl)]
              simp
            by_cases hf : t0.isFz = true
            · cases t0 <;> try (cases hf; done)
              rename_i d
              simp only [ed] at h3
              obtain ⟨v, e5, e6⟩ := hsl d ed
              refine ⟨_, g', fun v' hv' => ?_, fun hn => absurd hn hne⟩
              rw [e5] at hv'; cases hv'
              exact hq _ _ h3 F3 H3 B3 Rg0 v st3.l.r0 r3 (OwnV.fz e6)
            · have hf : t0.isFz = false := by cases q : t0.isFz with | true => exact absurd q hf | false => rfl
              have h3 : ∀ a : Addr, P (.at_ a t0) (st e3 j (mapTo u (.map b ks (ts.set (kix ks y) (.hole a))))) := by
                cases t0 <;> first
                  | (cases hf; done)
                  | (simp only [ed] at h3; exact h3)
              obtain ⟨a, ad', kvs', Ri, B4, ew, ha', _, _, ea, r4, o4, sb⟩ := r3.outMap g ev hm ed hf
              cases ew
              rw [ha] at ha'
              have ev2 := mO_vals (Option.some.inj ha')
              refine ⟨_, g', fun v' hv' => ?_, fun hn => absurd hn hne⟩
              rw [vix, ev2, ea] at hv'
              cases hv'
              exact hq _ _ (h3 a) F3 H3 B4 Ri _ (st3.l.less sb) r4 o4
          | none =>
            have hno : valV kvs y = none := by
              rw [vix, List.getElem?_eq_none]
              have := List.getElem?_eq_none_iff.mp ed
              rw [List.length_map, hlen]; exact this
            refine ⟨_, g', fun v' hv' => (by rw [hno] at hv'; cases hv'), fun _ => ?_⟩
            by_cases hf : t.isFz = true
            · cases t <;> try (cases hf; done)
              rename_i d
              simp only [ed] at h3
              obtain ⟨ad', H', B4, ew, dp, r4, s4⟩ := r3.putMap o3 g ev hm ka hz
              cases ew
              cases o3.is with
              | fz hd => exact ⟨H', dp, hq _ _ h3 F3 H' B4 Rg0 z (st3.trans s4).r0 r4 (OwnV.fz hd)⟩
            · have hf : t.isFz = false := by cases q : t.isFz with | true => exact absurd q hf | false => rfl
              have h3 : ∀ a : Addr, P (.at_ a t) (st e3 j (mapTo u (.map b (kput ks y) (vput ks ts y (.hole a))))) := by
                cases t <;> first
                  | (cases hf; done)
                  | (simp only [ed] at h3; exact h3)
              obtain ⟨a, rfl⟩ := o3.is.isRef hf
              have oh : OwnV X.K F3 H3 B3 Rg0 (.ref a) (.hole a) := ⟨.hole, fun _ _ z => z.elim, fun _ z => z.elim, fun _ z => z.elim⟩
              obtain ⟨ad', H', B4, ew, dp, r4, s4⟩ := r3.putMap oh g ev hm ka hz
              cases ew
              have s4' : Step F3 H3 (U B3) F3 H' (U B4) := s4.more fun a z => z.elim id False.elim
              have o4 := o3.on s4'
              refine ⟨H', dp, hq _ _ (h3 a) F3 H' B4 R3 _ (st3.beside (fun a z => ⟨fun ⟨i, y⟩ => o3.dis i a z y, o3.live a z, o3.off a z⟩) s4') r4 ⟨.at_ o4.is, o4.dis, o4.off, o4.live⟩⟩
end
/-! ### a part given back -/
inductive Fill (a : Addr) (t : T) : T → T → Prop
  | here : Fill a t (.hole a) t
  | map {b : Bool} {ks : List (List Key)} {ts : List T} {x x' : T} (n : Nat) : ts[n]? = some x → Fill a t x x' → Fill a t (.map b ks ts) (.map b ks (ts.set n x'))
  | ins {c : Cd} {ts : List T} {x x' : T} (n : Nat) : ts[n]? = some x → Fill a t x x' → Fill a t (.ins c ts) (.ins c (ts.set n x'))
  | at_ {q : Addr} {x x' : T} : Fill a t x x' → Fill a t (.at_ q x) (.at_ q x')
section
variable {K : PySem.W.Frag} {pv : List (Option V)} {F H : Hp} {σ : L2.St} {env : Ev} {B : Nat → Rg} {R R2 : Rg} {v w : V} {t u u' x x' : T} {i j : Nat} {a : Addr}
theorem IsTs.fill {P : T → Prop} (step : ∀ {R : Rg} {w : V}, IsT K F H R w x → (∀ b, R2 b → R b → False) → IsT K F H (Ru R R2) w x') : ∀ {R : Rg} {vs : List V} {ts : List T} {n : Nat}, IsTs K F H R vs ts → ts[n]? = some x → (∀ b, R2 b → R b → False) → IsTs K F H (Ru R R2) vs (ts.set n x')
  | _, _, _, _, .nil, h, _ => by simp at h
  | R, v :: vs, t0 :: ts, 0, .cons (R1 := R1) (R2 := R3) j1 j2 d h r, e, dd => by
    cases e
    exact .cons (R1 := Ru R1 R2) (R2 := R3) (fun b z => z.imp (j1 b) id) (fun b z => .inl (j2 b z)) (fun b z y => z.elim (fun z => d b z y) fun z => dd b z (j2 b y)) (step h fun b z y => dd b z (j1 b y)) r
  | R, v :: vs, t0 :: ts, n + 1, .cons (R1 := R1) (R2 := R3) j1 j2 d h r, e, dd => by
    exact .cons (R1 := R1) (R2 := Ru R3 R2) (fun b z => .inl (j1 b z)) (fun b z => z.imp (j2 b) id) (fun b z y => y.elim (d b z) fun y => dd b y (j1 b z)) h (IsTs.fill (P := P) step r (by simpa using e) fun b z y => dd b z (j2 b y))
theorem IsT.fill (ht : IsT K F H R2 (.ref a) t) (f : Fill a t u u') : ∀ {R : Rg} {w : V}, IsT K F H R w u → (∀ b, R2 b → R b → False) → IsT K F H (Ru R R2) w u' := by
  induction f with
  | here =>
    intro R w h dd
    cases h
    exact ht.mono (Same.refl _) (fun _ _ _ q => q) fun _ z => .inr z
  | @map b ks ts x x' n e _ ih =>
    intro R w h dd
    cases h with
    | @map _ R' ad _ kvs _ _ ra ha he ko nn jj hs =>
      exact .map (R' := Ru R' R2) (.inl ra) ha he ko (fun z => z.elim nn fun z => dd ad z ra) (fun c z => z.imp (jj c) id) (IsTs.fill (P := fun _ => True) ih hs e fun c z y => dd c z (jj c y))
  | @ins c ts x x' n e _ ih =>
    intro R w h dd
    cases h with
    | @ins _ R' ad dx _ vs _ ra ha hl nn jj hs =>
      exact .ins (R' := Ru R' R2) (.inl ra) ha hl (fun z => z.elim nn fun z => dd ad z ra) (fun c z => z.imp (jj c) id) (IsTs.fill (P := fun _ => True) ih hs e fun c z y => dd c z (jj c y))
  | at_ _ ih =>
    intro R w h dd
    cases h with
    | at_ h => exact .at_ (ih h dd)
/-- name j's part is given back to what the name i holds -/
theorem Rel.give (r : Rel K pv F H σ env B) (gj : gt env j = some (.at_ a t)) (gi : gt env i = some u) (hij : i ≠ j) (f : Fill a t u u') : ∃ B2, Rel K pv F H σ (st (cl env j) i u') B2 ∧ Step F H (U B) F H (U B2) := by
  obtain ⟨v, e1, r1, o1, s1⟩ := r.take gj
  have gi' : gt (cl env j) i = some u := by
    have : ∀ (l : Ev) (i j : Nat), i ≠ j → gt (cl l j) i = gt l i := by
      intro l
      induction l with
      | nil => intro i j _; rfl
      | cons o r ih =>
        intro i j h
        cases i <;> cases j
        · exact absurd rfl h
        · rfl
        · rfl
        · exact ih _ _ (by omega)
    rw [this _ _ _ hij]; exact gi
  obtain ⟨w, e2, it⟩ := r1.at_ i _ (gt_some gi')
  have ov := o1.is
  cases ov with
  | at_ ht =>
    have it2 := IsT.fill ht f it (fun b z y => o1.dis i b z y)
    obtain ⟨B2, r2, s2⟩ := r1.join (H' := H) ⟨.at_ ht, o1.dis, o1.off, o1.live⟩ gi' e2 (fun _ _ _ q => q) (fun _ q => q) r.sub r.tp it2
    exact ⟨B2, r2, s2.more s1⟩
end
/-- something that changes no object follows the statement -/
def wAft (w : WS) (g : Ev → (Ev → Prop) → Prop) : WS := fun E env => w { E with nx := fun e => g e E.nx } env
def gGive (j i : Nat) : Ev → (Ev → Prop) → Prop := fun env P => match gt env j, gt env i with
  | some (.at_ a t), some u => i ≠ j ∧ ∃ u', Fill a t u u' ∧ P (st (cl env j) i u')
  | _, _ => False
theorem zs_give {X : Cx} {pm : List Bool} {s : Stmt} {w : WS} (j i : Nat) (h : ZS X pm s w) : ZS X pm s (wAft w (gGive j i)) := ps_imp h fun D σ H ⟨pv, F, B, env, E, m, rel, hw, cn⟩ =>
  ⟨pv, F, B, env, { E with nx := fun e => gGive j i e E.nx }, m, rel, hw, ⟨fun e F' H' σ' B' h st r => by
    have h : (match gt e j, gt e i with | some (.at_ a t), some u => i ≠ j ∧ ∃ u', Fill a t u u' ∧ E.nx (Zl.st (cl e j) i u') | _, _ => False) := h
    cases gj : gt e j with
    | none => simp only [gj] at h
    | some tj =>
      cases gi : gt e i with
      | none => cases tj <;> simp only [gj, gi] at h
      | some u =>
        cases tj <;> try (simp only [gj, gi] at h; done)
        simp only [gj, gi] at h
        obtain ⟨hij, u', f, h⟩ := h
        obtain ⟨B2, r2, s2⟩ := r.give gj gi hij f
        exact cn.nx _ F' H' σ' B2 h (st.trans s2) r2, cn.rt, cn.bk, cn.ct⟩⟩
end Zl

/-! Dict comprehensions, whatever the keys. -/
namespace Zl
open PySem PySem.Spec PyProof.Rows L2
section
variable {X : Cx}
/-- a comprehension's store -/
theorem d_storeG {pins : List (Addr × Obj)} {σ : L2.St} {H H' : Hp} {s : Shared} {E : Value → Shared → Prop} {D : Addr} {y v : V} {u r : Value} {Q : Unit → Shared → Prop} (hu : X.A.units + 1 < cLine) (I : Inv X pins σ H s) (g : DPut H D y v H')
    (ry : RelV y u) (rv : RelV v r) (k : ∀ s', Inv X pins σ H' s' → Q () s') : wpAny (model X.prog X.w) X.A (dictSet D u r) Q E s := by
  rcases g with ⟨kvs, kk, hD, rfl, hz, rfl⟩ | ⟨kvs, kk, b, hD, rfl, hb, hz, rfl⟩
  · exact d_dictSet I hD hz ry rv k
  · obtain rfl : u = Value.ref b := ry
    obtain ⟨zl, nsys, xs, kt, dd⟩ := dt_of I.hok hD
    have xl : xs.length ≤ sizeLine := by rw [← Paired.length kt]; exact zl
    refine wpAny_dictSet_heap (hsz := xl) (show X.A.units < cLine by omega) (key_of I.hok hb) dd fun h' dd' same => k _ ?_
    obtain ⟨q, es, ep, hq, f2, f3, f4, _, f5⟩ := dd'
    refine d_write I (by rw [hD]; exact True.intro) same ⟨q, hq⟩ ⟨by have := length_putK kvs kk v; omega, nsys, _, (kt.put kk hb rv).keeps fun c ys ec => ?_, q, es, ep, hq, f2, f3, f4, f5⟩
    rw [upd_ne (ne_of ec hD (fun z => nomatch z))]; exact ec
/-- what a dict comprehension asks; b: tuples as keys -/
def tDcG (b : Bool) (wi : TI) (g : TG) (tt : TT) (tk tv : TE) (vs : List Nat) : TE := fun σ H Q => wi σ H fun J H1 => ∀ D, H1 D = none → ∃ W : Nat → Nat → Hp → Prop, (∃ m, W 0 m (upd H1 D (mO b []))) ∧ ∀ i m H, W i m H →
  (J.stop i H ∧ Q (.ref D) H) ∨ (J.go i H ∧ ∃ Nx : Hp → Prop, (∀ H', Nx H' → ∃ m', m' < m ∧ W (i + 1) m' H') ∧ ∀ x H', J.yld i H x H' → g x (wipe σ vs) H' fun σ2 H2 => wipe σ2 vs = wipe σ vs ∧ tt σ2 H2 fun c H3 =>
    if c = true then tk σ2 H3 fun y H4 => tv σ2 H4 fun z H5 => ∃ H6, DPut H5 D y z H6 ∧ Nx H6 else Nx H3)
theorem new_mO {P : Program} {w : World} {H : Hp} (b : Bool) (h : Heap) (hb : sysModules < h.objs.size) : ObjOk P w H (h.push { cls := .type "dict", data := .dict #[] }) h.objs.size (mO b []) := by
  cases b
  · exact dk_empty h hb
  · exact dt_empty h hb
theorem pe_dcG {kx vx tg iter : Expr} {ifs : List Expr} {scope : Scope} {own : List (Str × Nat)} {pos : Pos} {wi : TI} {g : TG} {tt : TT} {tk tv : TE} (b : Bool) (hu : X.A.units + 1 < cLine) (hc : X.calm = true) (hN : X.N.Nodup) (hi : PI X tg iter wi) (ok : BlkOk X.N X.env.scope scope own)
    (pgs : ∀ s H C cl fp, PG (X.blk s H scope (compEnvC scope cl C X.env) fp) tg g) (pts : ∀ s H C cl fp, PTs (X.blk s H scope (compEnvC scope cl C X.env) fp) ifs tt)
    (pks : ∀ s H C cl fp, PE (X.blk s H scope (compEnvC scope cl C X.env) fp) kx tk) (pvs : ∀ s H C cl fp, PE (X.blk s H scope (compEnvC scope cl C X.env) fp) vx tv) (hs : ∀ x, foldedSetIterable iter X.env x = pure x := by intro _; rfl) :
    PE X (.DictComp kx vx [⟨tg, iter, ifs, 0⟩] scope pos) (tDcG b wi g tt tk tv (own.map (·.2))) := ⟨fun pins s σ H Q I h => by
  rw [arm_eval_DictComp]
  have cells : ∀ y ∈ scope.names, y.2 = .free → ∃ c, X.env.cells.lookup y.1 = some c := fun y hy e => (ok.free y hy e).elim (fun k => I.ok.has _ (.inl k)) fun k => I.ok.has _ (.inr k)
  refine wpAny_comprehension_free (use := none) rfl hs (closure_ok cells) ok.kind (fun y hy e => by rw [ok.uniq y hy, e]) (thn (hi.run pins s σ H _ I h) fun xv s1 hx => thn hx fun itv s2 h2 => ?_)
  obtain ⟨it, fp, tn, J, H2, rfl, I2, T, at2, ff, q⟩ := h2
  refine wpAny_newObj_type (newEnv_comp ?_)
  generalize hD : s2.heap.objs.size = D
  obtain ⟨W, ⟨m0, w0⟩, turn⟩ := q D (I2.hok.fresh (Nat.le_of_eq hD))
  -- the new dict is laid
  generalize eS : ({ s2 with heap := s2.heap.push { cls := .type "dict", data := .dict #[] } } : Shared) = s3
  have heapS : s3.heap = s2.heap.push { cls := .type "dict", data := .dict #[] } := by rw [← eS]
  have IS : Inv X pins σ (upd H2 D (mO b [])) s3 := by
    rw [← eS]
    exact I2.laid (t' := s2.toks) (fun b o e => Heap.get?_push_of_some _ e) (Nat.le_of_eq hD) (by rw [← hD]; exact new_mO b s2.heap I2.big)
  have small : ∀ c ∈ fp, c < s2.heap.objs.size := fun c hc => by
    obtain ⟨o, e, _⟩ := T.obj _ _ at2 c hc
    exact Heap.lt_size e
  have fpS : ∀ c ∈ fp, FpOk X pins (upd H2 D (mO b [])) c ∧ c < s3.heap.objs.size := fun c hc => ⟨⟨by rw [upd_ne (by rw [← hD]; exact Nat.ne_of_lt (small c hc))]; exact (ff c hc).1, (ff c hc).2⟩, by rw [heapS, Heap.size_push]; exact Nat.lt_succ_of_lt (small c hc)⟩
  have atS : tn 0 s3.heap := T.keep _ _ _ at2 fun c _ o e => by rw [heapS]; exact Heap.get?_push_of_some _ e
  have IB := block_start IS ok hN fpS
  generalize ec : compEnvC scope (cellsFrom (s3.heap.objs.size + 1) scope.names (cloFrom X.env.cells scope.names [])) s3.heap.objs.size X.env = ce at IB
  have pg : PG (X.blk s3 (upd H2 D (mO b [])) scope ce fp) tg g := by rw [← ec]; exact pgs _ _ _ _ _
  have pt : PTs (X.blk s3 (upd H2 D (mO b [])) scope ce fp) ifs tt := by rw [← ec]; exact pts _ _ _ _ _
  have pk : PE (X.blk s3 (upd H2 D (mO b [])) scope ce fp) kx tk := by rw [← ec]; exact pks _ _ _ _ _
  have pv : PE (X.blk s3 (upd H2 D (mO b [])) scope ce fp) vx tv := by rw [← ec]; exact pvs _ _ _ _ _
  show codeAny _ _ (.compStart (.DictComp kx vx [⟨tg, iter, ifs, 0⟩] scope pos) 0 (.ref it) (.ref D) (compEnvC scope (cellsFrom (s3.heap.objs.size + 1) scope.names (cloFrom X.env.cells scope.names [])) s3.heap.objs.size X.env)) (compPost (model X.prog X.w) X.A X.xe none (EP X pins σ Q) (.ref D) s3.heap.objs.size) { s3 with heap := pushCells (s3.heap.push { cls := .type "dict", data := .dict #[] }) scope.names }
  rw [ec]
  have locs : ce.locals = s3.heap.objs.size := by rw [← ec]; rfl
  generalize eH : upd H2 D (mO b []) = HS at IS IB pg pt pk pv w0 fpS
  generalize eB : ({ s3 with heap := pushCells (s3.heap.push { cls := .type "dict", data := .dict #[] }) scope.names } : Shared) = s4 at IB ⊢
  have atB : tn 0 s4.heap := T.keep _ _ _ atS fun c _ o e => by rw [← eB]; exact pushCells_keeps _ _ _ _ (Heap.get?_push_of_some _ e)
  have still : ∀ {σ' : L2.St} {H' : Hp} {s' : Shared}, Inv (X.blk s3 HS scope ce fp) [] σ' H' s' → (∀ c ∈ fp, H' c = none) → ∀ c ∈ fp, FpOk (X.blk s3 HS scope ce fp) [] H' c := fun {σ' H' s'} I' hn c hc =>
    ⟨hn c hc, (I'.ok.exf c hc).1, I'.ok.exfs c hc, .inl hc, fun x d e => (I'.ok.exf c hc).2 x d e, fun p hp => absurd (show p ∈ ([] : List (Addr × Obj)) ++ [] from hp) (by simp)⟩
  refine codeAny_compStart_dict ?_ (T.self X.A 0 _ _ _ atB ?_)
  all_goals
    refine compLoop_anyD (fun n s' => ∃ i H', Inv (X.blk s3 HS scope ce fp) [] (wipe σ (own.map (·.2))) H' s' ∧ tn i s'.heap ∧ (∀ c ∈ fp, H' c = none) ∧ W i n H') ?_ m0 ⟨0, HS, IB, atB, fun c hc => (fpS c hc).1.1, w0⟩
    rintro n s5 ⟨i, H5, I5, at5, n5, w5⟩
    rcases turn i n H5 w5 with ⟨stop, qq⟩ | ⟨go, Nx, less, step⟩
    · refine thnF (T.done (X.blk s3 HS scope ce fp) rfl rfl rfl hc i [] s5 _ H5 (fun _ _ => False) I5 (still I5 n5) at5 stop) fun r s6 ⟨hr, I6⟩ => ?_
      subst hr
      have I7 : Inv X pins σ H5 s6 := IS.call' (ch := fp) I6.os I6.base I6.hok I6.bare fun c hc => ⟨(fpS c hc).1.2.2.2.1, (fpS c hc).1.2.1, (fpS c hc).1.2.2.2.2.1, (fpS c hc).1.2.2.2.2.2⟩
      have free : H5 s3.heap.objs.size = none := by
        have z : H5 ce.locals = none := I6.free
        rwa [locs] at z
      obtain ⟨m, hn, _⟩ := I6.loc
      have hn : s6.heap.Ns ce.locals m := hn
      rw [locs] at hn
      refine ⟨m, hn, fun h'' sb => ?_⟩
      obtain ⟨f0, f1, f2, f3, f4, f5⟩ := IS.fpOk (Nat.le_refl _) free
      exact ⟨.ref D, H5, I7.turned (t' := s6.toks) (fun c o hb e => (sb.2 c hb).trans e) f0 f1 f3 f4 f5, rfl, qq⟩
    · refine thnF (T.item (X.blk s3 HS scope ce fp) rfl rfl rfl hc i [] s5 _ H5 (fun _ _ => False) I5 (still I5 n5) at5 go) fun r s6 ⟨u, hr, h6⟩ => ?_
      subst hr
      refine thnF h6 fun _ s7 ⟨x, H7, I7, r7, y7, at7, n7⟩ => ?_
      have IP := I7.pinned (still I7 n7) (T.obj _ _ at7)
      refine thnF (pg.run _ s7 _ H7 x u _ IP r7 (step x H7 y7)) fun _ s8 ⟨σ8, H8, I8, wp8, q8⟩ => thnF (pt.run _ s8 σ8 H8 _ I8 q8) fun c s9 ⟨H9, I9, q9⟩ => ?_
      have close : ∀ {s' : Shared} {H' : Hp}, Inv (X.blk s3 HS scope ce fp) ([] ++ pinsAt fp s7.heap) σ8 H' s' → Nx H' → ∃ m, m < n ∧ ∃ i H', Inv (X.blk s3 HS scope ce fp) [] (wipe σ (own.map (·.2))) H' s' ∧ tn i s'.heap ∧ (∀ c ∈ fp, H' c = none) ∧ W i m H' := fun {s' H'} I' nx => by
        obtain ⟨m', hm, w'⟩ := less H' nx
        have kept : ∀ c ∈ fp, ∀ o, s7.heap.get? c = some o → s'.heap.get? c = some o ∧ H' c = none := fun c hc o e => by
          have z := I'.pin (c, o) (List.mem_append_right _ (List.mem_append_right _ (mem_pinsAt hc e)))
          exact ⟨z.1, z.2.1⟩
        refine ⟨m', hm, i + 1, H', (I'.unpinned (pins := [])).weak (by rw [← wp8, wipe_length]) (fun j v e => ?_), T.keep _ _ _ at7 fun c hc o e => (kept c hc o e).1, fun c hc => ?_, w'⟩
        · rw [← wp8] at e; exact (wipe_some e).1
        · obtain ⟨o, e, _⟩ := T.obj _ _ at7 c hc
          exact (kept c hc o e).2
      cases c with
      | false =>
        simp only [Bool.false_eq_true, if_false] at q9 ⊢
        exact close I9 q9
      | true =>
        simp only [if_true] at q9 ⊢
        refine thnF (pk.run _ s9 σ8 H9 _ I9 q9) fun z s10 ⟨yk, H10, I10, r10, q10⟩ => thnF (pv.run _ s10 σ8 H10 _ I10 q10) fun z2 s11 ⟨yv, H11, I11, r11, H12, dp, nx⟩ => ?_
        exact d_storeG (X := X.blk s3 HS scope ce fp) hu I11 dp r10 r11 fun s12 I12 => close I12 nx⟩
end
end Zl

namespace Zl
open PySem PySem.Spec PyProof.Rows L2
theorem IsDs.setA {K : PySem.W.Frag} {F : Hp} : ∀ {vs : List V} {ds : List D} {i : Nat} {v : V} {d : D}, IsDs K F vs ds → i ≤ ds.length → Zl.IsD K F v d → IsDs K F (Zl.setA vs i v) (Zl.setA ds i d)
  | _, _, 0, _, _, .nil, _, h => .cons h .nil
  | _, _, _ + 1, _, _, .nil, hl, _ => by simp at hl
  | _, _, 0, _, _, .cons _ r, _, h => .cons h r
  | _, _, i + 1, _, _, .cons q r, hl, h => .cons q (IsDs.setA r (by simpa using hl) h)
theorem IsTs.fzs {K : PySem.W.Frag} {F H : Hp} : ∀ {vs : List V} {ds : List D}, IsDs K F vs ds → IsTs K F H Rg0 vs (ds.map T.fz)
  | _, _, .nil => .nil
  | _, _, .cons h r => .cons (R1 := Rg0) (R2 := Rg0) (fun _ z => z) (fun _ z => z) (fun _ z => z.elim) (.fz h) (IsTs.fzs r)
def wDcL (b : Bool) (g : WG) (wt : WT) (wk : WO) (we : WE) (own : List Nat) (chk : Ev → Prop) : List D → List (List Key) → List D → (List (List Key) → List D → Ev → Prop) → Ev → Prop
  | [], ks, acc, k, env => chk env ∧ k ks acc env
  | d :: ds, ks, acc, k, env => chk env ∧ g d env fun e1 => wt e1 fun c e2 => (c = true → wk e2 fun a e3 => we e3 fun t e4 => match rs e4 a with
      | some x => match keyD b x with
        | some y => ks.length < sizeLine ∧ wDcL b g wt wk we own chk ds (kput ks y) (vput ks acc y t.fr) k (clsE e4 own)
        | none => False
      | none => False) ∧ (c = false → wDcL b g wt wk we own chk ds ks acc k (clsE e2 own))
/-- {k: v for ..} -/
def wDc (b : Bool) (own : List Nat) (wi : WI) (g : WG) (wt : WT) (wk : WO) (we : WE) : WE := fun env P => wi env fun items chk e1 => wDcL b g wt wk we own chk items [] [] (fun ks ds e => P (.map b ks (ds.map T.fz)) e) (clsE e1 own)
section
variable {X : Cx} {pm : List Bool} {kx vx tg iter : Expr} {ifs : List Expr} {scope : Scope} {own : List (Str × Nat)} {pos : Pos} {wi : WI} {g : WG} {wt : WT} {wk : WO} {we : WE} {ws : List Nat}
theorem tz_dc (b : Bool) (hm : ∀ i ∈ own.map (·.2), pm[i]? ≠ some true) (hws : ∀ i ∈ ws, i ∈ own.map (·.2)) {σ H Q} : TZ X pm (wDc b (own.map (·.2)) wi g wt wk we) σ H Q → tDcG b (TIz X pm wi) (TGz X pm ws g) (TTz X pm wt) (TOz X pm wk) (TZ X pm we) (own.map (·.2)) σ H Q := fun ⟨pv, F, B, env, P, m, rel, hw, hq⟩ => by
  generalize hvs : own.map (·.2) = vs at *
  refine ⟨pv, F, B, env, _, m, rel, hw, fun items chk e1 h1 F1 H1 B1 J s1 r1 fd D hD => ?_⟩
  -- the turn's state
  let Wz : Nat → Hp → Prop := fun i H' => ∃ F' B' env' acc ks kvs, Step F1 H1 (U B1) F' H' (Ru (U B') (fun a => a = D)) ∧ Same F1 F' ∧ Rel X.K pv F' H' (wipe σ vs) env' B' ∧ Aside F' H' (U B') D (mO b kvs) ∧ (kvs.map (·.1) = ks ∧ kO b ks ∧ IsDs X.K F' (kvs.map (·.2)) acc) ∧
    wDcL b g wt wk we vs chk (items.drop i) ks acc (fun ks ds e => P (.map b ks (ds.map T.fz)) e) env'
  refine ⟨fun i k H' => k = items.length - i ∧ i ≤ items.length ∧ Wz i H', ⟨_, rfl, Nat.zero_le _, ?_⟩, fun i k H' ⟨ek, hi, F', B', env', acc, ks, kvs, s', le', r', as', hacc, h'⟩ => ?_⟩
  · have al := Alloc.own (o := mO b []) r1.sub hD (mO_tup b [])
    obtain ⟨r2, s2, d2⟩ := r1.alloc al
    exact ⟨F1, B1, clsE e1 vs, [], [], [], s2, Same.refl _, r2.wipe m hm, ⟨upd_same, fun ⟨i, z⟩ => d2 i D rfl z, r1.none_of hD, mO_nt b []⟩, ⟨rfl, ⟨List.nodup_nil, fun _ _ h => nomatch h⟩, .nil⟩, h1⟩
  · by_cases hl : i < items.length
    · have ed : items.drop i = items[i] :: items.drop (i + 1) := List.drop_eq_getElem_cons hl
      have hx : items[i]? = some items[i] := List.getElem?_eq_getElem hl
      rw [ed] at h'
      obtain ⟨hc', h'⟩ := h'
      refine .inr ⟨fd.go i _ F' H' _ env' B' r' le' hc' hx, Wz (i + 1), fun H2 q => ⟨items.length - (i + 1), by omega, rfl, by omega, q⟩, fun x H2 y => ?_⟩
      obtain ⟨F2, al, hd⟩ := fd.yld i _ F' H' _ env' B' x H2 r' le' hc' hx y
      obtain ⟨r2, s2, _⟩ := r'.alloc al
      have s2 := s2.l
      have as2 := as'.on s2
      refine ⟨pv, F2, B', env', _, _, m, r2, hd, h', fun e3 h3 F3 H3 σ3 B3 w3 s3 r3 => ⟨wipe_wr w3 hws |>.trans ?_, ?_⟩⟩
      · -- wiping twice
        apply List.ext_getElem?
        intro j
        by_cases z : j ∈ vs
        · rw [wipe_in z, wipe_in z, wipe_length]
        · rw [wipe_get z]
      · have as3 := as2.on s3
        have wσ : wipe σ3 vs = wipe σ vs := by
          rw [wipe_wr w3 hws]
          apply List.ext_getElem?
          intro j
          by_cases z : j ∈ vs
          · rw [wipe_in z, wipe_in z, wipe_length]
          · rw [wipe_get z]
        -- what a state behind the turn comes to
        have comp : ∀ {F5 H5 H6 : Hp} {B5 : Nat → Rg} {o5 : HO}, Step F' H' (U B') F5 H5 (U B5) → Aside F5 H5 (U B5) D o5 → H6 = upd H5 D o5 ∨ (∃ o6, H6 = upd H5 D o6) → Step F1 H1 (U B1) F5 H6 (Ru (U B5) (fun a => a = D)) := fun {F5 H5 H6 B5 o5} st a5 hh => by
          have hk : ∀ a o, a ≠ D → H5 a = some o → H6 a = some o := fun a o n q => by
            rcases hh with rfl | ⟨o6, rfl⟩ <;> (rw [upd_ne n]; exact q)
          refine ⟨s'.le.trans st.le, fun a o q n nt => ?_, fun a q n => ?_, fun a h => ?_, fun a h => ?_⟩
          · have nD : a ≠ D := fun z => by rw [z, hD] at q; cases q
            have q' := s'.keep a o q n nt
            refine hk a o nD (st.keep a o q' (fun z => ?_) nt)
            rcases s'.fresh a (.inl z) with y | y
            · exact n y
            · rw [q] at y; cases y
          · have nD : a ≠ D := fun z => q (by rw [z, hD])
            have q' := st.lv a (s'.lv a q n) fun z => (s'.fresh a (.inl z)).elim n q
            obtain ⟨o, qo⟩ := Option.ne_none_iff_exists'.mp q'
            rw [hk a o nD qo]; simp
          · rcases h with h | h
            · rcases st.fresh a h with z | z
              · exact s'.fresh a (.inl z)
              · exact s'.gone z
            · exact .inr (by rw [h]; exact hD)
          · rcases st.newF a h with z | z | z
            · exact s'.newF a z
            · exact .inr (s'.fresh a (.inl z))
            · exact .inr (s'.gone z)
        refine ⟨pv, F3, B3, e3, _, m, r3, h3, fun b e4 h4 F4 H4 B4 s4 r4 => ?_⟩
        have as4 := as3.on s4
        have st4 := (s2.trans s3).trans s4
        cases b with
        | false =>
          refine iteF ?_
          refine ⟨F4, B4, clsE e4 vs, acc, ks, kvs, ?_, (le'.trans st4.le), by rw [← wσ]; exact r4.wipe m hm, as4, ⟨hacc.1, hacc.2.1, hacc.2.2.mono st4.le⟩, h4.2 rfl⟩
          have := comp (H6 := upd H4 D (mO b kvs)) st4 as4 (.inl rfl)
          have e : upd H4 D (mO b kvs) = H4 := by
            funext a
            by_cases z : a = D
            · rw [z, upd_same, as4.at_]
            · rw [upd_ne z]
          rwa [e] at this
        | true =>
          refine iteT ?_
          refine ⟨pv, F4, B4, e4, _, m, r4, h4.1 rfl, fun ak e5 h5 F5 H5 B5 y s5 r5 i5 => ⟨pv, F5, B5, e5, _, m, r5, h5, fun t e6 h6 F6 H6 B6 R6 v s6 r6 o6 => ?_⟩⟩
          obtain ⟨F7, r7, s7, d7⟩ := r6.freezeV o6
          have i7 := (i5.mono s6.le).mono s7.le
          cases qa : rs e6 ak with
          | none => simp only [qa] at h6
          | some x =>
            simp only [qa] at h6
            cases hk : keyD b x with
            | none => simp only [hk] at h6
            | some k =>
              simp only [hk] at h6
              have ka := (r7.pk i7 qa).key r7.sub hk
              have s67 : Step F5 H5 (U B5) F7 H6 (U B6) := s6.trans s7
              have as7 := (as4.on s5).on s67
              have st7 := (st4.trans s5).trans s67
              have dp := dput_mO (v := v) as7.at_ (by rw [hacc.1]; exact hacc.2.1) ka (by have := congrArg List.length hacc.1; rw [List.length_map] at this; rw [this]; exact h6.1)
              have hl := hacc.2.2.length
              have kl := kix_le (kvs.map (·.1)) k
              have kl2 : kvs.length = ks.length := by have := congrArg List.length hacc.1; rwa [List.length_map] at this
              rw [List.length_map] at hl kl
              have asN := (r7.aside as7 (o' := mO b (setA kvs (kix (kvs.map (·.1)) k) (k, v))) (mO_tup _ _) (mO_nt _ _))
              refine ⟨_, dp, F7, B6, clsE e6 vs, vput ks acc k t.fr, kput ks k, setA kvs (kix (kvs.map (·.1)) k) (k, v), comp st7 as7 (.inr ⟨_, rfl⟩), le'.trans st7.le, ?_, asN.2, ⟨?_, kput_ok hacc.2.1 ka.one, ?_⟩, h6.2⟩
              · rw [← wσ]
                exact asN.1.wipe m hm
              · rw [setA_map, hacc.1]
              · rw [setA_map, hacc.1]
                exact (hacc.2.2.mono st7.le).setA (by rw [← hacc.1]; omega) d7
    · have ei : i = items.length := by omega
      subst ei
      rw [List.drop_length] at h'
      obtain ⟨hc', h'⟩ := h'
      refine .inl ⟨fd.stop _ F' H' _ env' B' r' le' hc' (Nat.le_refl _), ?_⟩
      refine hq _ _ h' F' H' B' (fun a => a = D) _ (s1.trans s') r'.unwipe ⟨.map (R' := Rg0) rfl as'.at_ hacc.1 hacc.2.1 (fun z => z) (fun _ z => z.elim) (IsTs.fzs hacc.2.2), fun i a e z => as'.out ⟨i, by rw [← e]; exact z⟩, fun a e => by rw [e]; exact as'.off, fun a e => by rw [e, as'.at_]; simp⟩
theorem ze_dc (b : Bool) (hu : X.A.units + 64 < cLine) (hc : X.calm = true) (hN : X.N.Nodup) (hi : ZI X pm tg iter wi) (ok : BlkOk X.N X.env.scope scope own)
    (hg : ∀ s H C cl fp, PG (X.blk s H scope (compEnvC scope cl C X.env) fp) tg (TGz X pm ws g)) (ht : ∀ s H C cl fp, PTs (X.blk s H scope (compEnvC scope cl C X.env) fp) ifs (TTz X pm wt))
    (hk : ∀ s H C cl fp, PE (X.blk s H scope (compEnvC scope cl C X.env) fp) kx (TOz X pm wk)) (he : ∀ s H C cl fp, PE (X.blk s H scope (compEnvC scope cl C X.env) fp) vx (TZ X pm we)) (hm : ∀ i ∈ own.map (·.2), pm[i]? ≠ some true) (hws : ∀ i ∈ ws, i ∈ own.map (·.2)) (hs : ∀ x, foldedSetIterable iter X.env x = pure x := by intro _; rfl) :
    ZE X pm (.DictComp kx vx [⟨tg, iter, ifs, 0⟩] scope pos) (wDc b (own.map (·.2)) wi g wt wk we) := pe_imp (pe_dcG b (by omega) hc hN hi ok hg ht hk he hs) fun _ _ _ => tz_dc b hm hws
end
end Zl

/-! sorted of data. -/
namespace Zl
open PySem PySem.Spec PyProof.Rows L2
def sortD (ds : List D) : List D := ds.mergeSort (W.dataLe false D.py)
def rSortD (K : PySem.W.Frag) : List V → Hp → VK → Prop := fun xs H Q => ∃ (a : Addr) (vs : List V) (zs : List (V × PyData)), xs = [.ref a] ∧ SqL K H a vs ∧ zs.map (·.1) = vs ∧ (∀ z ∈ zs, Dp K H z.1 z.2 ∧ z.2.depth ≤ 60) ∧ W.AllAlike (zs.map (·.2)) ∧ W.Sortable (zs.map (·.2)) ∧
  ∀ p, H p = none → Q (.ref p) (upd H p (.lst ((zs.mergeSort (W.dataLe false (·.2))).map (·.1))))
theorem each_vals : ∀ {zs : List (V × PyData)} {its : List Value}, Vals (zs.map (·.1)) its → W.EachIs (fun (u : Value) (z : V × PyData) => RelV z.1 u) its zs
  | [], _, .nil => .nil
  | _ :: _, _, .cons h t => .cons h (each_vals t)
theorem vals_each : ∀ {zs : List (V × PyData)} {its : List Value}, W.EachIs (fun (u : Value) (z : V × PyData) => RelV z.1 u) its zs → Vals (zs.map (·.1)) its
  | _, _, .nil => .nil
  | _, _, .cons h t => .cons h (vals_each t)
theorem cr_sortD {X : Cx} (hu : X.A.units + 128 < cLine) : CallR X (.builtin "sorted") (rSortD X.K) := by
  intro pins s σ H xs us Q I r h
  obtain ⟨a, vs, zs, rfl, hs, ev, hd, hal, hk, q⟩ := h
  obtain rfl := Vals.ref1 r
  obtain ⟨its, rv, hl, hz⟩ := I.list hs
  have hlen : its.length = zs.length := by rw [← rv.length, ← ev, List.length_map]
  subst ev
  have each := each_vals rv
  have er : W.EachIs (fun (u : Value) (z : V × PyData) => ∃ as, Reads s.heap u z.2 as) its zs := by
    clear hal hk q hz hl hs hlen rv
    induction each with
    | nil => exact .nil
    | cons h t ih => exact .cons ((hd _ (List.mem_cons_self ..)).1.reads I _ _ _ h) (ih fun z hz => hd z (List.mem_cons_of_mem _ hz))
  refine W.sorted_data (R := fun (u : Value) (z : V × PyData) => RelV z.1 u) (enc := (·.2)) hl.isList each er hal hk (by rw [List.length_map] at hz; exact hz) (fun z hzm => by have := (hd z hzm).2; omega) fun out ho eo => ?_
  obtain ⟨ep, he⟩ := sortedAll_at s.heap its out.toArray
  have vout := vals_each eo
  have hzl : ((zs.mergeSort (W.dataLe false (·.2))).map (·.1)).length ≤ sizeLine := by
    rw [List.length_map, List.length_mergeSort]
    rw [List.length_map] at hz; exact hz
  exact ⟨.ref _, upd H (s.heap.objs.size + 1) (.lst ((zs.mergeSort (W.dataLe false (·.2))).map (·.1))), I.laid (t' := s.toks) (fun _ _ => sortedAll_old) (Nat.le_succ _) ⟨hzl, out, ep, vout, he⟩, rfl, q _ (I.hok.fresh (Nat.le_succ _))⟩
/-- may be sorted -/
structure SrtOk (ds : List D) : Prop where
  ok : ds.all (D.ok 59) = true
  alike : W.AllAlike (D.pys ds)
  sort : W.Sortable (D.pys ds)
def gSorted : List D → (T → Prop) → Prop
  | [.lst ds], k => SrtOk ds ∧ k (.lst (sortD ds))
  | _, _ => False
section
variable {K : PySem.W.Frag} {F H : Hp}
theorem pys_map : ∀ ds : List D, D.pys ds = ds.map D.py
  | [] => rfl
  | d :: ds => by show d.py :: D.pys ds = _; rw [pys_map ds]; rfl
theorem IsDs.zipMem : ∀ {vs : List V} {ds : List D}, IsDs K F vs ds → ∀ z ∈ vs.zip ds, Zl.IsD K F z.1 z.2
  | _, _, .nil, _, h => by simp at h
  | _, _, .cons h r, z, hz => by
    rw [List.zip_cons_cons] at hz
    rcases List.mem_cons.mp hz with e | e
    · rw [e]; exact h
    · exact r.zipMem z e
theorem IsDs.ofPairs : ∀ {zs : List (V × D)}, (∀ z ∈ zs, Zl.IsD K F z.1 z.2) → IsDs K F (zs.map (·.1)) (zs.map (·.2))
  | [], _ => .nil
  | z :: zs, h => .cons (h z (List.mem_cons_self ..)) (IsDs.ofPairs fun y hy => h y (List.mem_cons_of_mem _ hy))
theorem opn_sorted : OpN K (rSortD K) gSorted := ⟨fun F H vs ds P Q s hv h hq => by
  match ds, hv, h with
  | [.lst xs], hv, h =>
    obtain ⟨so, h⟩ := h
    obtain ⟨v, rfl, hk⟩ := hv.one
    obtain ⟨a, us, rfl, h1, d1⟩ := hk.lst1 s
    have l1 := d1.length
    have e1 : (us.zip xs).map (·.1) = us := List.map_fst_zip (by omega)
    have e2 : (us.zip xs).map (·.2) = xs := List.map_snd_zip (by omega)
    have ez : ((us.zip xs).map fun z => (z.1, z.2.py)).map (·.2) = D.pys xs := by
      rw [List.map_map, pys_map, ← e2, List.map_map]; simp [e2]
    refine ⟨a, us, (us.zip xs).map fun z => (z.1, z.2.py), rfl, SqL.of h1, by rw [List.map_map]; exact e1, fun z hz => ?_, by rw [ez]; exact so.alike, by rw [ez]; exact so.sort, fun p hp => ?_⟩
    · obtain ⟨y, hy, rfl⟩ := List.mem_map.mp hz
      have hm : y.2 ∈ xs := by rw [← e2]; exact List.mem_map.mpr ⟨y, hy, rfl⟩
      have ok := List.all_eq_true.mp so.ok _ hm
      exact ⟨ok_dp s 59 _ _ ok (d1.zipMem y hy), Nat.le_trans (D.ok_py 59 _ ok).2 (by decide)⟩
    · have es : (((us.zip xs).map fun z => (z.1, z.2.py)).mergeSort (W.dataLe false (·.2))).map (·.1) = ((us.zip xs).mergeSort (W.dataLe false fun z => z.2.py)).map (·.1) := by
        rw [← W.sort_maps (r := W.dataLe false fun z : V × D => z.2.py) (s := W.dataLe false (·.2)) (fun z : V × D => (z.1, z.2.py)) (fun _ _ _ _ => rfl), List.map_map]
        rfl
      have ed : sortD xs = ((us.zip xs).mergeSort (W.dataLe false fun z => z.2.py)).map (·.2) := by
        rw [W.sort_maps (r := W.dataLe false fun z : V × D => z.2.py) (s := W.dataLe false D.py) (fun z : V × D => z.2) (fun _ _ _ _ => rfl), e2]
        rfl
      rw [es]
      refine hq (.lst (sortD xs)) _ _ _ _ h (Alloc.own s hp) (.lst rfl upd_same ?_)
      rw [ed]
      exact IsDs.ofPairs fun z hz => d1.zipMem z (List.mem_mergeSort.mp hz)⟩
end
end Zl

/-! zip, index, list(d), in of tuples, targets within targets. -/
namespace Zl
open PySem PySem.Spec PyProof.Rows L2
/-! ### targets within targets -/
structure GsOk (n : Nat) (gs : WGs) : Prop where
  len : ∀ ds env P, gs ds env P → ds.length = n
  mono : ∀ ds env (P P' : Ev → Prop), gs ds env P → (∀ e, P e → P' e) → gs ds env P'
  ext : ∀ ds env (P : Prop), gs ds env (fun _ => P) → P
theorem gsk_nil : GsOk 0 zgNil := ⟨fun _ _ _ h => zgNil_len h, fun ds env P P' h k => by cases ds with | nil => exact k _ h | cons _ _ => exact h.elim, fun ds env P h => by cases ds with | nil => exact h | cons _ _ => exact h.elim⟩
theorem gsk_name {n i : Nat} {gs : WGs} (h : GsOk n gs) : GsOk (n + 1) (zgCons (zgName i) gs) where
  len := zgn_len h.len
  mono := fun ds env P P' q k => by
    cases ds with
    | nil => exact q.elim
    | cons d r => exact h.mono r _ P P' q k
  ext := fun ds env P q => by
    cases ds with
    | nil => exact q.elim
    | cons d r => exact h.ext r _ P q
theorem gsk_tup {n m : Nat} {gs gs' : WGs} (h' : GsOk m gs') (h : GsOk n gs) : GsOk (n + 1) (zgCons (zgTup gs') gs) where
  len := fun ds env P q => by
    cases ds with
    | nil => exact q.elim
    | cons d r =>
      cases d <;> first
        | exact q.elim
        | skip
      rename_i xs
      have q : gs' xs env fun e => gs r e P := q
      exact congrArg (· + 1) (h'.ext xs env (r.length = n) (h'.mono xs env _ _ q fun e z => h.len r e P z))
  mono := fun ds env P P' q k => by
    cases ds with
    | nil => exact q.elim
    | cons d r =>
      cases d <;> first
        | exact q.elim
        | skip
      rename_i xs
      exact h'.mono xs env _ _ (show gs' xs env fun e => gs r e P from q) fun e z => h.mono r e P P' z k
  ext := fun ds env P q => by
    cases ds with
    | nil => exact q.elim
    | cons d r =>
      cases d <;> first
        | exact q.elim
        | skip
      rename_i xs
      exact h'.ext xs env P (h'.mono xs env _ _ (show gs' xs env fun e => gs r e fun _ => P from q) fun e z => h.ext r e P z)
/-! ### list(x) -/
def rListA (K : PySem.W.Frag) : List V → Hp → VK → Prop := fun xs H Q => ((∃ p ys, xs = [V.ref p] ∧ (SqL K H p ys ∨ SqT K H p ys) ∧ ∀ l, H l = none → Q (V.ref l) (upd H l (.lst ys))) ∨ (∃ (a : Addr) (kvs : List (Key × V)), xs = [.ref a] ∧ Rd H a (.dK kvs) ∧ ∀ p, H p = none → Q (.ref p) (upd H p (.lst (kvs.map fun kv => kV kv.1))))) ∨
  (∃ d kvs, xs = [V.ref d] ∧ Rd H d (.dT kvs) ∧ ∀ p bs, H p = none → IsKeys H kvs bs → Q (.ref p) (upd H p (.lst (bs.map V.ref))))
theorem cr_listA {X : Cx} (hc : X.calm = true) : CallR X (.type "list") (rListA X.K) := (call_list_of.or (call_listD hc)).or (call_list_dT hc)
section
variable {K : PySem.W.Frag} {F H : Hp}
theorem kD1K_is {kvs : List (List Key × V)} (ko : kO false (kvs.map (·.1))) : IsDs K F ((kvs.map hdp).map fun kv => kV kv.1) ((kvs.map (·.1)).map (kDt false)) := by
  clear ko
  induction kvs with
  | nil => exact .nil
  | cons p r ih => exact .cons (kD1_is _) ih
theorem kD1T_is : ∀ {kvs : List (List Key × V)} {bs : List Addr}, Tq F H → IsKeys H kvs bs → IsDs K F (bs.map V.ref) ((kvs.map (·.1)).map (kDt true))
  | _, _, _, .nil => .nil
  | _, _, tq, .cons h t => .cons (.tup (tq.tup _ _ h) (kD1s_is _)) (kD1T_is tq t)
end
/-- list(d), d a dict; list(x) -/
def wList (o : WO) : WE := fun env P => o env fun a e1 => match rs e1 a with
  | some (.map b _ ks _) => P (.lst (ks.map (kDt b))) e1
  | some d => gList [d] fun z => P z e1
  | none => False
section
variable {X : Cx} {pm : List Bool} {e : Expr} {o : WO} {p pos : Pos}
theorem ze_list (hc : X.calm = true) (hg : Gl X "list") (hm : X.mg "list" = none) (ho : ZO X pm e o)
    (he : starEach [e] X.env = (false, eval e X.env) :: starEach [] X.env := by rfl) (hpl : (backTo pos (starEach ([] : List Expr) X.env)).any (·.1) = false := by rfl) : ZE X pm (.Call (.Name "list" p) [e] [] pos) (wList o) :=
  pe_imp (pe_callTy (cr_listA hc) hg hm (by decide +kernel) (pa_cons ho pa_nil he) (by decide) (by decide) he hpl) fun σ H Q ⟨pv, F, B, env, P, m, rel, hw, hq⟩ => by
  refine ⟨pv, F, B, env, _, m, rel, hw, fun a e1 h1 F1 H1 B1 v s1 r1 i1 => ?_⟩
  show rListA X.K [v] H1 Q
  have h1 : (match rs e1 a with | some (.map b _ ks _) => P (.lst (ks.map (kDt b))) e1 | some d => gList [d] fun z => P z e1 | none => False) := h1
  cases qa : rs e1 a with
  | none => rw [qa] at h1; exact h1.elim
  | some d =>
    have pk := r1.pk i1 qa
    have go : (∀ b l ks ds, d ≠ .map b l ks ds) → rListA X.K [v] H1 Q := fun nm => by
      have h2 : gList [d] fun z => P z e1 := by
        rw [qa] at h1
        cases d <;> first
          | exact h1
          | exact absurd rfl (nm _ _ _ _)
      refine .inl (.inl (opn_list.run F1 H1 [v] [d] _ _ r1.sub (.cons pk .nil) h2 fun z w' F3 H3 R3 hz al it => ?_))
      obtain ⟨r3, s3, d3⟩ := r1.alloc al
      exact hq z e1 hz F3 H3 B1 R3 w' (s1.trans s3) r3 (r1.own al it)
    by_cases hmap : ∃ b l ks ds, d = .map b l ks ds
    · obtain ⟨b, l, ks, ds, rfl⟩ := hmap
      rw [qa] at h1
      have h1 : P (.lst (ks.map (kDt b))) e1 := h1
      obtain ⟨ad, kvs, ev, rd, ko, ek⟩ : ∃ ad kvs, v = .ref ad ∧ Rd H1 ad (mO b kvs) ∧ kO b ks ∧ kvs.map (·.1) = ks := by
        cases pk with
        | d h => cases h with | map hf he ko _ => exact ⟨_, _, rfl, Rd.lO (r1.sub _ _ hf), ko, he⟩
        | map hf he ko _ => exact ⟨_, _, rfl, .inl hf, ko, he⟩
      subst ev ek
      have fin : ∀ (us : List V), IsDs X.K F1 us ((kvs.map (·.1)).map (kDt b)) → ∀ q, H1 q = none → Q (.ref q) (upd H1 q (.lst us)) := fun us hd q hn => by
        have al := Alloc.own (o := .lst us) r1.sub hn
        obtain ⟨r3, s3, d3⟩ := r1.alloc al
        exact hq _ e1 h1 _ _ B1 _ _ (s1.trans s3) r3 (r1.own al (.lst rfl upd_same hd))
      cases b with
      | false => exact .inl (.inr ⟨ad, kvs.map hdp, rfl, rd, fun q hn => fin _ (kD1K_is ko) q hn⟩)
      | true => exact .inr ⟨ad, kvs, rfl, rd, fun q bs hn hk => fin _ (kD1T_is r1.tp hk) q hn⟩
    · exact go fun b l ks ds e => hmap ⟨b, l, ks, ds, e⟩
end
end Zl

namespace Zl
open PySem PySem.Spec PyProof.Rows L2 RZ
/-! ### zip -/
def seqL : D → Option (List D)
  | .lst ds => some ds
  | .rol ds => some ds
  | _ => none
def seqT : D → Option (List D)
  | .tup ds => some ds
  | .rot ds => some ds
  | _ => none
def zipD (xs ys : List D) : List D := (xs.zip ys).map fun p => .tup [p.1, p.2]
def wiZip (wa : WA) : WI := fun env P => wa env fun as e => match as with
  | [.inl x, .inl y] => match seqL x, seqL y with
    | some xs, some ys => P (zipD xs ys) (fun _ => True) e
    | _, _ => match seqT x, seqT y with
      | some xs, some ys => P (zipD xs ys) (fun _ => True) e
      | _, _ => False
  | _ => False
section
variable {X : Cx} {pm : List Bool} {K : PySem.W.Frag} {pv : List (Option V)} {F1 F H : Hp}
theorem IsD.seqL {v : V} {x : D} {xs : List D} (h : Zl.IsD K F v x) (e : Zl.seqL x = some xs) : ∃ a vs, v = .ref a ∧ (∀ {F' H'}, Same F F' → Same F' H' → SqL K H' a vs) ∧ IsDs K F vs xs := by
  cases x <;> cases e
  · cases h with | lst hf hr => exact ⟨_, _, rfl, fun s t => SqL.of (t _ _ (s _ _ hf)), hr⟩
  · cases h with | rol hf hr => exact ⟨_, _, rfl, fun s t => Same.seq t (Same.seq s hf), hr⟩
theorem IsD.seqT {v : V} {x : D} {xs : List D} (h : Zl.IsD K F v x) (e : Zl.seqT x = some xs) : ∃ a vs, v = .ref a ∧ (∀ {F' H'}, Same F F' → Same F' H' → SqT K H' a vs) ∧ IsDs K F vs xs := by
  cases x <;> cases e
  · cases h with | tup hf hr => exact ⟨_, _, rfl, fun s t => SqT.of (t _ _ (s _ _ hf)), hr⟩
  · cases h with | rot hf hr => exact ⟨_, _, rfl, fun s t => Same.sqT t (Same.sqT s hf), hr⟩
theorem zip_get {vs us : List V} {xs ys : List D} (h1 : IsDs K F vs xs) (h2 : IsDs K F us ys) {i : Nat} {d : D} (e : (zipD xs ys)[i]? = some d) : ∃ v u x y, vs[i]? = some v ∧ us[i]? = some u ∧ d = .tup [x, y] ∧ Zl.IsD K F v x ∧ Zl.IsD K F u y := by
  unfold zipD at e
  rw [List.getElem?_map] at e
  cases q : (xs.zip ys)[i]? with
  | none => rw [q] at e; cases e
  | some p =>
    rw [q] at e
    cases e
    rw [List.getElem?_zip_eq_some] at q
    obtain ⟨v, e1, d1⟩ := h1.get q.1
    obtain ⟨u, e2, d2⟩ := h2.get q.2
    exact ⟨v, u, _, _, e1, e2, rfl, d1, d2⟩
theorem zip_len {vs us : List V} {xs ys : List D} (h1 : IsDs K F vs xs) (h2 : IsDs K F us ys) {i : Nat} (e : (zipD xs ys).length ≤ i) : vs.length ≤ i ∨ us.length ≤ i := by
  unfold zipD at e
  rw [List.length_map, List.length_zip] at e
  rw [h1.length, h2.length]
  omega
theorem feeds_zipL {a b : Addr} {vs us : List V} {xs ys : List D} (p1 : ∀ {F' H'}, Same F1 F' → Same F' H' → SqL K H' a vs) (p2 : ∀ {F' H'}, Same F1 F' → Same F' H' → SqL K H' b us) (h1 : IsDs K F1 vs xs) (h2 : IsDs K F1 us ys) : Feeds K pv F1 (Itz K a b) (zipD xs ys) (fun _ => True) where
  go := fun i d F H σ env B r s c hx => by
    obtain ⟨v, u, x, y, e1, e2, _, _, _⟩ := zip_get h1 h2 hx
    exact ⟨vs, us, v, u, p1 s r.sub, p2 s r.sub, e1, e2⟩
  yld := fun i d F H σ env B w H' r s c hx ⟨T, v', u', ev, hn, eH, k1, k2⟩ => by
    obtain ⟨v, u, x, y, e1, e2, ed, d1, d2⟩ := zip_get h1 h2 hx
    have q1 := k1 _ (p1 s r.sub)
    have q2 := k2 _ (p2 s r.sub)
    have q1 := Option.some.inj (e1.symm.trans q1)
    have q2 := Option.some.inj (e2.symm.trans q2)
    subst q1 q2 ev eH ed
    have al := Alloc.frz (o := .tup [v, u]) r.sub hn
    exact ⟨_, al, .tup upd_same (.cons ((d1.mono s).mono al.le) (.cons ((d2.mono s).mono al.le) .nil))⟩
  stop := fun i F H σ env B r s c hx => ⟨vs, us, p1 s r.sub, p2 s r.sub, zip_len h1 h2 hx⟩
theorem feeds_zipT {a b : Addr} {vs us : List V} {xs ys : List D} (p1 : ∀ {F' H'}, Same F1 F' → Same F' H' → SqT K H' a vs) (p2 : ∀ {F' H'}, Same F1 F' → Same F' H' → SqT K H' b us) (h1 : IsDs K F1 vs xs) (h2 : IsDs K F1 us ys) : Feeds K pv F1 (ItzT K a b) (zipD xs ys) (fun _ => True) where
  go := fun i d F H σ env B r s c hx => by
    obtain ⟨v, u, x, y, e1, e2, _, _, _⟩ := zip_get h1 h2 hx
    exact ⟨vs, us, v, u, p1 s r.sub, p2 s r.sub, e1, e2⟩
  yld := fun i d F H σ env B w H' r s c hx ⟨T, v', u', ev, hn, eH, k1, k2⟩ => by
    obtain ⟨v, u, x, y, e1, e2, ed, d1, d2⟩ := zip_get h1 h2 hx
    have q1 := k1 _ (p1 s r.sub)
    have q2 := k2 _ (p2 s r.sub)
    have q1 := Option.some.inj (e1.symm.trans q1)
    have q2 := Option.some.inj (e2.symm.trans q2)
    subst q1 q2 ev eH ed
    have al := Alloc.frz (o := .tup [v, u]) r.sub hn
    exact ⟨_, al, .tup upd_same (.cons ((d1.mono s).mono al.le) (.cons ((d2.mono s).mono al.le) .nil))⟩
  stop := fun i F H σ env B r s c hx => ⟨vs, us, p1 s r.sub, p2 s r.sub, zip_len h1 h2 hx⟩
theorem zi_zip {e e2 : Expr} {wa : WA} {p pos tpos : Pos} {elts : List Expr} {kk : Nat} (hg : Gl X "zip") (hm : X.mg "zip" = none) (ha : ZA X pm [e, e2] wa)
    (hs : starEach [e, e2] X.env = (false, eval e X.env) :: starEach [e2] X.env := by rfl) (hpl : (backTo pos (starEach [e2] X.env)).any (·.1) = false := by rfl) : ZI X pm (.Tuple elts kk tpos) (.Call (.Name "zip" p) [e, e2] [] pos) (wiZip wa) :=
  pi_imp (pi_zipA hg hm ha hs hpl) fun σ H R ⟨pv, F, B, env, P, m, rel, hw, hq⟩ => ⟨pv, F, B, env, _, m, rel, hw, fun as e1 h1 F1 H1 B1 vs s1 r1 i1 => by
    match as, i1, h1 with
    | [.inl x, .inl y], .cons (.d dx) (.cons (.d dy) .nil), h1 =>
      have h1 : (match seqL x, seqL y with | some xs, some ys => P (zipD xs ys) (fun _ => True) e1 | _, _ => match seqT x, seqT y with | some xs, some ys => P (zipD xs ys) (fun _ => True) e1 | _, _ => False) := h1
      by_cases hL : ∃ xs ys, seqL x = some xs ∧ seqL y = some ys
      · obtain ⟨xs, ys, ex, ey⟩ := hL
        simp only [ex, ey] at h1
        obtain ⟨a, us, rfl, p1, k1⟩ := dx.seqL ex
        obtain ⟨b, ws, rfl, p2, k2⟩ := dy.seqL ey
        exact ⟨a, b, us, ws, rfl, .inl ⟨p1 (Same.refl _) r1.sub, p2 (Same.refl _) r1.sub, hq _ _ e1 h1 F1 H1 B1 _ s1 r1 (feeds_zipL p1 p2 k1 k2)⟩⟩
      · have h2 : (match seqT x, seqT y with | some xs, some ys => P (zipD xs ys) (fun _ => True) e1 | _, _ => False) := by
          cases ex : seqL x with
          | none => simp only [ex] at h1; exact h1
          | some xs =>
            cases ey : seqL y with
            | none => simp only [ex, ey] at h1; exact h1
            | some ys => exact absurd ⟨xs, ys, ex, ey⟩ hL
        cases ex : seqT x with
        | none => simp only [ex] at h2
        | some xs =>
          cases ey : seqT y with
          | none => simp only [ex, ey] at h2
          | some ys =>
            simp only [ex, ey] at h2
            obtain ⟨a, us, rfl, p1, k1⟩ := dx.seqT ex
            obtain ⟨b, ws, rfl, p2, k2⟩ := dy.seqT ey
            exact ⟨a, b, us, ws, rfl, .inr ⟨p1 (Same.refl _) r1.sub, p2 (Same.refl _) r1.sub, hq _ _ e1 h2 F1 H1 B1 _ s1 r1 (feeds_zipT p1 p2 k1 k2)⟩⟩⟩
end
/-! ### flat data: in of tuples, index -/
def flD : D → Bool
  | .non => true
  | .bl _ => true
  | .int _ => true
  | .str _ => true
  | _ => false
def feq : D → D → Bool
  | .non, .non => true
  | .bl a, .bl b => a == b
  | .bl a, .int b => (if a then 1 else 0) == b
  | .int a, .bl b => a == (if b then 1 else 0)
  | .int a, .int b => a == b
  | .str a, .str b => a == b
  | _, _ => false
def inF (x : D) (ds : List D) : Bool := ds.any fun y => feq y x
section
variable {K : PySem.W.Frag} {F H : Hp}
theorem flat_V {v : V} {x : D} (h : Zl.IsD K F v x) (e : flD x = true) : flatV v = true := by
  cases x <;> cases e <;> cases h <;> rfl
theorem feq_V {v u : V} {x y : D} (h : Zl.IsD K F v x) (k : Zl.IsD K F u y) (e : flD x = true) (f : flD y = true) : eqV v u = feq x y := by
  cases x <;> cases e <;> cases y <;> cases f <;> cases h <;> cases k <;> rfl
theorem flats_V : ∀ {vs : List V} {ds : List D}, IsDs K F vs ds → ds.all flD = true → vs.all flatV = true
  | _, _, .nil, _ => rfl
  | _, _, .cons h r, e => by
    rw [List.all_cons, Bool.and_eq_true] at e
    rw [List.all_cons, flat_V h e.1, flats_V r e.2]; rfl
theorem inF_V : ∀ {vs : List V} {ds : List D} {u : V} {x : D}, IsDs K F vs ds → ds.all flD = true → Zl.IsD K F u x → flD x = true → inV u vs = inF x ds
  | _, _, _, _, .nil, _, _, _ => rfl
  | _, _, u, x, .cons h r, e, k, f => by
    rw [List.all_cons, Bool.and_eq_true] at e
    show (eqV _ u || inV u _) = (feq _ x || inF x _)
    rw [feq_V h k e.1 f, inF_V r e.2 k f]
theorem Pk.flat {v : V} {d : D} (h : Pk K F H v d) (e : flD d = true) : Zl.IsD K F v d := by
  refine h.imm ?_
  cases d <;> cases e <;> rfl
/-- in of a tuple of flat data; else as before -/
def gInT (f : Bool → Bool) (x y : D) (k : T → Prop) : Prop := match y with
  | .tup ds => (flD x = true ∧ ds.all flD = true) ∧ k (.fz (.bl (f (inF x ds))))
  | y => gInAll f x y k
theorem op2_inT : Op2 K (fun y x H Q => (rInA K y x H Q ∨ rInDict y x H Q) ∨ rIn K false y x H Q) (gInT fun b => b) := ⟨fun F H v u x y P Q s hv hu h hq => by
  by_cases ht : ∃ ds, y = .tup ds
  · obtain ⟨ds, rfl⟩ := ht
    obtain ⟨⟨h1, h2⟩, h3⟩ := (show (flD x = true ∧ ds.all flD = true) ∧ P (.fz (.bl (inF x ds))) from h)
    obtain ⟨a, vs, rfl, sq, hr⟩ := hu.tup1 s
    refine .inr ⟨a, vs, rfl, .inr sq, flat_V (hv.flat h1) h1, flats_V hr h2, ?_⟩
    show Q (.bl (inV v vs)) H
    rw [inF_V hr h2 (hv.flat h1) h1]
    exact hq _ _ F H Rg0 h3 (.refl s) (.fz (.bl _))
  · refine .inl (op2_inAll.run F H v u x y P Q s hv hu ?_ hq)
    cases y <;> first
      | exact h
      | exact absurd ⟨_, rfl⟩ ht⟩
theorem op2_notinT : Op2 K (fun y x H Q => (rNotInA K y x H Q ∨ rNotInDict y x H Q) ∨ rIn K true y x H Q) (gInT fun b => !b) := ⟨fun F H v u x y P Q s hv hu h hq => by
  by_cases ht : ∃ ds, y = .tup ds
  · obtain ⟨ds, rfl⟩ := ht
    obtain ⟨⟨h1, h2⟩, h3⟩ := (show (flD x = true ∧ ds.all flD = true) ∧ P (.fz (.bl (!inF x ds))) from h)
    obtain ⟨a, vs, rfl, sq, hr⟩ := hu.tup1 s
    refine .inr ⟨a, vs, rfl, .inr sq, flat_V (hv.flat h1) h1, flats_V hr h2, ?_⟩
    show Q (.bl (!inV v vs)) H
    rw [inF_V hr h2 (hv.flat h1) h1]
    exact hq _ _ F H Rg0 h3 (.refl s) (.fz (.bl _))
  · refine .inl (op2_notinAll.run F H v u x y P Q s hv hu ?_ hq)
    cases y <;> first
      | exact h
      | exact absurd ⟨_, rfl⟩ ht⟩
theorem or_inT {X : Cx} (hu : X.A.units + 65 < cLine) : OpR X (compareOp .In) (fun y x H Q => (rInA X.K y x H Q ∨ rInDict y x H Q) ∨ rIn X.K false y x H Q) := (or_inAll hu).or op_in_seq
theorem or_notinT {X : Cx} (hu : X.A.units + 65 < cLine) : OpR X (compareOp .NotIn) (fun y x H Q => (rNotInA X.K y x H Q ∨ rNotInDict y x H Q) ∨ rIn X.K true y x H Q) := (or_notinAll hu).or op_notIn_seq
end
end Zl

/-! sorted(xs, key=lambda x: x[j]). -/
namespace Zl
open PySem PySem.Spec PyProof.Rows L2
/-- what a lambda's making does to what is known -/
def LamTo (F H : Hp) (p : Addr × Str) (F1 H1 : Hp) : Prop := (F1 = F ∧ H1 = H) ∨ ∃ (ps more : Array Value) (c : Addr), H p.1 = some (.tbl ps) ∧ H c = none ∧
  F1 = upd F c (LamX.CodeO c p.2) ∧ H1 = upd (upd H p.1 (.tbl (ps ++ more))) c (LamX.CodeO c p.2) ∧ TabAt F1 H1 p
section
variable {K : PySem.W.Frag} {pv : List (Option V)} {F H F1 H1 : Hp} {σ : L2.St} {env : Ev} {B : Nat → Rg} {p : Addr × Str}
theorem Rel.lam (r : Rel K pv F H σ env B) (hp : lamTab = some p) (l : LamTo F H p F1 H1) : Rel K pv F1 H1 σ env B ∧ Step F H (U B) F1 H1 (U B) := by
  rcases l with ⟨rfl, rfl⟩ | ⟨ps, more, c, hP, hc, rfl, rfl, tab⟩
  · exact ⟨r, Step.refl⟩
  · have nPc : p.1 ≠ c := ne_of_none hP hc
    have fP := (r.tp.tab p hp).1
    have hF : ∀ a, a ≠ c → upd F c (LamX.CodeO c p.2) a = F a := fun a z => upd_ne z
    have hH : ∀ a, a ≠ c → a ≠ p.1 → upd (upd H p.1 (.tbl (ps ++ more))) c (LamX.CodeO c p.2) a = H a := fun a z y => by rw [upd_ne z, upd_ne y]
    have hHP : upd (upd H p.1 (.tbl (ps ++ more))) c (LamX.CodeO c p.2) p.1 = some (.tbl (ps ++ more)) := by rw [upd_ne nPc, upd_same]
    have lv : ∀ a, H a ≠ none → upd (upd H p.1 (.tbl (ps ++ more))) c (LamX.CodeO c p.2) a ≠ none := fun a h => by
      have : a ≠ c := fun z => h (by rw [z]; exact hc)
      rw [upd_ne this]
      by_cases y : a = p.1
      · rw [y, upd_same]; simp
      · rw [upd_ne y]; exact h
    have keep : ∀ a o, H a = some o → NT o → upd (upd H p.1 (.tbl (ps ++ more))) c (LamX.CodeO c p.2) a = some o := fun a o h nt =>
      (hH a (ne_of_none h hc) fun z => nt ps (by rw [z, hP] at h; exact (Option.some.inj h).symm)).trans h
    have le : Same F (upd F c (LamX.CodeO c p.2)) := fun a o h => (hF a (ne_of_none (r.sub a o h) hc)).trans h
    refine ⟨⟨fun a o h => ?_, r.len, fun i t e => ?_, r.dis, fun i a h => ?_, fun i a h => lv a (r.live i a h), r.fix, ⟨fun a xs h => ?_, fun q e => ?_⟩⟩, ⟨le, fun a o h _ => keep a o h, fun a h _ => lv a h, fun a h => .inl h, fun a h => ?_⟩⟩
    · by_cases z : a = c
      · rw [z, upd_same] at h ⊢; exact h
      · rw [hF a z] at h
        rw [hH a z fun y => by rw [y, fP] at h; cases h]
        exact r.sub a o h
    · obtain ⟨v, e1, e2⟩ := r.at_ i t e
      exact ⟨v, e1, e2.monoN le (fun a o _ h nt => keep a o h nt) fun _ z => z⟩
    · rw [hF a fun z => r.live i a h (by rw [z]; exact hc)]
      exact r.off i a h
    · by_cases z : a = c
      · rw [z, upd_same] at h; cases h
      · by_cases y : a = p.1
        · rw [y, hHP] at h; cases h
        · rw [hH a z y] at h
          rw [hF a z]
          exact r.tp.tup a xs h
    · rw [hp] at e; cases e; exact tab
    · by_cases z : a = c
      · exact .inr (.inr (by rw [z]; exact hc))
      · rw [hF a z] at h; exact .inl h
end
section
variable {X : Cx} {pins : List (Addr × Obj)} {σ : L2.St} {F H : Hp} {s : Shared}
/-- the lambda is made -/
theorem lam_new {P c : Addr} {params : Arguments} {body : Expr} {scope : Scope} {pos : Pos} {E : Value → Shared → Prop} {Q : Value → Shared → Prop} (I : Inv X pins σ H s) (TB : LamX.TabB X.base X.mg c P) (hcode : X.env.code = .ref c)
    (t : TabAt F H (P, X.env.qual ++ "<lambda>")) (sub : Same F H) (hdef : defaultsOf params X.env = ([], [])) (hfree : ∀ y ∈ scope.names, y.2 = .free → ∃ c, X.env.cells.lookup y.1 = some c)
    (h : ∀ (f c' : Addr) (pm ctv : Value) (F1 H1 : Hp) (s' : Shared), Inv X pins σ H1 s' → LamTo F H (P, X.env.qual ++ "<lambda>") F1 H1 →
      s'.heap.get? f = some (PySem.W.kla_obj "<lambda>" (X.env.qual ++ "<lambda>") params body scope (cloFrom X.env.cells scope.names []) pm c' ctv) → H1 c' = some (LamX.CodeO c' (X.env.qual ++ "<lambda>")) → Q (.ref f) s') :
    wpAny (model X.prog X.w) X.A (eval (.Lambda params body scope pos) X.env) Q E s := by
  obtain ⟨nf, ps, hP, ht, ha⟩ := t
  have built : s.heap.BuiltinsAt X.mg P := TB.bm.keeps I.bk
  have code := TB.code.keeps I.bk
  have atP : s.heap.get? P = some { cls := .none, data := .fields ps } := I.hok P _ hP
  have glob := I.mod.glob.keeps I.bk
  apply PySem.W.kla_eval hdef
  match hc : codeAmong pos ps.toList with
  | some cv =>
    obtain ⟨c', rfl, kn⟩ := ha pos cv hc
    refine PySem.W.kla_makeFunctionHit (mg := X.mg) (c := c) (P := P) (ps := ps) (closure_ok hfree) I.ok.glob glob hcode code atP ht hc built ?_
    intro ctv h' tk hx hsz
    exact h h'.objs.size c' _ ctv F H _ (I.kept fun b o e => Heap.get?_push_of_some _ (hx b o e)) (.inl ⟨rfl, rfl⟩) (Heap.get?_push_size _ rfl) (sub _ _ kn)
  | none =>
    refine PySem.W.kla_makeFunction (mg := X.mg) (c := c) (P := P) (ps := ps) (closure_ok hfree) I.ok.glob glob hcode code atP ht hc TB.gP built ?_
    intro c' ctv h' tk hx hge hlt hrec htb
    obtain ⟨c2, oc, vs, tq, e2, hoc, hd, hv⟩ := hrec
    cases e2
    have nC : H c' = none := I.hok.fresh hge
    have nPc : P ≠ c' := ne_of_none hP nC
    have push : ∀ {b : Addr} {o u : Obj}, h'.get? b = some o → (h'.push u).get? b = some o := fun e => Heap.get?_push_of_some _ e
    have J := LamX.inv_table (t' := tk) (q := X.env.qual ++ "<lambda>") (more := #[rawInt pos.line, rawInt pos.col, .ref c']) (h' := h'.push (PySem.W.kla_obj "<lambda>" (X.env.qual ++ "<lambda>") params body scope (cloFrom X.env.cells scope.names []) ((X.mg "__name__").getD .none) c' ctv)) I hP
      (fun b o hb e => push (hx b o hb e)) (push htb) hge ⟨oc, vs, tq, push hoc, hd, hv⟩
    have tl : (ps ++ #[rawInt pos.line, rawInt pos.col, .ref c']).toList = ps.toList ++ [rawInt pos.line, rawInt pos.col, .ref c'] := by simp
    refine h h'.objs.size c' _ ctv (upd F c' (LamX.CodeO c' (X.env.qual ++ "<lambda>"))) _ _ J (.inr ⟨ps, _, c', hP, nC, rfl, rfl, ?_⟩) (Heap.get?_push_size _ rfl) upd_same
    refine ⟨(upd_ne nPc).trans nf, _, (upd_ne nPc).trans upd_same, by rw [tl]; exact PySem.TriplesOk_snoc _ _ _ _ ht, fun p' cv hcv => ?_⟩
    rw [tl] at hcv
    rcases LamX.among_app _ ht hcv with z | z
    · obtain ⟨c0, e1, e2⟩ := ha p' cv z
      exact ⟨c0, e1, (upd_ne (ne_of_none (sub _ _ e2) nC)).trans e2⟩
    · exact ⟨c', z, upd_same⟩
end
/-- the lambda x[j], called of a tuple -/
theorem lam_item {P : Program} {w : World} {A : Around} {s : Shared} {q x : Str} {params : Arguments} {scope : Scope} {cl : List (Str × Addr)} {pm ctv : Value} {f c' a : Addr} {its : Array Value} {j : Nat} {u : Value} {k : Nat} {p1 p2 p3 : Pos}
    (hroom : A.depth < recursionLimit) (ho : s.heap.get? f = some (PySem.W.kla_obj "<lambda>" q params (.Subscript (.Name x p1) (.Constant (.int j) k p2) p3) scope cl pm c' ctv)) (hc : s.heap.CodeRec (.ref c') q) (hnl : s.heap.NoLimit)
    (tup : IsTup s.heap a its) (hu : its[j]? = some u) (hj : j < 1000) (hbind : bindArgs (PySem.W.kla_fn "<lambda>" q params (.Subscript (.Name x p1) (.Constant (.int j) k p2) p3) scope cl pm (.ref c') ctv) ⟨[.ref a], []⟩ = pure [(x, .ref a)])
    (hk : scope.kind = .function) (hco : scope.isCoroutine = false) (hgen : scope.isGenerator = false) (hcell : ∀ y ∈ scope.names, y.2 ≠ .cell) (hx : scope.names.lookup x = some .local) (hd : (x == ("__debug__" : Str)) = false) :
    wpAny (model P w) A (call (.ref f) [.ref a]) (fun v s2 => v = u ∧ ∃ h' tk, s2 = { s with heap := h', toks := tk } ∧ ∀ b o, s.heap.get? b = some o → h'.get? b = some o) (fun _ _ => False) s := by
  apply wpAny_call
  refine PySem.W.kla_callFunE hroom ho rfl hco hgen rfl hc ?_
  rw [hbind]
  refine wpAny_pure (wpAny_newFunctionEnv hcell (fun y hy => ?_) (fun h₁ hns hsb => ⟨hnl.fresh _ hsb, ?_⟩) hk)
  · cases hy with
    | head => exact hx
    | tail _ z => cases z
  · have kp : ∀ b o, s.heap.get? b = some o → h₁.get? b = some o := fun b o e => hsb.extBut b o (Nat.ne_of_lt (Heap.lt_size e)) (Heap.get?_push_of_some _ e)
    refine PySem.W.kla_codeExpr (Subscript_ (wpAny_Name (wpAny_loadName_local hk hx hns (v := .ref a) (by simp) (wpAny_Constant_int ?_)) hd))
    have tup' : IsTup h₁ a its := tup.keeps kp
    have hl : j < its.size := (Array.getElem?_eq_some_iff.mp hu).1
    refine subscriptTail_builtin (T := "tuple") (id := "tuple.__getitem__") tup'.typeIs slot_tuple_getitem.lookup (getItem_tuple tup' (j := j) (by omega) (by omega) ?_ hu ?_) (by rfl) (by intro _; rfl)
    · unfold seqIndex?
      simp; omega
    · exact ⟨rfl, h₁, _, rfl, kp⟩
end Zl

namespace Zl
open PySem PySem.Spec PyProof.Rows L2
theorem each_valsG {β : Type} : ∀ {zs : List (V × β)} {its : List Value}, Vals (zs.map (·.1)) its → W.EachIs (fun (u : Value) (z : V × β) => RelV z.1 u) its zs
  | [], _, .nil => .nil
  | _ :: _, _, .cons h t => .cons h (each_valsG t)
theorem vals_eachG {β : Type} : ∀ {zs : List (V × β)} {its : List Value}, W.EachIs (fun (u : Value) (z : V × β) => RelV z.1 u) its zs → Vals (zs.map (·.1)) its
  | _, _, .nil => .nil
  | _, _, .cons h t => .cons h (vals_eachG t)
/-- the j-th number of a tuple -/
def keyI (j : Nat) : D → Int
  | .tup xs => match xs[j]? with
    | some (.int n) => n
    | _ => 0
  | _ => 0
def HasI (j : Nat) (d : D) : Prop := ∃ xs n, d = .tup xs ∧ xs[j]? = some (.int n)
def sortK (j : Nat) (ds : List D) : List D := ds.mergeSort fun a b => decide (keyI j a ≤ keyI j b)
/-- sorted(e, key=lambda x: x[j]) -/
def wSortK (j : Nat) (w : WE) : WE := fun env P => w env fun t e1 => match t.fr with
  | .lst ds => (∀ d ∈ ds, HasI j d) ∧ P (.lst (sortK j ds)) e1
  | _ => False
section
variable {X : Cx} {pm : List Bool} {e : Expr} {w : WE} {x x0 : Str} {P c : Addr} {params : Arguments} {scope : Scope} {p p1 p2 p3 lpos kpos pos : Pos} {kd j : Nat}
theorem ze_sortK (hp : lamTab = some (P, X.env.qual ++ "<lambda>")) (TB : LamX.TabB X.base X.mg c P) (hcode : X.env.code = .ref c) (hroom : X.A.depth < recursionLimit) (hun : X.A.units + 128 < cLine) (hg : Gl X x0) (hm : X.mg x0 = none) (hv : bootBuiltins x0 = some (.builtin "sorted"))
    (he : ZE X pm e w) (hj : j < 1000) (hdef : defaultsOf params X.env = ([], []))
    (hbind : ∀ (q : Str) (cl : List (Str × Addr)) (pm cv ctv : Value) (a : Addr), bindArgs (PySem.W.kla_fn "<lambda>" q params (.Subscript (.Name x p1) (.Constant (.int j) kd p2) p3) scope cl pm cv ctv) ⟨[.ref a], []⟩ = pure [(x, .ref a)])
    (hk : scope.kind = .function) (hco : scope.isCoroutine = false) (hgen : scope.isGenerator = false) (hcell : ∀ y ∈ scope.names, y.2 ≠ .cell) (hfree : ∀ y ∈ scope.names, y.2 ≠ .free) (hx : scope.names.lookup x = some .local)
    (hd : (x == ("__debug__" : Str)) = false := by decide) (hn0 : x0 ≠ "__name__" := by decide) (hd0 : (x0 == ("__debug__" : Str)) = false := by decide)
    (hst : starEach [e] X.env = [(false, eval e X.env)] := by rfl) :
    ZE X pm (.Call (.Name x0 p) [e] [⟨some "key", .Lambda params (.Subscript (.Name x p1) (.Constant (.int j) kd p2) p3) scope lpos, kpos⟩] pos) (wSortK j w) := ⟨fun pins s σ H Q I ⟨pv, F, B, env, Pz, m, rel, hw, hq⟩ => by
  refine wpAny_Call_Name_kw (ld_blt I hg hm hv ?_ hn0 hd0)
  refine PyProof.Rows.callWith_kw ?_ (by rw [hst]; rfl) (by rw [hst]; rfl)
  rw [hst]
  show wpAny _ _ (spliced ((false, eval e X.env) :: [])) _ _ s
  refine Calls.spliced_cons (wpAny_mono (he.run pins s σ H (fun v H1 => ∃ F1 B1 R1 e1 t, (match t.fr with
    | .lst ds => (∀ d ∈ ds, HasI j d) ∧ Pz (.lst (sortK j ds)) e1
    | _ => False) ∧ Step F H (U B) F1 H1 (Ru (U B1) R1) ∧ Rel X.K pv F1 H1 σ e1 B1 ∧ OwnV X.K F1 H1 B1 R1 v t) I ⟨pv, F, B, env, _, m, rel, hw, fun t e1 h1 F1 H1 B1 R1 v s1 r1 o1 => ⟨F1, B1, R1, e1, t, h1, s1, r1, o1⟩⟩)
    (fun u s1 ⟨v, H1, I1, rv, F1, B1, R1, e1, t, h1, st1, r1, o1⟩ => ?_) fun _ _ z => z)
  refine Calls.spliced_nil ?_
  show wpAny _ _ (evalAll ((do let v ← eval (.Lambda params (.Subscript (.Name x p1) (.Constant (.int j) kd p2) p3) scope lpos) X.env; standAt pos; pure v) :: [])) _ _ s1
  refine wpAny_evalAll_cons (wpAny_bind (lam_new I1 TB hcode (r1.tp.tab _ hp) r1.sub hdef (fun y hy z => absurd z (hfree y hy)) fun f c' pmv ctv F2 H2 s2 I2 to hf hco' => wpAny_bind (wpAny_standAt (wpAny_pure ?_))))
  refine wpAny_evalAll_nil ?_
  obtain ⟨r2, st2⟩ := r1.lam hp to
  have o2 := o1.on st2
  have st12 := st1.beside (fun a z => ⟨fun ⟨i, y⟩ => o1.dis i a z y, o1.live a z, o1.off a z⟩) st2
  obtain ⟨F3, r3, st3, d3⟩ := r2.freezeV o2
  cases qt : t.fr with
  | lst ds =>
    rw [qt] at h1 d3
    obtain ⟨hall, h1⟩ := h1
    cases d3 with
    | @lst a vs _ ha hds =>
      cases (show u = Value.ref a from rv)
      obtain ⟨its, rvs, hl, hz⟩ := I2.list (SqL.of (r3.sub _ _ ha))
      have lvs := hds.length
      have evz : (vs.zip ds).map (·.1) = vs := List.map_fst_zip (by omega)
      have edz : (vs.zip ds).map (·.2) = ds := List.map_snd_zip (by omega)
      have each : W.EachIs (fun (u : Value) (z : V × D) => RelV z.1 u) its (vs.zip ds) := each_valsG (by rw [evz]; exact rvs)
      obtain ⟨⟨oc, vsc, tq, hoc, hdc, hvc⟩, _, _⟩ := I2.hok c' _ hco'
      refine W.sorted_key_data (b := false) (fun z : V × D => .int (keyI j z.2)) hl.isList each (W.AllAlike.of fun _ _ => rfl) (W.Sortable.others fun _ => ⟨nofun, nofun⟩) (by rw [List.length_zip]; omega) (fun z _ => ?_) (PyProof.Rows.ksk_s1 _ _) (fun _ => PyProof.Rows.ksk_l1 _ _) (fun _ => PyProof.Rows.ksk_t1 _ _) (fun v z hR hz h tk kp => ?_) fun out ep h' tk kp _ hD hlo eo => ?_
      · show X.A.units + 2 + 0 < cLine
        omega
      · -- the key of one item
        obtain ⟨xs, n, e2, e3⟩ := hall z.2 (by rw [← edz]; exact List.mem_map.mpr ⟨z, hz, rfl⟩)
        have dz := hds.zipMem z hz
        rw [e2] at dz
        obtain ⟨zv, zd⟩ := z
        cases e2
        cases dz with
        | @tup at_ us _ hat hus =>
          cases (show v = Value.ref at_ from hR)
          obtain ⟨uv, e4, e5⟩ := hus.get e3
          cases e5
          obtain ⟨tits, rt, tup, _⟩ := I2.tuple (.inl (Rd.of (r3.sub _ _ hat)))
          obtain ⟨iv, ei, ri⟩ := rt.get e4
          obtain ⟨tn, rfl⟩ := ri
          refine wpAny_mono (lam_item (hroom := hroom) (its := tits.toArray) (u := .int n tn) (kp _ _ hf) ⟨c', oc, vsc, tq, rfl, kp _ _ hoc, hdc, hvc⟩ (I2.nolimit.keeps kp) (tup.keeps kp) (by simpa using ei) hj (hbind _ _ _ _ _ _) hk hco hgen hcell hx hd) (fun v2 s3 ⟨ev, h4, tk4, es, kp4⟩ => ?_) fun _ _ z => z
          subst ev
          refine ⟨h4, tk4, es, kp4, ?_⟩
          have ek : keyI j (.tup xs) = n := by simp only [keyI, e3]
          show Reads h4 _ (.int (keyI j (.tup xs))) []
          rw [ek]
          exact .int n tn
      · have vout := vals_eachG eo
        have hl2 : ((vs.zip ds).mergeSort (W.dataLe false fun z : V × D => .int (keyI j z.2))).length ≤ sizeLine := by
          rw [List.length_mergeSort, List.length_zip]; omega
        have fr : H2 (s2.heap.objs.size + 1) = none := I2.hok.fresh (Nat.le_succ _)
        have ed : sortK j ds = ((vs.zip ds).mergeSort (W.dataLe false fun z : V × D => .int (keyI j z.2))).map (·.2) := by
          rw [W.sort_maps (r := W.dataLe false fun z : V × D => .int (keyI j z.2)) (s := fun a b => decide (keyI j a ≤ keyI j b)) (fun z : V × D => z.2) (fun a b _ _ => by rw [W.dataLe_int (fun z : V × D => keyI j z.2)]), edz]
          rfl
        have al := Alloc.own (o := .lst (((vs.zip ds).mergeSort (W.dataLe false fun z : V × D => .int (keyI j z.2))).map (·.1))) r3.sub fr
        obtain ⟨r4, st4, d4⟩ := r3.alloc al
        refine ⟨.ref _, upd H2 (s2.heap.objs.size + 1) (.lst (((vs.zip ds).mergeSort (W.dataLe false fun z : V × D => .int (keyI j z.2))).map (·.1))), I2.laid (t' := tk) kp (Nat.le_succ _) ⟨by rw [List.length_map]; exact hl2, out, ep, vout, hD⟩, rfl, hq _ _ h1 F3 _ B1 (fun a => a = s2.heap.objs.size + 1) _ ((st12.trans st3).trans st4) r4 (r3.own al (.lst rfl upd_same ?_))⟩
        rw [ed]
        exact IsDs.ofPairs fun z hz => (hds.zipMem z (List.mem_mergeSort.mp hz))
  | _ => simp only [qt] at h1⟩
end
end Zl

/-! range(a, b, -1). -/
namespace Zl
open PySem PySem.Spec PyProof.Rows L2
def wiRd (wa : WA) : WI := fun env P => wa env fun as e => match rss e as with
  | some [.int l, .int n, .int c] => (c = -1 ∧ -(2 ^ 62) ≤ l ∧ l < 2 ^ 62 ∧ -(2 ^ 62) ≤ n ∧ n < 2 ^ 62) ∧ P ((List.range (l - n).toNat).map fun i : Nat => D.int (l - i)) (fun _ => True) e
  | _ => False
section
variable {K : PySem.W.Frag} {pv : List (Option V)} {F1 : Hp} {X : Cx} {pm : List Bool}
theorem feeds_rgd {lo : Int} {n : Nat} : Feeds K pv F1 (Itc lo (-1) n) ((List.range n).map fun i : Nat => D.int (lo - i)) (fun _ => True) where
  go := fun i x F H σ' env B r s c hx => by
    have := (List.getElem?_eq_some_iff.mp hx).1
    rw [List.length_map, List.length_range] at this
    exact this
  yld := fun i x F H σ' env B y H' r s c hx ⟨e, h⟩ => by
    subst h
    have hl := (List.getElem?_eq_some_iff.mp hx).1
    rw [List.length_map, List.length_range] at hl
    rw [List.getElem?_map, List.getElem?_range hl] at hx
    cases hx
    refine ⟨F, by rw [e]; exact .refl r.sub, ?_⟩
    have : lo + (i : Int) * (-1) = lo - i := by omega
    rw [this]
    exact .int _
  stop := fun i F H σ' env B r s c hx => by
    rw [List.length_map, List.length_range] at hx
    exact hx
theorem zi_rgd {tg a b c : Expr} {wa : WA} {p pos : Pos} (hg : Gl X "range") (hm : X.mg "range" = none) (ha : ZA X pm [a, b, c] wa) (hs : starEach [a, b, c] X.env = (false, eval a X.env) :: starEach [b, c] X.env := by rfl) (hpl : (backTo pos (starEach [b, c] X.env)).any (·.1) = false := by rfl) : ZI X pm tg (.Call (.Name "range" p) [a, b, c] [] pos) (wiRd wa) :=
  pi_imp (pi_range3 hg hm ha hs hpl) fun σ H R ⟨pv, F, B, env, P, m, rel, hw, hq⟩ => ⟨pv, F, B, env, _, m, rel, hw, fun as e1 h1 F1 H1 B1 vs s1 r1 i1 => by
    cases q : rss e1 as with
    | none => simp only [q] at h1
    | some ds =>
      simp only [q] at h1
      match ds, q, h1 with
      | [.int l, .int n, .int c], q, h1 =>
        obtain ⟨⟨rfl, b1, b2, b3, b4⟩, h1⟩ := h1
        obtain ⟨v, u, x, e, k1, k2, k3⟩ := (r1.pks i1 q).three
        exact ⟨l, n, -1, (l - n).toNat, by rw [e, k1.int, k2.int, k3.int], RgC.neg b1 b2 b3 b4, hq _ _ e1 h1 F1 H1 B1 _ s1 r1 feeds_rgd⟩⟩
end
end Zl

/-! The law's call at the top, where one def makes a lambda. -/
namespace Zl
open PySem PySem.Spec PyProof.Rows L2
/-- the table of the code object cd -/
def codeTab (K : PySem.W.Frag) (cd : Value) : Option Addr := match cd with
  | .ref c => match K.lookup c with
    | some ⟨_, _, .fields vs, _⟩ => match (vs[11]? : Option Value) with
      | some (Value.ref T) => some T
      | _ => none
    | _ => none
  | _ => none
theorem codeTab_is {K : PySem.W.Frag} {cd : Value} {T c : Addr} {h : Heap} (X : K.In h) (e : codeTab K cd = some T) (hc : cd = .ref c) : ∃ (oc : Obj) (vs : Array Value), h.get? c = some oc ∧ oc.data = .fields vs ∧ vs[11]? = some (.ref T) := by
  subst hc
  unfold codeTab at e
  simp only at e
  split at e
  · rename_i a b vs sl q
    split at e
    · rename_i T' q2
      cases e
      exact ⟨_, vs, X _ _ q, rfl, q2⟩
    · cases e
  · cases e
section
variable {P : Program} {w : World} {K : PySem.W.Frag} {mg mb : Str → Option Value} {k : Nat} {fa a c T : Addr} {fd : FuncData} {x : Str} {sp : Sp} {s : Shared} {vs : List Value} {ns : List Int}
/-- what is tracked at the start: the table, and the script if it is no object of the module -/
def startH (K : PySem.W.Frag) (T a : Addr) (vs : List Value) (ns : List Int) : Hp := fun b =>
  if b = T then some (.tbl #[]) else if b = a ∧ K.lookup a = none then some (.frz { cls := .type "list", data := .seq vs.toArray } (.lst (ns.map V.int))) else none
theorem callGT (KX : K.In s.heap) (hns : s.heap.Ns mainGlobals mg) (hb : s.heap.Ns builtinsNs mb) (hbb : ∀ x : Str, x ≠ "__name__" → mb x = bootBuiltins x) (hlim : s.heap.NoLimit) (hg : s.gens = #[])
    (ha : s.heap.get? a = some { cls := .type "list", data := .seq vs.toArray }) (hi : IntsAre vs ns) (hl : ns.length ≤ sizeLine) (hr : Room k callerA)
    (hT : s.heap.get? T = some { cls := .none, data := .fields #[] }) (nT : K.lookup T = none) (C : PySem.W.CodeHd s.heap c T) (isT : isCodeTable s.heap T)
    (hbm : ∃ (bm : Addr) (ob : Obj), mg "__builtins__" = some (.ref bm) ∧ bm ≠ builtinsNs ∧ s.heap.get? bm = some ob ∧ ob.cls = .type "module" ∧ ob.dict = some builtinsNs ∧ ob.data = .plain)
    (Fn : ∀ base : Heap, K.In base → base.Ns mainGlobals mg → LamX.TabB base mg c T → FnG P w K mg base k fa fd [x] sp)
    (hbind : ∀ (s : Shared) (u : Value), BindsTo s fd ⟨[u], []⟩ [(x, u)])
    (hsp : ∀ H : Hp, H T = some (.tbl #[]) → (∀ b xs, H b ≠ some (.tup xs)) → SqL K H a (ns.map V.int) → sp [.ref a] H (fun v _ => v = .bl true) E0) :
    codeAny (model P w) callerA (.call (.ref fa) ⟨[.ref a], []⟩) (EndOk s) s := by
  have rv := vals_ints hi
  have naT : a ≠ T := fun z => by rw [z, hT] at ha; cases ha
  -- the table, the script, nothing else
  have at_T : startH K T a vs ns T = some (.tbl #[]) := if_pos rfl
  have off : ∀ {b : Addr}, b ≠ T → ¬ (b = a ∧ K.lookup a = none) → startH K T a vs ns b = none := fun z y => (if_neg z).trans (if_neg y)
  have at_a : K.lookup a = none → startH K T a vs ns a = some (.frz { cls := .type "list", data := .seq vs.toArray } (.lst (ns.map V.int))) := fun z => (if_neg naT).trans (if_pos ⟨rfl, z⟩)
  have cases3 : ∀ b u, startH K T a vs ns b = some u → (b = T ∧ u = .tbl #[]) ∨ (b = a ∧ K.lookup a = none ∧ u = .frz { cls := .type "list", data := .seq vs.toArray } (.lst (ns.map V.int))) := fun b u z => by
    by_cases y : b = T
    · subst y; rw [at_T] at z; cases z; exact .inl ⟨rfl, rfl⟩
    · by_cases y2 : b = a ∧ K.lookup a = none
      · obtain ⟨rfl, y2⟩ := y2
        rw [at_a y2] at z; cases z; exact .inr ⟨rfl, y2, rfl⟩
      · rw [off y y2] at z; cases z
  have hok : HOk P w (startH K T a vs ns) s.heap := fun b u z => by
    rcases cases3 b u z with ⟨rfl, rfl⟩ | ⟨rfl, y, rfl⟩
    · exact hT
    · exact ⟨ha, by rw [List.length_map]; exact hl, vs, _, rv, ha⟩
  -- an object of another kind is not tracked
  have free : ∀ {b : Addr} {o : Obj}, s.heap.get? b = some o → (∀ c, o.data ≠ .seq c 0) → o.data ≠ .fields #[] → startH K T a vs ns b = none := fun {b o} e d1 d2 => by
    refine off (fun z => ?_) fun z => ?_
    · rw [z, hT] at e; cases e; exact d2 rfl
    · rw [z.1, ha] at e; cases e; exact d1 _ rfl
  have nsH : ∀ {b : Addr} {m : Str → Option Value}, s.heap.Ns b m → (hidT s.heap (startH K T a vs ns)).Ns b m := fun ⟨o, es, ep, e, d, q⟩ => ⟨o, es, ep, hidT_get e (free e (fun c z => by rw [d] at z; cases z) fun z => by rw [d] at z; cases z), d, q⟩
  have kH : K.In (hidT s.heap (startH K T a vs ns)) := fun b o e => hidT_get (KX b o e) (off (fun z => by rw [z, nT] at e; cases e) fun z => by rw [z.1, z.2] at e; cases e)
  obtain ⟨mc, c1, c2⟩ := hlim
  have M : Mod K mg (hidT s.heap (startH K T a vs ns)) := ⟨kH, nsH hns, ⟨mb, nsH hb, hbb⟩, ⟨mc, nsH c1, c2⟩⟩
  have none_in : ∀ {b : Addr}, b ∉ ([] : List Addr) := fun z => by cases z
  have e0 : Env0 P w K mg (hidT s.heap (startH K T a vs ns)) callerA [] s (startH K T a vs ns) := ⟨rfl, M, fun b o e => of_hidT e, Nat.le_of_eq (hidT_size _ _), trivial, fun b z => (none_in z).elim, hok, .of_eq hg⟩
  have notP : ∀ {b : Addr} {o : Obj}, s.heap.get? b = some o → o.data ≠ .fields #[] → b ≠ T := fun e d z => by rw [z, hT] at e; cases e; exact d rfl
  have TB : LamX.TabB (hidT s.heap (startH K T a vs ns)) mg c T := by
    refine ⟨?_, ?_, ?_⟩
    · obtain ⟨o, us, file, tf, flags, tg, inF, text, tt, g1, g2, g3, g4, g5⟩ := C
      refine ⟨o, us, file, tf, flags, tg, inF, text, tt, hidT_get g1 (free g1 (fun c z => by rw [g3] at z; cases z) fun z => ?_), g2, g3, g4, g5⟩
      rw [g3] at z; cases z; simp at g4
    · obtain ⟨bm, ob, b1, b2, b3, b4, b5, b6⟩ := hbm
      refine ⟨bm, ob, b1, b2, fun z => ?_, notP b3 (by rw [b6]; exact nofun), hidT_get b3 (free b3 (by rw [b6]; exact fun _ => nofun) (by rw [b6]; exact nofun)), b4, b5, b6⟩
      obtain ⟨o, es, ep, e, d, _⟩ := hns
      rw [z, e] at b3; cases b3; rw [d] at b6; cases b6
    · intro z
      obtain ⟨o, es, ep, e, d, _⟩ := hns
      rw [z, hT] at e; cases e; cases d
  have hS : SqL K (startH K T a vs ns) a (ns.map V.int) := by
    cases q : K.lookup a with
    | none => exact .inl (.inr ⟨_, at_a q⟩)
    | some o =>
      have e := KX a o q
      rw [ha] at e; cases e
      exact .inr ⟨_, vs.toArray, _, q, rfl, rfl, rfl, by rw [List.size_toArray, hi.length]; exact hl, by simpa using rv⟩
  have noTup : ∀ b xs, startH K T a vs ns b ≠ some (.tup xs) := fun b xs z => by
    rcases cases3 b _ z with ⟨_, e⟩ | ⟨_, _, e⟩ <;> cases e
  refine codeAny_mono ((Fn _ kH (nsH hns) TB).run callerA [] s _ ⟨[.ref a], []⟩ [.ref a] [.ref a] _ E0 rfl hr e0 (hbind s (.ref a)) (.cons rfl .nil) (hsp _ at_T noTup hS)) ?_
  intro r s' h
  match r, h with
  | .error _, h => exact h.elim
  | .ok (.ret u), ⟨v, H', os, bare, un, hok', rv', q⟩ =>
    replace q : v = .bl true := q
    subst q
    cases (show u = Value.bool true from rv')
    obtain ⟨more, gt⟩ := un.tbls T #[] at_T
    have g2 : s'.heap.get? T = some { cls := .none, data := .fields (#[] ++ more) } := hok' T _ gt
    have key : ∀ b o, b ≠ T → s.heap.get? b = some o → s'.heap.get? b = some o := fun b o z e => by
      cases y : startH K T a vs ns b with
      | none => exact un.keep b o e y (fun y => none_in (show b ∈ ([] : List Addr) from y)) none_in
      | some u =>
        rcases cases3 b u y with ⟨y1, _⟩ | ⟨y1, y2, y3⟩
        · exact absurd y1 z
        · subst y3
          have e1 := (hok b _ y).1
          have e2 := (hok' b _ (un.frzs b _ _ y)).1
          rw [e1] at e
          rw [← e]; exact e2
    refine ⟨rfl, ⟨fun b o e => ?_, fun b o e => ?_⟩, os, bare⟩
    · by_cases z : b = T
      · subst z
        rw [hT] at e; cases e
        exact .inr (.inl ⟨isT, rfl, #[], more, rfl, g2⟩)
      · exact .inl (key b o z e)
    · by_cases z : b = T
      · subst z; exact ⟨_, g2⟩
      · exact ⟨o, key b o z e⟩
end
theorem walk_ofGT {l : PySem.W.OpenLaw} {n k : Nat} {q : Program} {loose : List Str} {XP : (Str → Option Value) → Heap → Prop} {YP : World → Heap → Prop} {d : DefRec} {K : Params → PySem.W.Frag} {sp : World → Sp} {x by_ : Str} {T : Addr}
    (hn : l.most = some n) (hn2 : n ≤ sizeLine) (hdf : d.params.defaults = []) (hr : Room k callerA) (hY : ∀ (w : World) (h : Heap), YP w h → (K w.params).In h) (hrec : ((recsOf q).any fun e => e.name == by_) = true)
    (F : ∀ (w : World) (mg : Str → Option Value) (fa fb c : Addr) (o : Obj) (fdb : FuncData) (h : Heap), (K w.params).In h → h.Ns mainGlobals mg → mg d.name = some (.ref fa) → mg by_ = some (.ref fb) → h.get? fb = some o → o.data = .func fdb → fdb.code = .ref c →
      (K w.params).lookup T = none ∧ (∃ oc vs, h.get? c = some oc ∧ oc.data = .fields vs ∧ vs[11]? = some (.ref T)) ∧ ∃ fd : FuncData, (∀ (s : Shared) (u : Value), BindsTo s fd ⟨[u], []⟩ [(x, u)]) ∧
      ∀ base : Heap, (K w.params).In base → base.Ns mainGlobals mg → LamX.TabB base mg c T → FnG l.prog w (K w.params) mg base k fa fd [x] (sp w))
    (hsp : ∀ (w : World) (H : Hp) (a : Addr) (ns : List Int), ns.length ≤ n → H T = some (.tbl #[]) → (∀ b xs, H b ≠ some (.tup xs)) → SqL (K w.params) H a (ns.map V.int) → sp w [.ref a] H (fun v _ => v = .bl true) E0) :
    PySem.W.WalkO q loose XP YP l.row.toRowW d [] (fun f vs => PySem.call f vs) := by
  refine Att.attach_call hn hdf ?_
  intro w s₀ s₁ mg mb fa o pm cd doc a vs ns G Y ho hd hcd hmg hobj hints hlen hg
  have KX := hY w _ Y
  obtain ⟨dL, hm, hn1⟩ := List.any_eq_true.mp hrec
  have hnm : dL.name = by_ := beq_iff_eq.mp hn1
  obtain ⟨fb, ob, fdb, c, T', h1, h2, h3, h4, h5, h6⟩ := G.T.tab dL hm
  rw [hnm] at h1
  obtain ⟨nT, ⟨oc, vc, e1, e2, e3⟩, fd, hb, hF⟩ := F w mg fa fb c ob fdb _ KX G.T.g hmg h1 h2 h3 h4
  have eT : T' = T := by
    obtain ⟨⟨oc', vc', g1, _, g3, g4⟩, _⟩ := h6
    rw [e1] at g1; cases g1
    rw [e2] at g3; cases g3
    rw [e3] at g4; cases g4; rfl
  subst eT
  exact callGT KX G.T.g G.T.b G.T.builtins G.T.nolimit hg hobj hints (Nat.le_trans hlen hn2) hr h6.2 nT (.of h5 h6) h6.isCodeTable G.T.bmain hF hb fun H h1 h2 h3 => hsp w H a ns hlen h1 h2 h3
end Zl

/-! {k: v, ..}, keys and values constants. -/
namespace Zl
open PySem PySem.Spec PyProof.Rows L2
theorem room128 {k : Nat} {A : Around} (r : Room k A) : A.units + 128 < cLine := by have := r.un; omega
def wDLit (ks : List (List Key)) (ds : List D) : WE := fun env P => P (.map false ks (ds.map T.fz)) env
theorem tPairs_c {σ : L2.St} {H : Hp} {Q : List (V × V) → Hp → Prop} : ∀ kvs : List (Key × V), Q (kvs.map fun kv => (kV kv.1, kv.2)) H → tPairs (kvs.map fun kv => (tC (kV kv.1), tC kv.2)) σ H Q
  | [], h => h
  | p :: r, h => tPairs_c (Q := fun ps H3 => Q ((kV p.1, p.2) :: ps) H3) r h
theorem mO_one (kvs : List (Key × V)) : mO false (kvs.map fun p => ([p.1], p.2)) = .dK kvs := by
  show HO.dK _ = HO.dK kvs
  rw [List.map_map]
  congr 1
  conv => rhs; rw [← List.map_id kvs]
  rfl
theorem ze_dlit {X : Cx} {pm : List Bool} {pos : Pos} {keys : List (Option Expr)} {values : List Expr} (kvs : List (Key × V)) {ds : List D} (h : PPs X pos keys values (kvs.map fun kv => (tC (kV kv.1), tC kv.2))) (hd : ∀ K F, IsDs K F (kvs.map (·.2)) ds)
    (hm : mergeK [] kvs = kvs) (hn : kvs.length ≤ 15) (hnd : (kvs.map fun p => [p.1]).Nodup) (hall : keys.all (·.isSome) = true := by rfl) (hl : keys.length = values.length := by rfl) (h0 : keys ≠ [] := by intro z; cases z) (h15 : keys.length ≤ 15 := by decide) :
    ZE X pm (.Dict keys values pos) (wDLit (kvs.map fun p => [p.1]) ds) :=
  pe_imp (pe_disp h hall hl h0 h15) fun σ H Q ⟨pv, F, B, env, P, m, rel, hw, hq⟩ => fun p hp => by
    refine tPairs_c kvs ⟨upd_same, kvs, rfl, hn, ?_⟩
    rw [hm]
    have e : upd (upd H p (.dK [])) p (.dK kvs) = upd H p (.dK kvs) := by
      funext b
      by_cases z : b = p
      · subst z; rw [upd_same, upd_same]
      · rw [upd_ne z, upd_ne z, upd_ne z]
    rw [e]
    have al := Alloc.own (o := .dK kvs) rel.sub hp
    obtain ⟨r2, s2, d2⟩ := rel.alloc al
    refine hq _ _ hw _ _ B (fun a => a = p) _ s2 r2 (rel.own al (.map (b := false) (R' := Rg0) (kvs := kvs.map fun p => ([p.1], p.2)) rfl (by rw [mO_one]; exact upd_same) (by rw [List.map_map]; rfl) ⟨hnd, fun _ k hk => ?_⟩ (fun z => z) (fun _ z => z.elim) ?_))
    · obtain ⟨q, _, rfl⟩ := List.mem_map.mp hk
      exact ⟨_, rfl⟩
    · have e2 : (kvs.map fun p => ([p.1], p.2)).map (·.2) = kvs.map (·.2) := by rw [List.map_map]; rfl
      rw [e2]
      exact IsTs.fzs (hd _ _)
end Zl

/-! What the laws share: draws, lists of numbers, drawn names. -/
namespace Zl
open PySem PySem.Spec PySem.Builtin.Str PyProof.Rows L2
abbrev iL (ws : List Int) : List D := ws.map D.int
abbrev nL (bs : List Nat) : List D := bs.map fun b : Nat => D.int b
abbrev sL (ws : List Str) : List D := ws.map D.str
theorem rng_get {n i : Nat} {d : D} (h : ((List.range n).map fun i : Nat => D.int i)[i]? = some d) : i < n ∧ d = .int i := by
  rw [List.getElem?_map] at h
  by_cases hi : i < n
  · rw [List.getElem?_range hi] at h; cases h; exact ⟨hi, rfl⟩
  · rw [List.getElem?_eq_none (by simpa using Nat.le_of_not_lt hi)] at h; cases h
theorem rng2_get {lo : Int} {n i : Nat} {d : D} (h : ((List.range n).map fun i : Nat => D.int (lo + i))[i]? = some d) : i < n ∧ d = .int (lo + i) := by
  rw [List.getElem?_map] at h
  by_cases hi : i < n
  · rw [List.getElem?_range hi] at h; cases h; exact ⟨hi, rfl⟩
  · rw [List.getElem?_eq_none (by simpa using Nat.le_of_not_lt hi)] at h; cases h
theorem iL_at {ws : List Int} {k : Nat} (h : k < ws.length) : (iL ws)[k]? = some (.int (ws.getD k 0)) := by
  rw [List.getElem?_map, List.getElem?_eq_getElem h, List.getD_eq_getElem?_getD, List.getElem?_eq_getElem h]; rfl
theorem iL_get {bs : List Int} {i : Nat} {d : D} (h : (iL bs)[i]? = some d) : ∃ b, bs[i]? = some b ∧ d = .int b := by
  rw [List.getElem?_map] at h
  cases e : bs[i]? with
  | none => rw [e] at h; cases h
  | some b => rw [e] at h; cases h; exact ⟨b, rfl, rfl⟩
theorem nL_get {bs : List Nat} {i : Nat} {d : D} (h : (nL bs)[i]? = some d) : ∃ b, bs[i]? = some b ∧ d = .int b := by
  rw [List.getElem?_map] at h
  cases e : bs[i]? with
  | none => rw [e] at h; cases h
  | some b => rw [e] at h; cases h; exact ⟨b, rfl, rfl⟩
theorem map_get {α : Type} {f : α → D} {bs : List α} {i : Nat} {d : D} (h : (bs.map f)[i]? = some d) : ∃ b, bs[i]? = some b ∧ d = f b := by
  rw [List.getElem?_map] at h
  cases e : bs[i]? with
  | none => rw [e] at h; cases h
  | some b => rw [e] at h; cases h; exact ⟨b, rfl, rfl⟩
theorem map_at {α : Type} {f : α → D} {bs : List α} {i : Nat} {b : α} (h : bs[i]? = some b) : (bs.map f)[i]? = some (f b) := by
  rw [List.getElem?_map, h]; rfl
/-- one of the items of a list written down, by a draw -/
theorem atI_lt {xs : List D} {r : Int} (h0 : 0 ≤ r) (h1 : r < xs.length) : ∃ d, d ∈ xs ∧ atI xs r = some d := by
  obtain ⟨n, rfl⟩ := Int.eq_ofNat_of_zero_le h0
  have hn : n < xs.length := by omega
  exact ⟨xs[n], List.getElem_mem hn, atI_nat (List.getElem?_eq_getElem hn)⟩
theorem rep_flat (n : Nat) (d : D) : (List.replicate n [d]).flatten = List.replicate n d := by
  induction n with
  | zero => rfl
  | succ n ih => rw [List.replicate_succ, List.flatten_cons, ih]; rfl
theorem take_snoc {α : Type} {xs : List α} {i : Nat} {b : α} (h : xs[i]? = some b) : xs.take (i + 1) = xs.take i ++ [b] := by
  rw [List.take_add_one, h]; rfl
/-! ### texts -/
theorem str_ext {x y : Str} (h : x.cps.toList = y.cps.toList) : x = y := by
  obtain ⟨a⟩ := x; obtain ⟨b⟩ := y
  congr 1
  exact Array.toList_inj.mp h
theorem str_app (x y : Str) : (x ++ y).cps.toList = x.cps.toList ++ y.cps.toList := by
  show (x.cps ++ y.cps).toList = _
  exact Array.toList_append
theorem str_len (x : Str) : x.length = x.cps.toList.length := Array.length_toList.symm
theorem slice_nat {t : Str} {a b : Nat} (hab : a ≤ b) (hb : b ≤ t.length) : (Txt.slice t (some (a : Int)) (some (b : Int))).cps.toList = (t.cps.toList.drop a).take (b - a) := by
  unfold Txt.slice
  have hp := PySem.StrLaws.strSliceIndices_plain hab hb
  split
  · next h =>
    rw [hp, List.length_map, List.length_range, Bool.and_eq_true, beq_iff_eq, beq_iff_eq] at h
    have l : t.cps.toList.length = t.length := Array.length_toList
    have h2 := h.2
    have e1 : a = 0 := by omega
    have e2 : b = t.cps.toList.length := by omega
    rw [e1, e2, List.drop_zero, Nat.sub_zero, List.take_length]
  · exact PySem.StrLaws.sliced_plain t hab hb
theorem slice_to (z : Str) (k : Nat) : (Txt.slice z none (some (k : Int))).cps.toList = z.cps.toList.take k := by
  have e : strSliceIndices none (some (k : Int)) 1 z.length = strSliceIndices (some ((0 : Nat) : Int)) (some ((min k z.length : Nat) : Int)) 1 z.length := by
    rw [PySem.StrLaws.sliceIdx_none_lo]
    unfold strSliceIndices
    simp only [show ((1 : Int) > 0) = True from by simp, if_true]
    rw [if_neg (by omega : ¬ (k : Int) < 0), if_neg (by omega : ¬ ((min k z.length : Nat) : Int) < 0)]
    congr 1
    omega
  have hl : z.cps.toList.length = z.length := Array.length_toList
  have h2 := slice_nat (t := z) (a := 0) (b := min k z.length) (Nat.zero_le _) (Nat.min_le_right _ _)
  have h3 : Txt.slice z none (some (k : Int)) = Txt.slice z (some ((0 : Nat) : Int)) (some ((min k z.length : Nat) : Int)) := by
    unfold Txt.slice
    rw [e]
  rw [h3, h2, List.drop_zero, Nat.sub_zero]
  by_cases h : k ≤ z.length
  · rw [Nat.min_eq_left h]
  · rw [Nat.min_eq_right (by omega), ← hl, List.take_length, List.take_of_length_le (by omega)]
/-- one to eight small letters -/
structure Nm (s : Str) : Prop where
  pos : 1 ≤ s.cps.toList.length
  few : s.cps.toList.length ≤ 8
  low : ∀ c ∈ s.cps.toList, 97 ≤ c ∧ c ≤ 122
theorem Nm.ok {s : Str} (h : Nm s) : PyData.strOk s = true := by
  unfold PyData.strOk
  rw [Array.all_eq_true_iff_forall_mem]
  intro c hc
  have := h.low c (by simpa using hc)
  exact decide_eq_true (by omega)
theorem Nm.len {s : Str} (h : Nm s) : s.length ≤ 8 := by rw [str_len]; exact h.few
abbrev sAz : Str := "abcdefghijklmnopqrstuvwxyz"
theorem az_at : ∀ r : Nat, r < 26 → sAz.cps.toList[r]? = some (97 + r) := by
  have k : ∀ r : _root_.Fin 26, sAz.cps.toList[r.val]? = some (97 + r.val) := by decide +kernel
  exact fun r h => k ⟨r, h⟩
theorem az_mem : ∀ c : Nat, (c ∈ sAz.cps.toList) ↔ 97 ≤ c ∧ c ≤ 122 := by
  have e : sAz.cps.toList = (List.range 26).map fun r => 97 + r := by decide +kernel
  intro c
  rw [e, List.mem_map]
  constructor
  · rintro ⟨r, hr, rfl⟩
    have := List.mem_range.mp hr
    omega
  · intro h
    exact ⟨c - 97, List.mem_range.mpr (by omega), by omega⟩
theorem az_len : sAz.length ≤ sizeLine := by rw [str_len, show sAz.cps.toList.length = 26 by decide +kernel]; decide
/-- == of texts, as data -/
theorem eqb_str (a b : Str) : D.eqb (.str a) (.str b) = decide (a = b) := by
  show PyData.eqv (.str a) (.str b) = _
  simp only [PyData.eqv]
  by_cases h : a = b
  · subst h; simp
  · simp [h]
theorem inD_str (x : Str) (l : List Str) : inD (.str x) (sL l) = decide (x ∈ l) := by
  unfold inD
  rw [List.any_map]
  induction l with
  | nil => simp
  | cons a r ih =>
    rw [List.any_cons, ih]
    show (D.eqb (.str a) (.str x) || _) = _
    rw [eqb_str]
    by_cases h : a = x
    · subst h; simp
    · have h' : ¬ x = a := fun z => h z.symm
      simp [h, h']
theorem ok_strs {l : List Str} (h : ∀ x ∈ l, PyData.strOk x = true) : D.ok 60 (.lst (sL l)) = true := by
  refine ok_lst ?_
  rw [List.all_eq_true]
  intro d hd
  obtain ⟨x, hx, rfl⟩ := List.mem_map.mp hd
  exact h x hx
/-- different things of a list are at most as many as it has -/
theorem nodup_le {α : Type} [DecidableEq α] : ∀ {C B : List α}, C.Nodup → (∀ c ∈ C, c ∈ B) → C.length ≤ B.length
  | [], _, _, _ => Nat.zero_le _
  | c :: C, B, hn, hs => by
    have hn := List.nodup_cons.mp hn
    have hc : c ∈ B := hs c (List.mem_cons_self ..)
    have := nodup_le (C := C) (B := B.erase c) hn.2 fun x hx => by
      have hne : x ≠ c := fun z => hn.1 (z ▸ hx)
      exact (List.mem_erase_of_ne hne).mpr (hs x (List.mem_cons_of_mem _ hx))
    rw [List.length_erase_of_mem hc] at this
    have hp : 0 < B.length := List.length_pos_of_mem hc
    rw [List.length_cons]; omega
/-- the k-th letter ahead of the first seven signs -/
def cnd (b : Str) (k : Nat) : Str := ⟨#[97 + k]⟩ ++ Txt.slice b none (some ((7 : Nat) : Int))
theorem cnd_list (b : Str) (k : Nat) : (cnd b k).cps.toList = (97 + k) :: b.cps.toList.take 7 := by
  unfold cnd
  rw [str_app, slice_to]; rfl
theorem cnd_inj {b : Str} {i j : Nat} (h : cnd b i = cnd b j) : i = j := by
  have := congrArg (fun s : Str => s.cps.toList.head?) h
  simp only [cnd_list, List.head?_cons, Option.some.injEq] at this
  omega
theorem cnd_nm {b : Str} {k : Nat} (h : ∀ c ∈ b.cps.toList, 97 ≤ c ∧ c ≤ 122) (hk : k < 26) : Nm (cnd b k) := by
  refine ⟨by rw [cnd_list]; simp, by rw [cnd_list, List.length_cons, List.length_take]; omega, fun c hc => ?_⟩
  rw [cnd_list] at hc
  rcases List.mem_cons.mp hc with z | z
  · omega
  · exact h c (List.mem_of_mem_take z)
/-- what the loop over the letters keeps: a good name, or all letters so far were tried -/
def Tried (b : Str) (B : List Str) (i : Nat) (nm : Str) : Prop := nm ∉ B ∨ ((∀ j, j + 1 < i → cnd b j ∈ B) ∧ (0 < i → nm = cnd b (i - 1)))
theorem Tried.stay {b : Str} {B : List Str} {i : Nat} {nm : Str} (h : nm ∉ B) : Tried b B (i + 1) nm := .inl h
theorem Tried.next {b : Str} {B : List Str} {i : Nat} {nm : Str} (t : Tried b B i nm) (h : nm ∈ B) : Tried b B (i + 1) (cnd b i) := by
  rcases t with t | ⟨t1, t2⟩
  · exact absurd h t
  · refine .inr ⟨fun j hj => ?_, fun _ => by rw [Nat.add_sub_cancel]⟩
    by_cases e : j + 1 < i
    · exact t1 j e
    · have e : j = i - 1 := by omega
      rw [e, ← t2 (by omega)]; exact h
theorem Tried.good {b : Str} {B : List Str} {nm : Str} (t : Tried b B 26 nm) (h : B.length < 26) : nm ∉ B := fun z => by
  rcases t with t | ⟨t1, t2⟩
  · exact t z
  · have hs : ∀ c ∈ (List.range 26).map (cnd b), c ∈ B := fun c hc => by
      obtain ⟨k, hk, rfl⟩ := List.mem_map.mp hc
      have hk := List.mem_range.mp hk
      by_cases e : k + 1 < 26
      · exact t1 k e
      · have e : k = 26 - 1 := by omega
        rw [e, ← t2 (by omega)]; exact z
    have hn : ((List.range 26).map (cnd b)).Nodup := by
      rw [List.Nodup, List.pairwise_map]
      exact (List.nodup_range (n := 26)).imp fun hne z => hne (cnd_inj z)
    have := nodup_le hn hs
    rw [List.length_map, List.length_range] at this
    omega
end Zl

namespace Zl
open PySem PySem.Spec PyProof.Rows L2


/-! ### rows of tasks -/
structure Tk where
  n : Str
  w : Nat
  g : Nat
  l : Nat
  deriving DecidableEq
def Tk.d (t : Tk) : D := .tup [.str t.n, .int t.w, .int t.g, .int t.l]
abbrev tL (ts : List Tk) : List D := ts.map Tk.d
structure Tk.Fits (t : Tk) : Prop where
  nm : Nm t.n
  w2 : 2 ≤ t.w
  w20 : t.w ≤ 20
  g1 : 1 ≤ t.g
  g20 : t.g ≤ 20
/-- a valid row -/
structure Row (ts : List Tk) : Prop where
  few : ts.length ≤ 4
  fit : ∀ t ∈ ts, t.Fits
  lim : ∀ t ∈ ts, 1 ≤ t.l ∧ t.l ≤ t.g
  nod : (ts.map Tk.n).Nodup
  res : ∀ t ∈ ts, t.n ≠ "main" ∧ t.n ≠ "any"
/-- numbers alone -/
structure Sums (ts : List Tk) : Prop where
  few : ts.length ≤ 4
  fit : ∀ t ∈ ts, t.Fits
/-- how many gaps begin in that time -/
def cdv (t g : Int) : Int := -((-t) / g)
def ndF (t : Int) (a : Int) (r : Tk) : Int := a + cdv t r.g * r.w
def wk (ts : List Tk) (i : Nat) : Nat := (ts[i]?.map Tk.w).getD 0
def gp (ts : List Tk) (i : Nat) : Nat := (ts[i]?.map Tk.g).getD 0
def ndI (ts : List Tk) (i : Nat) (bl : Nat) (t : Int) : Int := (ts.take i).foldl (ndF t) ((wk ts i : Int) + bl)
def rspF (f : Nat → Bool) : Nat → Nat → Option Nat
  | _, 0 => none
  | t, n + 1 => if f t = true then some t else rspF f (t + 1) n
/-- the least time from 1 on to most that is enough -/
def rsp (ts : List Tk) (i bl most : Nat) : Option Nat := rspF (fun t => decide (ndI ts i bl t = t)) 1 most
abbrev rspG (ts : List Tk) (i bl : Nat) : Option Nat := rsp ts i bl (gp ts i)
def oD : Option Nat → D
  | none => .non
  | some n => .int n
/-! ### what k59 reckons -/
def ndA (r : Tk) (ab : List Tk) (bl : Nat) (t : Int) : Int := ab.foldl (ndF t) ((r.w : Int) + bl)
def rspA (r : Tk) (ab : List Tk) (bl : Nat) : Option Nat := rspF (fun t => decide (ndA r ab bl t = t)) 1 r.g
/-- it keeps its limit below these -/
def keep (r : Tk) (ab : List Tk) (bl : Nat) : Bool := match rspA r ab bl with
  | some t => decide (t ≤ r.l)
  | none => false
def keepAt (l : List Tk) (bl i : Nat) : Bool := match l[i]? with
  | some r => keep r (l.take i) bl
  | none => false
/-- the first that is late -/
def late (l : List Tk) (bl : Nat) : Option Nat := rspF (fun i => !keepAt l bl i) 0 l.length
def jD : Option Nat → D
  | none => .int (-1)
  | some k => .int k
def fitAt (l : List Tk) (bl k : Nat) : Bool := match l[k]? with
  | some r => keep r (l.eraseIdx k) bl
  | none => false
def lastF (f : Nat → Bool) : Nat → Option Nat
  | 0 => none
  | n + 1 => if f n = true then some n else lastF f n
/-- the last that fits below all others -/
def lastFit (l : List Tk) (bl : Nat) : Option Nat := lastF (fitAt l bl) l.length
def low (bl : Nat) : Nat → List Tk → List Tk → Option (List Tk)
  | 0, _, acc => some acc
  | n + 1, l, acc => match lastFit l bl with
    | none => none
    | some k => match l[k]? with
      | some r => low bl n (l.eraseIdx k) (r :: acc)
      | none => none
def lowest (l : List Tk) (bl : Nat) : Option (List Tk) := low bl l.length l []
/-- by limits -/
def srt (l : List Tk) : List Tk := l.mergeSort fun a b => decide (a.l ≤ b.l)
def lwT : Option (List Tk) → T
  | none => .fz .non
  | some l => .lst (tL l)
def bestT (l : List Tk) (bl : Nat) : T := match late (srt l) bl with
  | none => .lst (tL (srt l))
  | some _ => .fz .non
def firstD (l : List Tk) (bl : Nat) : D := match late (srt l) bl with
  | none => .non
  | some k => match (srt l)[k]? with
    | some r => .str r.n
    | none => .non
def ansT (l : List Tk) (bl : Nat) : Nat → T
  | 0 => .lst (tL (srt l))
  | 1 => .fz (.bl (late l bl).isNone)
  | 2 => bestT l bl
  | 3 => .fz (firstD l bl)
  | _ => lwT (lowest l bl)
/-- a list of rows, one's own or not -/
def Lz (x : T) (l : List Tk) : Prop := x = .lst (tL l) ∨ x = .fz (.lst (tL l))
/-! ### what the defs promise -/
abbrev sp_is_name : DSp := fun ts P => ∃ s : Str, ts = [.fz (.str s)] ∧ s.length ≤ sizeLine ∧ ∀ b : Bool, (b = true ↔ Nm s) → P (.fz (.bl b)) [.fz (.str s)]
abbrev sp_numbers_fit : DSp := fun ts P => ∃ w g l : Int, ts = [.fz (.int w), .fz (.int g), .fz (.int l)] ∧ ∀ b : Bool, (b = true ↔ 2 ≤ w ∧ w ≤ 20 ∧ 1 ≤ g ∧ g ≤ 20 ∧ 1 ≤ l ∧ l ≤ g) → P (.fz (.bl b)) [.fz (.int w), .fz (.int g), .fz (.int l)]
abbrev sp_check_tasks : DSp := fun ts P => ∃ x tk bl, ts = [x, .fz (.int (bl : Nat))] ∧ Lz x tk ∧ Row tk ∧ bl ≤ 20 ∧ P (.fz .non) [x, .fz (.int (bl : Nat))]
abbrev sp_needed : DSp := fun ts P => ∃ x tk i bl, ∃ t : Int, ts = [x, .fz (.int (i : Nat)), .fz (.int (bl : Nat)), .fz (.int t)] ∧ Lz x tk ∧ Sums tk ∧ i < tk.length ∧ P (.fz (.int (ndI tk i bl t))) [x, .fz (.int (i : Nat)), .fz (.int (bl : Nat)), .fz (.int t)]
abbrev sp_least_time : DSp := fun ts P => ∃ x tk i bl, ts = [x, .fz (.int (i : Nat)), .fz (.int (bl : Nat))] ∧ Lz x tk ∧ Sums tk ∧ i < tk.length ∧ P (.fz (oD (rspG tk i bl))) [x, .fz (.int (i : Nat)), .fz (.int (bl : Nat))]
abbrev sp_within_limit : DSp := fun ts P => ∃ x tk i bl, ts = [x, .fz (.int (i : Nat)), .fz (.int (bl : Nat))] ∧ Lz x tk ∧ Sums tk ∧ i < tk.length ∧ P (.fz (.bl (keepAt tk bl i))) [x, .fz (.int (i : Nat)), .fz (.int (bl : Nat))]
abbrev sp_first_late : DSp := fun ts P => ∃ x tk bl, ts = [x, .fz (.int (bl : Nat))] ∧ Lz x tk ∧ Sums tk ∧ P (.fz (jD (late tk bl))) [x, .fz (.int (bl : Nat))]
abbrev sp_by_limits : DSp := fun ts P => ∃ tk, ts = [.lst (tL tk)] ∧ Row tk ∧ P (.lst (tL (srt tk))) [.lst (tL tk)]
abbrev sp_keeps_limits : DSp := fun ts P => ∃ x tk bl, ts = [x, .fz (.int (bl : Nat))] ∧ Lz x tk ∧ Row tk ∧ bl ≤ 20 ∧ P (.fz (.bl (late tk bl).isNone)) [x, .fz (.int (bl : Nat))]
abbrev sp_best_order : DSp := fun ts P => ∃ tk bl, ts = [.lst (tL tk), .fz (.int (bl : Nat))] ∧ Row tk ∧ bl ≤ 20 ∧ P (bestT tk bl) [.lst (tL tk), .fz (.int (bl : Nat))]
abbrev sp_breaking : DSp := fun ts P => ∃ tk bl, ts = [.lst (tL tk), .fz (.int (bl : Nat))] ∧ Row tk ∧ bl ≤ 20 ∧ P (.fz (firstD tk bl)) [.lst (tL tk), .fz (.int (bl : Nat))]
abbrev sp_last_fit : DSp := fun ts P => ∃ tk bl, ts = [.lst (tL tk), .fz (.int (bl : Nat))] ∧ Sums tk ∧ P (.fz (jD (lastFit tk bl))) [.lst (tL tk), .fz (.int (bl : Nat))]
abbrev sp_lowest_first : DSp := fun ts P => ∃ tk bl, ts = [.lst (tL tk), .fz (.int (bl : Nat))] ∧ Row tk ∧ bl ≤ 20 ∧ P (lwT (lowest tk bl)) [.lst (tL tk), .fz (.int (bl : Nat))]
/-! the law's own defs -/
abbrev sp_law_tape : DSp := fun ts P => ∃ sc : List Int, ts = [.fz (.rol (iL sc))] ∧ sc.length ≤ 63 ∧ ∀ rs : List Int, rs.length ≤ 4000 → P (.lst (iL rs)) [.fz (.rol (iL sc))]
abbrev sp_law_draw : DSp := fun ts P => ∃ rs : List Int, ∃ n : Int, ts = [.lst (iL rs), .fz (.int n)] ∧ rs.length ≤ 4000 ∧ 0 < n ∧ ∀ (r : Int) (rs' : List Int), 0 ≤ r → r < n → rs'.length ≤ 4000 → P (.fz (.int r)) [.lst (iL rs'), .fz (.int n)]
abbrev sp_law_name : DSp := fun ts P => ∃ (rs : List Int) (us : List Str), ts = [.lst (iL rs), .lst (sL us)] ∧ rs.length ≤ 4000 ∧ us.length ≤ 20 ∧ (∀ x ∈ us, Nm x) ∧
  ∀ (nm : Str) (rs' : List Int), Nm nm → nm ∉ us → nm ≠ "main" → nm ≠ "any" → rs'.length ≤ 4000 → P (.fz (.str nm)) [.lst (iL rs'), .lst (sL (us ++ [nm]))]
abbrev sp_law_response : DSp := fun ts P => ∃ x ab, ∃ r : Tk, ∃ bl, ts = [.fz r.d, x, .fz (.int (bl : Nat))] ∧ Lz x ab ∧ (∀ a ∈ ab, a.Fits) ∧ r.Fits ∧ P (.fz (oD (rspA r ab bl))) [.fz r.d, x, .fz (.int (bl : Nat))]
abbrev sp_law_keeps : DSp := fun ts P => ∃ ab, ∃ r : Tk, ∃ bl, ts = [.fz r.d, .fz (.lst (tL ab)), .fz (.int (bl : Nat))] ∧ (∀ a ∈ ab, a.Fits) ∧ r.Fits ∧ P (.fz (.bl (keep r ab bl))) [.fz r.d, .fz (.lst (tL ab)), .fz (.int (bl : Nat))]
abbrev sp_law_row : DSp := fun ts P => ∃ rs : List Int, ts = [.lst (iL rs)] ∧ rs.length ≤ 4000 ∧ ∀ (tk : List Tk) (bl : Nat) (rs' : List Int), Row tk → bl ≤ 20 → rs'.length ≤ 4000 → P (.fz (.tup [.lst (tL tk), .int bl])) [.lst (iL rs')]
abbrev sp_law_all : DSp := fun ts P => ∃ tk, ts = [.fz (.lst (tL tk))] ∧ tk.length ≤ 4 ∧ ∀ os : List (List Tk), (∀ o ∈ os, o.Perm tk) → (∀ o, o.Perm tk → o ∈ os) → os.length ≤ 24 → P (.lst (os.map fun o => D.lst (tL o))) [.fz (.lst (tL tk))]
abbrev sp_law_late : DSp := fun ts P => ∃ x tk bl, ts = [x, .fz (.int (bl : Nat))] ∧ Lz x tk ∧ Sums tk ∧ P (.fz (jD (late tk bl))) [x, .fz (.int (bl : Nat))]
abbrev sp_law_by_limits : DSp := fun ts P => ∃ tk, ts = [.fz (.lst (tL tk))] ∧ Row tk ∧ P (.lst (tL (srt tk))) [.fz (.lst (tL tk))]
abbrev sp_law_lowest : DSp := fun ts P => ∃ tk bl, ts = [.fz (.lst (tL tk)), .fz (.int (bl : Nat))] ∧ Sums tk ∧ P (lwT (lowest tk bl)) [.fz (.lst (tL tk)), .fz (.int (bl : Nat))]
def duesD (tk : List Tk) (bl : Nat) : List D := [.lst (tL (srt tk)), .bl (late tk bl).isNone, (bestT tk bl).fr, firstD tk bl, (lwT (lowest tk bl)).fr]
abbrev sp_law_dues : DSp := fun ts P => ∃ tk bl, ts = [.fz (.lst (tL tk)), .fz (.int (bl : Nat))] ∧ Row tk ∧ P (.lst (duesD tk bl)) [.fz (.lst (tL tk)), .fz (.int (bl : Nat))]
abbrev sp_law_asked : DSp := fun ts P => ∃ tk bl, ∃ k : Nat, ts = [.fz (.int k), .lst (tL tk), .fz (.int (bl : Nat))] ∧ k < 5 ∧ Row tk ∧ bl ≤ 20 ∧ P (ansT tk bl k) [.fz (.int k), .lst (tL tk), .fz (.int (bl : Nat))]
abbrev sp_law : DSp := fun ts P => ∃ sc : List Int, ts = [.fz (.rol (iL sc))] ∧ sc.length ≤ 63 ∧ P (.fz (.bl true)) [.fz (.rol (iL sc))]

def w_is_name : WS :=
 (wSeq (wIf (wNot (wB (wChain gLe gLe (oV (wC (.int 1))) (oV (wOpN gLen (aCons (oS 0) aNil))) (oV (wC (.int 8))))))
 (wRet (wC (.bl false)))
 wNil)
 (wSeq (wFor (wiV (oS 0)) (zgName 1)
 (wIf (wB (wOp2 (gInAll fun b => !b) (oS 1) (oV (wC (.str "abcdefghijklmnopqrstuvwxyz")))))
 (wRet (wC (.bl false)))
 wNil))
 (wRet (wC (.bl true)))))
abbrev pm_is_name : List Bool := [true]
def w_numbers_fit : WS :=
 (wRet (wAndV (wChain gLe gLe (oV (wC (.int 2))) (oS 0) (oV (wC (.int 20)))) (wAndV (wChain gLe gLe (oV (wC (.int 1))) (oS 1) (oV (wC (.int 20)))) (wChain gLe gLe (oV (wC (.int 1))) (oS 2) (oS 1)))))
abbrev pm_numbers_fit : List Bool := [true, true, true]
def w_check_tasks : WS :=
 (wSeq (wIf (wB (wOp2 gGt (oV (wOpN gLen (aCons (oS 0) aNil))) (oV (wC (.int 4)))))
 wNever
 wNil)
 (wSeq (wSet 2 (wDLit [[.inr "main"], [.inr "any"]] [.bl true, .bl true]))
 (wSeq (wFor (wiV (oS 0)) (zgTup (zgCons (zgName 3) (zgCons (zgName 4) (zgCons (zgName 5) (zgCons (zgName 6) zgNil)))))
 (wSeq (wIf (wOr (wNot (wB (wCall sp_is_name [] (aCons (oS 3) aNil)))) (wOr (wB (wOp2 (gInAll fun b => b) (oS 3) (oS 2))) (wNot (wB (wCall sp_numbers_fit [] (aCons (oS 4) (aCons (oS 5) (aCons (oS 6) aNil))))))))
 wNever
 wNil)
 (wSetKey 2 (wC (.bl true)) (oS 3))))
 (wIf (wNot (wB (wChain gLe gLe (oV (wC (.int 0))) (oS 1) (oV (wC (.int 20))))))
 wNever
 wNil))))
abbrev pm_check_tasks : List Bool := [true, true]
def w_needed : WS :=
 (wSeq (wSet 4 (wOp2 gAdd (oV (wOp2 gIxAll (oV (wOp2 gIxAll (oS 0) (oS 1))) (oV (wC (.int 1))))) (oS 2)))
 (wSeq (wFor (wiV (oV (wSl gSl (oS 0) none (some (oS 1))))) (zgTup (zgCons (zgName 5) (zgCons (zgName 6) (zgCons (zgName 7) (zgCons (zgName 5) zgNil)))))
 (wAug 4 gAddA (oV (wOp2 gMul (oV (wOp1 gNeg (oV (wOp2 gDiv (oV (wOp1 gNeg (oS 3))) (oS 7))))) (oS 6)))))
 (wRet (wMov 4))))
abbrev pm_needed : List Bool := [true, true, true, true]
def w_least_time : WS :=
 (wSeq (wSet 3 (wOp2 gAdd (oV (wOp2 gIxAll (oV (wOp2 gIxAll (oS 0) (oS 1))) (oV (wC (.int 1))))) (oS 2)))
 (wSeq (wWhile (wB (wOp2 gLe (oS 3) (oV (wOp2 gIxAll (oV (wOp2 gIxAll (oS 0) (oS 1))) (oV (wC (.int 2)))))))
 (wSeq (wSet 4 (wCall sp_needed [] (aCons (oS 0) (aCons (oS 1) (aCons (oS 2) (aCons (oS 3) aNil))))))
 (wSeq (wIf (wB (wOp2 gEq (oS 4) (oS 3)))
 (wRet (wMov 3))
 wNil)
 (wSet 3 (wVar 4)))))
 (wRet (wC .non))))
abbrev pm_least_time : List Bool := [true, true, true]
def w_within_limit : WS :=
 (wSeq (wSet 3 (wCall sp_least_time [] (aCons (oS 0) (aCons (oS 1) (aCons (oS 2) aNil)))))
 (wRet (wAndV (wOp2 gIsNot (oS 3) (oV (wC .non))) (wOp2 gLe (oS 3) (oV (wOp2 gIxAll (oV (wOp2 gIxAll (oS 0) (oS 1))) (oV (wC (.int 3)))))))))
abbrev pm_within_limit : List Bool := [true, true, true]
def w_first_late : WS :=
 (wSeq (wFor (wiR1 (aCons (oV (wOpN gLen (aCons (oS 0) aNil))) aNil)) (zgName 2)
 (wIf (wNot (wB (wCall sp_within_limit [] (aCons (oS 0) (aCons (oS 2) (aCons (oS 1) aNil))))))
 (wRet (wMov 2))
 wNil))
 (wRet (wOp1 gNeg (oV (wC (.int 1))))))
abbrev pm_first_late : List Bool := [true, true]
def w_by_limits : WS :=
 (wSeq (wDrop (wCall sp_check_tasks [] (aCons (oS 0) (aCons (oV (wC (.int 0))) aNil))))
 (wRet (wSortK 3 (wLc [1] (wiV (oS 0)) (zgName 1) wYes (wOpN gTuple (aCons (oS 1) aNil))))))
abbrev pm_by_limits : List Bool := [true]
def w_keeps_limits : WS :=
 (wSeq (wDrop (wCall sp_check_tasks [] (aCons (oS 0) (aCons (oS 1) aNil))))
 (wRet (wOp2 gLt (oV (wCall sp_first_late [] (aCons (oS 0) (aCons (oS 1) aNil)))) (oV (wC (.int 0))))))
abbrev pm_keeps_limits : List Bool := [true, true]
def w_best_order : WS :=
 (wSeq (wDrop (wCall sp_check_tasks [] (aCons (oS 0) (aCons (oS 1) aNil))))
 (wSeq (wSet 2 (wCall sp_by_limits [] (aCons (oS 0) aNil)))
 (wSeq (wIf (wB (wOp2 gLt (oV (wCall sp_first_late [] (aCons (oS 2) (aCons (oS 1) aNil)))) (oV (wC (.int 0)))))
 (wRet (wMov 2))
 wNil)
 (wRet (wC .non)))))
abbrev pm_best_order : List Bool := [true, true]
def w_breaking : WS :=
 (wSeq (wDrop (wCall sp_check_tasks [] (aCons (oS 0) (aCons (oS 1) aNil))))
 (wSeq (wSet 2 (wCall sp_by_limits [] (aCons (oS 0) aNil)))
 (wSeq (wSet 3 (wCall sp_first_late [] (aCons (oS 2) (aCons (oS 1) aNil))))
 (wSeq (wIf (wB (wOp2 gLt (oS 3) (oV (wC (.int 0)))))
 (wRet (wC .non))
 wNil)
 (wRet (wOp2 gIxAll (oV (wOp2 gIxAll (oS 2) (oS 3))) (oV (wC (.int 0)))))))))
abbrev pm_breaking : List Bool := [true, true]
def w_last_fit : WS :=
 (wSeq (wFor (wiRd (aCons (oV (wOp2 gSub (oV (wOpN gLen (aCons (oS 0) aNil))) (oV (wC (.int 1))))) (aCons (oV (wOp1 gNeg (oV (wC (.int 1))))) (aCons (oV (wOp1 gNeg (oV (wC (.int 1))))) aNil)))) (zgName 2)
 (wSeq (wSet 3 (wOp2 gAdd (oV (wSl gSl (oS 0) none (some (oS 2)))) (oV (wSl gSl (oS 0) (some (oV (wOp2 gAdd (oS 2) (oV (wC (.int 1)))))) none))))
 (wIf (wB (wCall sp_within_limit [] (aCons (oV (wOp2 gAdd (oS 3) (oV (wLst (aCons (oV (wOp2 gIxAll (oS 0) (oS 2))) aNil))))) (aCons (oV (wOpN gLen (aCons (oS 3) aNil))) (aCons (oS 1) aNil)))))
 (wRet (wMov 2))
 wNil)))
 (wRet (wOp1 gNeg (oV (wC (.int 1))))))
abbrev pm_last_fit : List Bool := [true, true]
def w_lowest_first : WS :=
 (wSeq (wDrop (wCall sp_check_tasks [] (aCons (oS 0) (aCons (oS 1) aNil))))
 (wSeq (wSet 2 (wLc [3] (wiV (oS 0)) (zgName 3) wYes (wOpN gTuple (aCons (oS 3) aNil))))
 (wSeq (wSet 4 (wLst aNil))
 (wSeq (wWhile (wB (wOp2 gGt (oV (wOpN gLen (aCons (oS 2) aNil))) (oV (wC (.int 0)))))
 (wSeq (wSet 5 (wCall sp_last_fit [] (aCons (oS 2) (aCons (oS 1) aNil))))
 (wSeq (wIf (wB (wOp2 gLt (oS 5) (oV (wC (.int 0)))))
 (wRet (wC .non))
 wNil)
 (wDrop (wMut mAppend 4 (aCons (oV (wMut mPopAll 2 (aCons (oV (wVar 5)) aNil))) aNil))))))
 (wSeq (wDrop (wMut mReverse 4 aNil))
 (wRet (wMov 4)))))))
abbrev pm_lowest_first : List Bool := [true, true]
def w_law_tape : WS :=
 (wSeq (wSet 1 (wLst aNil))
 (wSeq (wSet 2 (wOp2 gAdd (oV (wOp2 gMul (oV (wOpN gLen (aCons (oS 0) aNil))) (oV (wC (.int 977))))) (oV (wC (.int 1)))))
 (wSeq (wFor (wiR1 (aCons (oV (wC (.int 63))) aNil)) (zgName 3)
 (wIf (wB (wOp2 gLt (oS 3) (oV (wOpN gLen (aCons (oS 0) aNil)))))
 (wSet 2 (wOp2 gMod (oV (wOpN gInt (aCons (oV (wOp2 gAdd (oV (wOp2 gMul (oS 2) (oV (wC (.int 31))))) (oV (wOp2 gIxAll (oS 0) (oS 3))))) aNil))) (oV (wC (.int 2147483647)))))
 wNil))
 (wSeq (wFor (wiR1 (aCons (oV (wC (.int 200))) aNil)) (zgName 3)
 (wSeq (wSet 2 (wOp2 gMod (oV (wOpN gInt (aCons (oV (wOp2 gAdd (oV (wOp2 gAdd (oV (wOp2 gMul (oS 2) (oV (wC (.int 48271))))) (oV (wOp2 gMul (oV (wC (.int 7))) (oS 3))))) (oV (wC (.int 3))))) aNil))) (oV (wC (.int 2147483647)))))
 (wDrop (wMut mAppend 1 (aCons (oV (wOp2 gDiv (oS 2) (oV (wC (.int 13))))) aNil)))))
 (wSeq (wFor (wiR1 (aCons (oV (wC (.int 63))) aNil)) (zgName 3)
 (wIf (wB (wOp2 gLt (oS 3) (oV (wOpN gLen (aCons (oS 0) aNil)))))
 (wSeq (wSet 4 (wOp2 gIxAll (oS 0) (oS 3)))
 (wIf (wB (wOp2 gGe (oS 4) (oV (wOp2 gPow (oV (wC (.int 10))) (oV (wC (.int 18)))))))
 (wFor (wiR1 (aCons (oV (wC (.int 24))) aNil)) (zgName 5)
 (wIf (wB (wOp2 gGt (oS 4) (oV (wC (.int 0)))))
 (wSeq (wDrop (wMut mAppend 1 (aCons (oV (wOp2 gMod (oV (wOpN gInt (aCons (oS 4) aNil))) (oV (wC (.int 5040))))) aNil)))
 (wSet 4 (wOp2 gDiv (oS 4) (oV (wC (.int 5040))))))
 wNil))
 (wSeq (wSet 6 (wOp2 gMod (oV (wOpN gInt (aCons (oV (wOp2 gAdd (oV (wOp2 gAdd (oV (wOp2 gMul (oS 4) (oV (wC (.int 48271))))) (oV (wOp2 gMul (oS 3) (oV (wC (.int 69621))))))) (oV (wC (.int 11))))) aNil))) (oV (wC (.int 2147483647)))))
 (wSeq (wDrop (wMut mAppend 1 (aCons (oV (wOp2 gDiv (oV (wOp2 gMod (oV (wOpN gInt (aCons (oV (wOp2 gAdd (oV (wOp2 gMul (oS 6) (oV (wC (.int 16807))))) (oS 3))) aNil))) (oV (wC (.int 2147483629))))) (oV (wC (.int 7))))) aNil)))
 (wDrop (wMut mAppend 1 (aCons (oV (wOp2 gDiv (oV (wOp2 gMod (oV (wOpN gInt (aCons (oV (wOp2 gAdd (oV (wOp2 gMul (oS 6) (oV (wC (.int 39373))))) (oV (wC (.int 5))))) aNil))) (oV (wC (.int 2147483587))))) (oV (wC (.int 11))))) aNil)))))))
 wNil))
 (wRet (wMov 1)))))))
abbrev pm_law_tape : List Bool := [true]
def w_law_draw : WS :=
 (wSeq (wIf (wB (wOp2 gEq (oV (wOpN gLen (aCons (oS 0) aNil))) (oV (wC (.int 0)))))
 (wRet (wC (.int 0)))
 wNil)
 (wRet (wOp2 gMod (oV (wOpN gInt (aCons (oV (wMut mPopAll 0 aNil)) aNil))) (oS 1))))
abbrev pm_law_draw : List Bool := [true, true]
def w_law_name : WS :=
 (wSeq (wSet 2 (wC (.str "abcdefghijklmnopqrstuvwxyz")))
 (wSeq (wSet 3 (wC (.str "")))
 (wSeq (wFor (wiR1 (aCons (oV (wOp2 gAdd (oV (wC (.int 1))) (oV (wCall sp_law_draw [] (aCons (oS 0) (aCons (oV (wC (.int 8))) aNil)))))) aNil)) (zgName 4)
 (wSet 3 (wOp2 gAdd (oS 3) (oV (wOp2 gIxAll (oS 2) (oV (wCall sp_law_draw [] (aCons (oS 0) (aCons (oV (wC (.int 26))) aNil)))))))))
 (wSeq (wSet 5 (wVar 3))
 (wSeq (wFor (wiR1 (aCons (oV (wC (.int 26))) aNil)) (zgName 4)
 (wIf (wOr (wB (wOp2 (gInAll fun b => b) (oS 5) (oS 1))) (wOr (wB (wOp2 gEq (oS 5) (oV (wC (.str "main"))))) (wB (wOp2 gEq (oS 5) (oV (wC (.str "any")))))))
 (wSet 5 (wOp2 gAdd (oV (wOp2 gIxAll (oS 2) (oS 4))) (oV (wSl gSl (oS 3) none (some (oV (wC (.int 7))))))))
 wNil))
 (wSeq (wDrop (wMut mAppend 1 (aCons (oV (wVar 5)) aNil)))
 (wRet (wMov 5))))))))
abbrev pm_law_name : List Bool := [true, true]
def w_law_response : WS :=
 (wSeq (wFor (wiR2 (aCons (oV (wC (.int 1))) (aCons (oV (wOp2 gAdd (oV (wOp2 gIxAll (oS 0) (oV (wC (.int 2))))) (oV (wC (.int 1))))) aNil))) (zgName 3)
 (wSeq (wSet 4 (wOp2 gAdd (oV (wOp2 gIxAll (oS 0) (oV (wC (.int 1))))) (oS 2)))
 (wSeq (wFor (wiV (oS 1)) (zgName 5)
 (wSeq (wSet 6 (wOp2 gDiv (oV (wOpN gInt (aCons (oS 3) aNil))) (oV (wOp2 gIxAll (oS 5) (oV (wC (.int 2)))))))
 (wSeq (wIf (wB (wOp2 gLt (oV (wOp2 gMul (oS 6) (oV (wOp2 gIxAll (oS 5) (oV (wC (.int 2))))))) (oS 3)))
 (wSet 6 (wOp2 gAdd (oS 6) (oV (wC (.int 1)))))
 wNil)
 (wSet 4 (wOp2 gAdd (oS 4) (oV (wOp2 gMul (oS 6) (oV (wOp2 gIxAll (oS 5) (oV (wC (.int 1))))))))))))
 (wIf (wB (wOp2 gEq (oS 4) (oS 3)))
 (wRet (wMov 3))
 wNil))))
 (wRet (wC .non)))
abbrev pm_law_response : List Bool := [true, true, true]
def w_law_keeps : WS :=
 (wSeq (wSet 3 (wCall sp_law_response [] (aCons (oS 0) (aCons (oS 1) (aCons (oS 2) aNil)))))
 (wRet (wAndV (wOp2 gIsNot (oS 3) (oV (wC .non))) (wOp2 gLe (oS 3) (oV (wOp2 gIxAll (oS 0) (oV (wC (.int 3)))))))))
abbrev pm_law_keeps : List Bool := [true, true, true]
def w_law_row : WS :=
 (wSeq (wSet 1 (wLst aNil))
 (wSeq (wSet 2 (wCall sp_law_draw [] (aCons (oS 0) (aCons (oV (wC (.int 3))) aNil))))
 (wSeq (wIf (wB (wOp2 gEq (oV (wCall sp_law_draw [] (aCons (oS 0) (aCons (oV (wC (.int 4))) aNil)))) (oV (wC (.int 0)))))
 (wSet 2 (wCall sp_law_draw [] (aCons (oS 0) (aCons (oV (wC (.int 21))) aNil))))
 wNil)
 (wSeq (wSet 3 (wLst aNil))
 (wSeq (wFor (wiR1 (aCons (oV (wCall sp_law_draw [] (aCons (oS 0) (aCons (oV (wC (.int 5))) aNil)))) aNil)) (zgName 4)
 (wSeq (wSet 5 (wCall sp_law_name [] (aCons (oS 0) (aCons (oS 1) aNil))))
 (wSeq (wSet 6 (wOp2 gAdd (oV (wC (.int 2))) (oV (wCall sp_law_draw [] (aCons (oS 0) (aCons (oV (wC (.int 3))) aNil))))))
 (wSeq (wIf (wB (wOp2 gEq (oV (wCall sp_law_draw [] (aCons (oS 0) (aCons (oV (wC (.int 4))) aNil)))) (oV (wC (.int 0)))))
 (wSet 6 (wOp2 gAdd (oV (wC (.int 2))) (oV (wCall sp_law_draw [] (aCons (oS 0) (aCons (oV (wC (.int 19))) aNil))))))
 wNil)
 (wSeq (wSet 7 (wOp2 gAdd (oV (wC (.int 1))) (oV (wCall sp_law_draw [] (aCons (oS 0) (aCons (oV (wC (.int 20))) aNil))))))
 (wSeq (wSet 8 (wCall sp_law_response [] (aCons (oV (wTup (aCons (oV (wVar 5)) (aCons (oV (wVar 6)) (aCons (oV (wC (.int 20))) (aCons (oV (wC (.int 1))) aNil)))))) (aCons (oS 3) (aCons (oS 2) aNil)))))
 (wSeq (wIf (wAnd (wB (wOp2 gIsNot (oS 8) (oV (wC .non)))) (wB (wOp2 gGt (oV (wCall sp_law_draw [] (aCons (oS 0) (aCons (oV (wC (.int 4))) aNil)))) (oV (wC (.int 0))))))
 (wSet 7 (wOpN gMin (aCons (oV (wC (.int 20))) (aCons (oV (wOp2 gAdd (oS 8) (oV (wCall sp_law_draw [] (aCons (oS 0) (aCons (oV (wC (.int 8))) aNil)))))) aNil))))
 wNil)
 (wSeq (wSet 9 (wOp2 gAdd (oV (wC (.int 1))) (oV (wCall sp_law_draw [] (aCons (oS 0) (aCons (oS 7) aNil))))))
 (wSeq (wIf (wAnd (wB (wOp2 gIsNot (oS 8) (oV (wC .non)))) (wB (wOp2 gGt (oV (wCall sp_law_draw [] (aCons (oS 0) (aCons (oV (wC (.int 4))) aNil)))) (oV (wC (.int 0))))))
 (wSet 9 (wOpN gMax (aCons (oV (wC (.int 1))) (aCons (oV (wOpN gMin (aCons (oS 7) (aCons (oV (wOp2 gAdd (oV (wOp2 gSub (oS 8) (oV (wC (.int 1))))) (oV (wCall sp_law_draw [] (aCons (oS 0) (aCons (oV (wC (.int 4))) aNil)))))) aNil)))) aNil))))
 wNil)
 (wSeq (wIf (wAnd (wB (wOp2 gGt (oS 4) (oV (wC (.int 0))))) (wB (wOp2 gEq (oV (wCall sp_law_draw [] (aCons (oS 0) (aCons (oV (wC (.int 5))) aNil)))) (oV (wC (.int 0))))))
 (wSet 9 (wOpN gMin (aCons (oS 7) (aCons (oV (wOp2 gIxAll (oV (wOp2 gIxAll (oS 3) (oV (wOp1 gNeg (oV (wC (.int 1))))))) (oV (wC (.int 3))))) aNil))))
 wNil)
 (wDrop (wMut mAppend 3 (aCons (oV (wTup (aCons (oV (wVar 5)) (aCons (oV (wVar 6)) (aCons (oV (wVar 7)) (aCons (oV (wVar 9)) aNil)))))) aNil)))))))))))))
 (wSeq (wSet 10 (wLst aNil))
 (wSeq (wPin 3 (wFor (wiV (oS 3)) (zgName 11)
 (wDrop (wMut mInsert 10 (aCons (oV (wCall sp_law_draw [] (aCons (oS 0) (aCons (oV (wOp2 gAdd (oV (wOpN gLen (aCons (oS 10) aNil))) (oV (wC (.int 1))))) aNil)))) (aCons (oV (wVar 11)) aNil))))))
 (wRet (wTup (aCons (oV (wVar 10)) (aCons (oV (wVar 2)) aNil)))))))))))
abbrev pm_law_row : List Bool := [true]
def w_law_all : WS :=
 (wSeq (wSet 1 (wLst (aCons (oV (wLst aNil)) aNil)))
 (wSeq (wFor (wiV (oS 0)) (zgName 2)
 (wSeq (wSet 3 (wLst aNil))
 (wSeq (wPin 1 (wFor (wiV (oS 1)) (zgName 4)
 (wFor (wiR1 (aCons (oV (wOp2 gAdd (oV (wOpN gLen (aCons (oS 4) aNil))) (oV (wC (.int 1))))) aNil)) (zgName 5)
 (wDrop (wMut mAppend 3 (aCons (oV (wOp2 gAdd (oV (wOp2 gAdd (oV (wSl gSl (oS 4) none (some (oS 5)))) (oV (wLst (aCons (oV (wVar 2)) aNil))))) (oV (wSl gSl (oS 4) (some (oS 5)) none)))) aNil))))))
 (wSet 1 (wMov 3)))))
 (wRet (wMov 1))))
abbrev pm_law_all : List Bool := [true]
def w_law_late : WS :=
 (wSeq (wFor (wiR1 (aCons (oV (wOpN gLen (aCons (oS 0) aNil))) aNil)) (zgName 2)
 (wIf (wNot (wB (wCall sp_law_keeps [] (aCons (oV (wOp2 gIxAll (oS 0) (oS 2))) (aCons (oV (wSl gSl (oS 0) none (some (oS 2)))) (aCons (oS 1) aNil))))))
 (wRet (wMov 2))
 wNil))
 (wRet (wOp1 gNeg (oV (wC (.int 1))))))
abbrev pm_law_late : List Bool := [true, true]
def w_law_by_limits : WS :=
 (wSeq (wSet 1 (wLst aNil))
 (wSeq (wFor (wiR2 (aCons (oV (wC (.int 1))) (aCons (oV (wC (.int 21))) aNil))) (zgName 2)
 (wSet 1 (wOp2 gAdd (oS 1) (oV (wLc [3] (wiV (oS 0)) (zgName 3) (wB (wOp2 gEq (oV (wOp2 gIxAll (oS 3) (oV (wC (.int 3))))) (oS 2))) (wVar 3))))))
 (wRet (wMov 1))))
abbrev pm_law_by_limits : List Bool := [true]
def w_law_lowest : WS :=
 (wSeq (wSet 2 (wOpN gList (aCons (oS 0) aNil)))
 (wSeq (wSet 3 (wLst aNil))
 (wSeq (wFor (wiR1 (aCons (oV (wOpN gLen (aCons (oS 0) aNil))) aNil)) (zgName 4)
 (wSeq (wSet 5 (wOp1 gNeg (oV (wC (.int 1)))))
 (wSeq (wFor (wiR1 (aCons (oV (wOpN gLen (aCons (oS 2) aNil))) aNil)) (zgName 6)
 (wIf (wB (wCall sp_law_keeps [] (aCons (oV (wOp2 gIxAll (oS 2) (oS 6))) (aCons (oV (wOp2 gAdd (oV (wSl gSl (oS 2) none (some (oS 6)))) (oV (wSl gSl (oS 2) (some (oV (wOp2 gAdd (oS 6) (oV (wC (.int 1)))))) none)))) (aCons (oS 1) aNil)))))
 (wSet 5 (wVar 6))
 wNil))
 (wSeq (wIf (wB (wOp2 gLt (oS 5) (oV (wC (.int 0)))))
 (wRet (wC .non))
 wNil)
 (wSeq (wSet 3 (wOp2 gAdd (oV (wLst (aCons (oV (wOp2 gIxAll (oS 2) (oS 5))) aNil))) (oS 3)))
 (wSet 2 (wOp2 gAdd (oV (wSl gSl (oS 2) none (some (oS 5)))) (oV (wSl gSl (oS 2) (some (oV (wOp2 gAdd (oS 5) (oV (wC (.int 1)))))) none)))))))))
 (wRet (wMov 3)))))
abbrev pm_law_lowest : List Bool := [true, true]
def w_law_dues : WS :=
 (wSeq (wSet 2 (wLk (wCall sp_law_by_limits [] (aCons (oS 0) aNil))))
 (wSeq (wSet 3 (wLc [4] (wiV (oV (wCall sp_law_all [] (aCons (oS 0) aNil)))) (zgName 4) (wB (wOp2 gLt (oV (wCall sp_law_late [] (aCons (oS 4) (aCons (oS 1) aNil)))) (oV (wC (.int 0))))) (wVar 4)))
 (wSeq (wSet 5 (wCall sp_law_lowest [] (aCons (oS 0) (aCons (oS 1) aNil))))
 (wSeq (wIf (wB (wOp2 gNe (oV (wOp2 gGt (oV (wOpN gLen (aCons (oS 3) aNil))) (oV (wC (.int 0))))) (oV (wOp2 gIsNot (oS 5) (oV (wC .non))))))
 (wRet (wC .non))
 wNil)
 (wSeq (wSet 6 (wCall sp_law_late [] (aCons (oS 2) (aCons (oS 1) aNil))))
 (wSeq (wSet 7 (wVar 2))
 (wSeq (wSet 8 (wC .non))
 (wSeq (wIf (wB (wOp2 gEq (oV (wOpN gLen (aCons (oS 3) aNil))) (oV (wC (.int 0)))))
 (wSet 7 (wC .non))
 wNil)
 (wSeq (wIf (wB (wOp2 gGe (oS 6) (oV (wC (.int 0)))))
 (wSet 8 (wOp2 gIxAll (oV (wOp2 gIxAll (oS 2) (oS 6))) (oV (wC (.int 0)))))
 wNil)
 (wRet (wLst (aCons (oV (wVar 2)) (aCons (oV (wOp2 gLt (oV (wCall sp_law_late [] (aCons (oS 0) (aCons (oS 1) aNil)))) (oV (wC (.int 0))))) (aCons (oV (wVar 7)) (aCons (oV (wVar 8)) (aCons (oV (wVar 5)) aNil))))))))))))))))
abbrev pm_law_dues : List Bool := [true, true]
def w_law_asked : WS :=
 (wSeq (wIf (wB (wOp2 gEq (oS 0) (oV (wC (.int 0)))))
 (wRet (wCall sp_by_limits [] (aCons (oS 1) aNil)))
 wNil)
 (wSeq (wIf (wB (wOp2 gEq (oS 0) (oV (wC (.int 1)))))
 (wRet (wCall sp_keeps_limits [] (aCons (oS 1) (aCons (oS 2) aNil))))
 wNil)
 (wSeq (wIf (wB (wOp2 gEq (oS 0) (oV (wC (.int 2)))))
 (wRet (wCall sp_best_order [] (aCons (oS 1) (aCons (oS 2) aNil))))
 wNil)
 (wSeq (wIf (wB (wOp2 gEq (oS 0) (oV (wC (.int 3)))))
 (wRet (wCall sp_breaking [] (aCons (oS 1) (aCons (oS 2) aNil))))
 wNil)
 (wRet (wCall sp_lowest_first [] (aCons (oS 1) (aCons (oS 2) aNil))))))))
abbrev pm_law_asked : List Bool := [true, true, true]
def w_law : WS :=
 (wSeq (wSet 1 (wCall sp_law_tape [] (aCons (oS 0) aNil)))
 (wSeq (wSet 2 (wCall sp_law_draw [] (aCons (oS 1) (aCons (oV (wC (.int 5))) aNil))))
 (wSeq (wAsg (wCall sp_law_row [] (aCons (oS 1) aNil)) (zgTup (zgCons (zgName 3) (zgCons (zgName 4) zgNil))))
 (wSeq (wSet 5 (wCall sp_law_dues [] (aCons (oS 3) (aCons (oS 4) aNil))))
 (wSeq (wIf (wB (wOp2 gIs (oS 5) (oV (wC .non))))
 (wRet (wC (.bl false)))
 wNil)
 (wSeq (wFor (wiR1 (aCons (oV (wC (.int 10))) aNil)) (zgName 6)
 (wSeq (wSet 7 (wOp2 gMod (oV (wOpN gInt (aCons (oV (wOp2 gAdd (oS 2) (oV (wOp2 gMul (oV (wC (.int 3))) (oS 6))))) aNil))) (oV (wC (.int 5)))))
 (wSeq (wSet 8 (wOpN gList (aCons (oS 3) aNil)))
 (wSeq (wSet 9 (wCall sp_law_asked [] (aCons (oS 7) (aCons (oS 8) (aCons (oS 4) aNil)))))
 (wSeq (wIf (wOr (wB (wOp2 gNe (oV (wOpN gRepr (aCons (oS 9) aNil))) (oV (wOpN gRepr (aCons (oV (wOp2 gIxAll (oS 5) (oS 7))) aNil))))) (wB (wOp2 gNe (oV (wOpN gRepr (aCons (oS 8) aNil))) (oV (wOpN gRepr (aCons (oS 3) aNil))))))
 (wRet (wC (.bl false)))
 wNil)
 (wSeq (wIf (wB (wOpN gIsi (aCons (oS 9) (aCons (oV (wC (.ty "list"))) aNil))))
 (wSeq (wIf (wAnd (wB (wOp2 gGt (oS 7) (oV (wC (.int 0))))) (wB (wOp2 gIsNot (oV (wCall sp_keeps_limits [] (aCons (oV (wOpN gList (aCons (oS 9) aNil))) (aCons (oS 4) aNil)))) (oV (wC (.bl true))))))
 (wRet (wC (.bl false)))
 wNil)
 (wDrop (wMut mAppend 9 (aCons (oV (wTup (aCons (oV (wC (.str "zz"))) (aCons (oV (wC (.int 2))) (aCons (oV (wC (.int 20))) (aCons (oV (wC (.int 1))) aNil)))))) aNil))))
 wNil)
 (wDrop (wMut mInsert 8 (aCons (oV (wC (.int 0))) (aCons (oV (wTup (aCons (oV (wC (.str "zz"))) (aCons (oV (wC (.int 20))) (aCons (oV (wC (.int 20))) (aCons (oV (wC (.int 1))) aNil)))))) aNil))))))))))
 (wRet (wC (.bl true)))))))))
abbrev pm_law : List Bool := [true]

/-! ### plain law: demands and least times -/
theorem edu {x g m : Int} (hg : 0 < g) (h1 : m * g ≤ x) (h2 : x < (m + 1) * g) : x / g = m := by
  have a := Int.le_ediv_of_mul_le hg h1
  have b := Int.ediv_lt_of_lt_mul hg h2
  omega
theorem cdv_up {t g : Int} (hg : 0 < g) (h : t / g * g < t) : t / g + 1 = cdv t g := by
  have h1 := Int.ediv_mul_le t (Int.ne_of_gt hg)
  have h2 := Int.lt_ediv_add_one_mul_self t hg
  have e : (-t) / g = -(t / g) - 1 := edu hg (by rw [Int.sub_mul, Int.neg_mul]; rw [Int.add_mul] at h2; omega) (by rw [show -(t / g) - 1 + 1 = -(t / g) by omega, Int.neg_mul]; omega)
  unfold cdv; rw [e]; omega
theorem cdv_eq {t g : Int} (hg : 0 < g) (h : ¬ t / g * g < t) : t / g = cdv t g := by
  have h1 := Int.ediv_mul_le t (Int.ne_of_gt hg)
  have e : (-t) / g = -(t / g) := edu hg (by rw [Int.neg_mul]; omega) (by rw [Int.add_mul, Int.neg_mul]; omega)
  unfold cdv; rw [e]; omega
theorem cdv_mono {t u g : Int} (hg : 0 < g) (h : t ≤ u) : cdv t g ≤ cdv u g := by
  have := Int.ediv_le_ediv (c := g) hg (show -u ≤ -t by omega)
  unfold cdv; omega
theorem cdv_nn {t g : Int} (hg : 0 < g) (h : 0 ≤ t) : 0 ≤ cdv t g := by
  have := cdv_mono hg h
  have e : cdv 0 g = 0 := by unfold cdv; simp
  omega
theorem fold_mono {t u : Int} (htu : t ≤ u) : ∀ (l : List Tk), (∀ r ∈ l, r.Fits) → ∀ a b : Int, a ≤ b → l.foldl (ndF t) a ≤ l.foldl (ndF u) b
  | [], _, _, _, h => h
  | r :: l, hf, a, b, h => by
    have hr := hf r (List.mem_cons_self ..)
    have h1 := hr.g1
    have c := cdv_mono (g := r.g) (by omega) htu
    have := Int.mul_le_mul_of_nonneg_right c (show (0 : Int) ≤ r.w by omega)
    exact fold_mono htu l (fun x hx => hf x (List.mem_cons_of_mem _ hx)) (ndF t a r) (ndF u b r) (by unfold ndF; omega)
theorem fold_ge {t : Int} (ht : 0 ≤ t) : ∀ (l : List Tk), (∀ r ∈ l, r.Fits) → ∀ a : Int, a ≤ l.foldl (ndF t) a
  | [], _, _ => Int.le_refl _
  | r :: l, hf, a => by
    have hr := hf r (List.mem_cons_self ..)
    have h1 := hr.g1
    have c := cdv_nn (g := r.g) (by omega) ht
    have := Int.mul_nonneg c (show (0 : Int) ≤ r.w by omega)
    exact Int.le_trans (show a ≤ ndF t a r by unfold ndF; omega) (fold_ge ht l (fun x hx => hf x (List.mem_cons_of_mem _ hx)) _)
section
variable {ts : List Tk} {i bl : Nat}
theorem Sums.take (h : Sums ts) : ∀ r ∈ ts.take i, r.Fits := fun r hr => h.fit r (List.mem_of_mem_take hr)
theorem nd_mono (h : Sums ts) {t u : Int} (htu : t ≤ u) : ndI ts i bl t ≤ ndI ts i bl u := fold_mono htu _ h.take _ _ (Int.le_refl _)
theorem nd_ge (h : Sums ts) {t : Int} (ht : 0 ≤ t) : (wk ts i : Int) + bl ≤ ndI ts i bl t := fold_ge ht _ h.take _
theorem wk_of {r : Tk} (e : ts[i]? = some r) : wk ts i = r.w := by unfold wk; rw [e]; rfl
theorem gp_of {r : Tk} (e : ts[i]? = some r) : gp ts i = r.g := by unfold gp; rw [e]; rfl
theorem gp_le (h : Sums ts) : gp ts i ≤ 20 := by
  cases e : ts[i]? with
  | none => unfold gp; rw [e]; exact Nat.zero_le _
  | some r => rw [gp_of e]; exact (h.fit r (List.mem_of_getElem? e)).g20
end
section
variable {f : Nat → Bool}
theorem rspF_none : ∀ {n t : Nat}, (∀ s, t ≤ s → s < t + n → f s = false) → rspF f t n = none
  | 0, _, _ => rfl
  | n + 1, t, h => by
    show (if f t = true then some t else rspF f (t + 1) n) = none
    rw [h t (Nat.le_refl _) (by omega), if_neg (by decide)]
    exact rspF_none fun s h1 h2 => h s (by omega) (by omega)
theorem rspF_some : ∀ {n t u : Nat}, t ≤ u → u < t + n → f u = true → (∀ s, t ≤ s → s < u → f s = false) → rspF f t n = some u
  | 0, _, _, h1, h2, _, _ => absurd h2 (by omega)
  | n + 1, t, u, h1, h2, h3, h4 => by
    show (if f t = true then some t else rspF f (t + 1) n) = some u
    by_cases e : t = u
    · subst e; rw [h3, if_pos rfl]
    · rw [h4 t (Nat.le_refl _) (by omega), if_neg (by decide)]
      exact rspF_some (by omega) (by omega) h3 fun s a b => h4 s (by omega) b
theorem rspF_lt : ∀ {n t u : Nat}, rspF f t n = some u → t ≤ u ∧ u < t + n
  | 0, _, _, h => nomatch h
  | n + 1, t, u, h => by
    have h : (if f t = true then some t else rspF f (t + 1) n) = some u := h
    split at h
    · cases h; omega
    · have := rspF_lt h; omega
end
section
variable {ts : List Tk} {i bl m : Nat}
theorem rsp_none (h : ∀ s : Nat, 1 ≤ s → s ≤ m → ndI ts i bl s ≠ s) : rsp ts i bl m = none := rspF_none fun s h1 h2 => decide_eq_false (h s h1 (by omega))
theorem rsp_some {u : Nat} (h1 : 1 ≤ u) (h2 : u ≤ m) (h3 : ndI ts i bl u = u) (h4 : ∀ s : Nat, 1 ≤ s → s < u → ndI ts i bl s ≠ s) : rsp ts i bl m = some u := rspF_some h1 (by omega) (decide_eq_true h3) fun s a b => decide_eq_false (h4 s a b)
theorem rsp_le {u : Nat} (h : rsp ts i bl m = some u) : 1 ≤ u ∧ u ≤ m := by have := rspF_lt h; omega
end

theorem red_is_name : ∀ ts P, sp_is_name ts P → w_is_name (fin pm_is_name ts P) (Zl.entry 2 ts) := by
  rintro _ P ⟨s, rfl, hl, h⟩
  have el : s.length = s.cps.toList.length := str_len s
  refine ⟨hl, fun k => ⟨fun k2 => ?_, fun k2 => ?_⟩, fun k => ⟨fun _ => ?_, fun k2 => noF k2⟩⟩
  · refine h false ⟨fun z => (nomatch z), fun z => ?_⟩
    have k2 : (!decide ((s.length : Int) ≤ 8)) = true := k2
    have := z.few
    rw [decide_eq_true (by omega)] at k2
    cases k2
  · have k : (1 : Int) ≤ s.length := of_decide_eq_true k
    have k2 : (!decide ((s.length : Int) ≤ 8)) = false := k2
    have k2 : (s.length : Int) ≤ 8 := by
      by_cases z : (s.length : Int) ≤ 8
      · exact z
      · rw [decide_eq_false z] at k2; cases k2
    refine for_inv (fun j e => (∀ c ∈ s.cps.toList.take j, 97 ≤ c ∧ c ≤ 122) ∧ ∃ o, e = [some (.fz (.str s)), o]) ⟨by simp, none, rfl⟩ ?_ ?_ ?_
    · rintro j e ⟨_, o, rfl⟩; rfl
    · rintro j d e hd ⟨hc, o, rfl⟩ K hK
      obtain ⟨c, hcj, rfl⟩ := map_get hd
      refine ⟨fun k3 => ?_, fun k3 => ?_⟩
      · have k3 : (!decide (c ∈ sAz.cps.toList)) = true := k3
        refine h false ⟨fun z => (nomatch z), fun z => ?_⟩
        have := z.low c (List.mem_of_getElem? hcj)
        rw [decide_eq_true ((az_mem c).mpr this)] at k3
        cases k3
      · have k3 : (!decide (c ∈ sAz.cps.toList)) = false := k3
        refine hK _ ⟨fun x hx => ?_, _, rfl⟩
        rw [take_snoc hcj] at hx
        rcases List.mem_append.mp hx with z | z
        · exact hc x z
        · rw [List.mem_singleton.mp z]
          by_cases y : c ∈ sAz.cps.toList
          · exact (az_mem c).mp y
          · rw [decide_eq_false y] at k3; cases k3
    · rintro e ⟨hc, o, rfl⟩
      rw [List.length_map, List.take_length] at hc
      exact h true ⟨fun _ => ⟨by omega, by omega, hc⟩, fun _ => rfl⟩
  · have k : ¬ (1 : Int) ≤ s.length := of_decide_eq_false k
    refine h false ⟨fun z => (nomatch z), fun z => ?_⟩
    have := z.pos
    omega
theorem red_numbers_fit : ∀ ts P, sp_numbers_fit ts P → w_numbers_fit (fin pm_numbers_fit ts P) (Zl.entry 3 ts) := by
  rintro _ P ⟨w, g, l, rfl, h⟩
  have no : ∀ {p : Prop}, ¬ p → (2 ≤ w ∧ w ≤ 20 ∧ 1 ≤ g ∧ g ≤ 20 ∧ 1 ≤ l ∧ l ≤ g → p) → P (.fz (.bl false)) [.fz (.int w), .fz (.int g), .fz (.int l)] := fun hn hp => h false ⟨fun z => (nomatch z), fun z => absurd (hp z) hn⟩
  refine ⟨fun k1 => ⟨fun k2 => ⟨fun k3 => ⟨fun k4 => ⟨fun k5 => ?_, fun k5 => ?_⟩, fun k4 => ?_⟩, fun k3 => ⟨fun k4 => noT k4, fun _ => ?_⟩⟩, fun k2 => ?_⟩, fun k1 => ⟨fun k2 => noT k2, fun _ => ?_⟩⟩
  · have k1 : 2 ≤ w := of_decide_eq_true k1
    have k2 : w ≤ 20 := of_decide_eq_true k2
    have k3 : 1 ≤ g := of_decide_eq_true k3
    have k4 : g ≤ 20 := of_decide_eq_true k4
    have k5 : 1 ≤ l := of_decide_eq_true k5
    refine h _ ⟨fun z => ?_, fun z => ?_⟩
    · have z : l ≤ g := of_decide_eq_true z
      omega
    · exact decide_eq_true (show l ≤ g by omega)
  · have k5 : ¬ 1 ≤ l := of_decide_eq_false k5
    exact no k5 fun z => by omega
  · have k4 : ¬ g ≤ 20 := of_decide_eq_false k4
    exact no k4 fun z => by omega
  · have k3 : ¬ 1 ≤ g := of_decide_eq_false k3
    exact no k3 fun z => by omega
  · have k2 : ¬ w ≤ 20 := of_decide_eq_false k2
    exact no k2 fun z => by omega
  · have k1 : ¬ 2 ≤ w := of_decide_eq_false k1
    exact no k1 fun z => by omega

theorem red_law_tape : ∀ ts P, sp_law_tape ts P → w_law_tape (fin pm_law_tape ts P) (Zl.entry 7 ts) := by
  rintro _ P ⟨sc, rfl, hsc, h⟩
  refine ⟨Nat.zero_le _, cmR rfl, ⟨by decide, by decide⟩, ?_⟩
  refine for_inv (fun i e => ∃ (seed : Int) (o : Option T), e = [some (.fz (.rol (iL sc))), some (.lst []), some (.fz (.int seed)), o, none, none, none]) ⟨_, _, rfl⟩ ?_ ?_ ?_
  · intros; trivial
  · rintro i d e hd ⟨seed, o, rfl⟩ K hK
    obtain ⟨hi, rfl⟩ := rng_get hd
    refine ⟨fun k => ?_, fun k => hK _ ⟨_, _, rfl⟩⟩
    have k : (i : Int) < (iL sc).length := of_decide_eq_true k
    rw [List.length_map] at k
    have hx : (iL sc)[i]? = some (.int (sc.getD i 0)) := iL_at (by omega)
    refine ⟨cmR rfl, ?_⟩
    conv => whnf
    rw [atI_nat hx]
    exact ⟨by decide, hK _ ⟨_, _, rfl⟩⟩
  rintro e ⟨seed, o, rfl⟩
  refine ⟨⟨by decide, by decide⟩, ?_⟩
  refine for_inv (fun i e => ∃ (seed : Int) (rs : List D) (o : Option T), AllI rs ∧ rs.length = i ∧ e = [some (.fz (.rol (iL sc))), some (.lst rs), some (.fz (.int seed)), o, none, none, none]) ⟨_, _, _, .nil, rfl, rfl⟩ ?_ ?_ ?_
  · intros; trivial
  · rintro i d e hd ⟨seed, rs, o, ha, hr, rfl⟩ K hK
    obtain ⟨hi, rfl⟩ := rng_get hd
    have hi : i < 200 := hi
    exact ⟨cmR rfl, cmL rfl, by decide, trivial, ⟨by decide, by decide⟩, szl (by omega), hK _ ⟨_, _, _, ha.add, len_addE hr, rfl⟩⟩
  rintro e ⟨seed, rs, o, ha, hr, rfl⟩
  have hr : rs.length = 200 := hr
  refine ⟨⟨by decide, by decide⟩, ?_⟩
  refine for_inv (fun i e => ∃ (rs : List D) (o3 o4 o5 o6 : Option T), AllI rs ∧ rs.length ≤ 200 + i * 24 ∧ e = [some (.fz (.rol (iL sc))), some (.lst rs), some (.fz (.int seed)), o3, o4, o5, o6]) ⟨_, _, _, _, _, ha, by omega, rfl⟩ ?_ ?_ ?_
  · intros; trivial
  · rintro i d e hd ⟨rs, o3, o4, o5, o6, ha, hr, rfl⟩ K hK
    obtain ⟨hi, rfl⟩ := rng_get hd
    have hi : i < 63 := hi
    refine ⟨fun k => ?_, fun k => hK _ ⟨_, _, _, _, _, ha, by omega, rfl⟩⟩
    have k : (i : Int) < (iL sc).length := of_decide_eq_true k
    rw [List.length_map] at k
    have hx : (iL sc)[i]? = some (.int (sc.getD i 0)) := iL_at (by omega)
    conv => whnf
    rw [atI_nat hx]
    refine ⟨⟨by decide, by decide, by decide⟩, fun _ => ?_, fun _ => ?_⟩
    · refine ⟨⟨by decide, by decide⟩, ?_⟩
      refine for_inv (fun j e => ∃ (cell : Int) (rs : List D) (o5 : Option T), AllI rs ∧ rs.length ≤ 200 + i * 24 + j ∧ e = [some (.fz (.rol (iL sc))), some (.lst rs), some (.fz (.int seed)), some (.fz (.int i)), some (.fz (.int cell)), o5, o6]) ⟨_, _, _, ha, by omega, rfl⟩ ?_ ?_ ?_
      · intros; trivial
      · rintro j d e hd ⟨cell, rs, o5, ha, hr, rfl⟩ K2 hK2
        obtain ⟨hj, rfl⟩ := rng_get hd
        have hj : j < 24 := hj
        refine ⟨fun _ => ?_, fun _ => hK2 _ ⟨_, _, _, ha, by omega, rfl⟩⟩
        exact ⟨trivial, by decide, szl (by omega), ⟨by decide, by decide⟩, hK2 _ ⟨_, _, _, ha.add, len_add hr, rfl⟩⟩
      · rintro e ⟨cell, rs, o5, ha, hr, rfl⟩
        have hr : rs.length ≤ 200 + i * 24 + 24 := hr
        exact hK _ ⟨_, _, _, _, _, ha, by omega, rfl⟩
    · have h2 : ∀ x : D, (rs ++ [x]).length ≤ 200 + i * 24 + 1 := fun x => len_add hr
      exact ⟨cmR rfl, cmR rfl, by decide, trivial, cmR rfl, by decide, ⟨by decide, by decide⟩, szl (by omega), trivial, cmR rfl, by decide, ⟨by decide, by decide⟩, szl (Nat.le_trans (h2 _) (by omega)), hK _ ⟨_, _, _, _, _, ha.add.add, Nat.le_trans (len_add (h2 _)) (by omega), rfl⟩⟩
  rintro e ⟨rs, o3, o4, o5, o6, ⟨ns, rfl⟩, hr, rfl⟩
  have hr : (ns.map D.int).length ≤ 200 + 63 * 24 := hr
  rw [List.length_map] at hr
  exact h ns (by omega)
theorem red_law_draw : ∀ ts P, sp_law_draw ts P → w_law_draw (fin pm_law_draw ts P) (Zl.entry 2 ts) := by
  rintro _ P ⟨rs, n, rfl, hr, hn, h⟩
  refine ⟨fun k => h 0 rs (Int.le_refl 0) hn hr, fun k => ?_⟩
  have k : ¬ ((iL rs).length : Int) = 0 := of_decide_eq_false k
  rw [List.length_map] at k
  refine ⟨trivial, ?_⟩
  rcases List.eq_nil_or_concat rs with e | ⟨r0, x, e⟩
  · subst e; exact absurd rfl k
  · rw [List.concat_eq_append] at e
    subst e
    conv => whnf
    rw [show (iL (r0 ++ [x])).getLast? = some (.int x) by simp [iL]]
    refine ⟨hn, ?_⟩
    have := h (x % n) r0 (Int.emod_nonneg _ (by omega)) (Int.emod_lt_of_pos _ hn) (by simp at hr; omega)
    rw [show iL r0 = (iL (r0 ++ [x])).dropLast by simp [iL]] at this
    exact this
theorem red_law_name : ∀ ts P, sp_law_name ts P → w_law_name (fin pm_law_name ts P) (Zl.entry 6 ts) := by
  rintro _ P ⟨rs, us, rfl, hr, hu, hn, h⟩
  refine ⟨rfl, rs, 8, rfl, hr, by decide, fun r rs h0 h1 hr => ?_⟩
  dsimp only [back, isFz, gt, st, cl, clsE, Zl.entry, T.fr, List.map, List.append, List.nil_append, List.cons_append, List.append_nil, List.replicate, List.length, Nat.reduceSub, Nat.reduceAdd, Nat.zero_add, cond_true, cond_false]
  refine ⟨⟨by omega, by omega⟩, ?_⟩
  refine for_inv (fun j e => ∃ (rs : List Int) (b : Str) (o : Option T), rs.length ≤ 4000 ∧ b.cps.toList.length = j ∧ (∀ c ∈ b.cps.toList, 97 ≤ c ∧ c ≤ 122) ∧ e = [some (.lst (iL rs)), some (.lst (sL us)), some (.fz (.str sAz)), some (.fz (.str b)), o, none]) ⟨rs, "", none, hr, by decide +kernel, fun c hc => absurd hc (by rw [show (("" : Str).cps.toList) = [] by decide +kernel]; exact List.not_mem_nil), rfl⟩ ?_ ?_ ?_
  · intros; trivial
  · rintro j d e hd ⟨rs, b, o, hr, hb, hc, rfl⟩ K hK
    obtain ⟨hj, rfl⟩ := rng_get hd
    refine ⟨rfl, rs, 26, rfl, hr, by decide, fun x rs h2 h3 hr => ?_⟩
    dsimp only [back, isFz, gt, st, cl, clsE, Zl.entry, T.fr, List.map, List.append, List.nil_append, List.cons_append, List.append_nil, List.replicate, List.length, Nat.reduceSub, Nat.reduceAdd, Nat.zero_add, cond_true, cond_false]
    obtain ⟨n, rfl⟩ := Int.eq_ofNat_of_zero_le h2
    have ea := az_at n (by omega)
    refine ⟨az_len, ?_⟩
    conv => whnf
    rw [atI_nat ea]
    refine ⟨?_, hK _ ⟨rs, b ++ ⟨#[97 + n]⟩, _, hr, ?_, ?_, rfl⟩⟩
    · show b.length + 1 ≤ sizeLine
      rw [str_len, hb]
      exact Nat.le_trans (show j + 1 ≤ 100 by omega) (by decide)
    · rw [str_app, List.length_append, hb]; rfl
    · intro c hc2
      rw [str_app] at hc2
      rcases List.mem_append.mp hc2 with z | z
      · exact hc c z
      · have z : c ∈ [97 + n] := z
        rw [List.mem_singleton.mp z]; omega
  rintro e ⟨rs, b, o, hr, hb, hc, rfl⟩
  rw [List.length_map, List.length_range] at hb
  have b1 : 1 ≤ b.cps.toList.length := by omega
  have b8 : b.cps.toList.length ≤ 8 := by omega
  refine ⟨⟨by decide, by decide⟩, ?_⟩
  refine for_inv (fun j e => ∃ (nm : Str) (o : Option T), Nm nm ∧ Tried b (us ++ ([("main" : Str), ("any" : Str)] : List Str)) j nm ∧ e = [some (.lst (iL rs)), some (.lst (sL us)), some (.fz (.str sAz)), some (.fz (.str b)), o, some (.fz (.str nm))]) ⟨b, _, ⟨b1, b8, hc⟩, .inr ⟨fun j hj => by omega, fun hj => by omega⟩, rfl⟩ ?_ ?_ ?_
  · intros; trivial
  · rintro j d e hd ⟨nm, o, hnm, ht, rfl⟩ K hK
    obtain ⟨hj, rfl⟩ := rng_get hd
    have hj : j < 26 := hj
    have oks : D.ok 60 (.lst (sL us)) = true := ok_strs fun x hx => (hn x hx).ok
    have nx : nm ∈ us ++ ([("main" : Str), ("any" : Str)] : List Str) → wSet 5 (wOp2 gAdd (oV (wOp2 gIx (oS 2) (oS 4))) (oV (wSl gSl (oS 3) none (some (oV (wC (.int 7))))))) { nx := K, rt := (fin pm_law_name [.lst (iL rs), .lst (sL us)] P).rt } [some (.lst (iL rs)), some (.lst (sL us)), some (.fz (.str sAz)), some (.fz (.str b)), some (.fz (.int j)), some (.fz (.str nm))] := fun hm => by
      refine ⟨az_len, ?_⟩
      conv => whnf
      rw [atI_nat (az_at j hj)]
      refine ⟨by rw [str_len]; exact Nat.le_trans b8 (by decide), ?_, hK _ ⟨cnd b j, _, cnd_nm hc hj, ht.next hm, rfl⟩⟩
      show 1 + (Txt.slice b none (some ((7 : Nat) : Int))).length ≤ sizeLine
      rw [str_len, slice_to, List.length_take]
      exact Nat.le_trans (show 1 + min 7 b.cps.toList.length ≤ 100 by omega) (by decide)
    refine ⟨⟨hnm.ok, oks⟩, ?_⟩
    rw [show inD (T.fr (.fz (.str nm))) (sL us) = decide (nm ∈ us) from inD_str _ _]
    refine ⟨fun k => ⟨fun _ => nx (List.mem_append_left _ (of_decide_eq_true k)), fun k => noF k⟩, fun k => ⟨fun k2 => ⟨fun _ => nx ?_, fun k => noF k⟩, fun k2 => ⟨fun k3 => nx ?_, fun k3 => ?_⟩⟩⟩
    · have k2 : nm = "main" := of_decide_eq_true k2
      rw [k2]; simp
    · have k3 : nm = "any" := of_decide_eq_true k3
      rw [k3]; simp
    · have k : ¬ nm ∈ us := of_decide_eq_false k
      have k2 : ¬ nm = "main" := of_decide_eq_false k2
      have k3 : ¬ nm = "any" := of_decide_eq_false k3
      refine hK _ ⟨nm, _, hnm, .inl ?_, rfl⟩
      intro z
      rcases List.mem_append.mp z with z | z
      · exact k z
      · simp only [List.mem_cons, List.not_mem_nil, or_false] at z
        rcases z with z | z
        · exact k2 z
        · exact k3 z
  rintro e ⟨nm, o, hnm, ht, rfl⟩
  have hg := Tried.good ht (by rw [List.length_append]; show us.length + 2 < 26; omega)
  have h := h nm rs hnm (fun z => hg (List.mem_append_left _ z)) (fun z => hg (by rw [z]; simp)) (fun z => hg (by rw [z]; simp)) hr
  rw [show sL (us ++ [nm]) = sL us ++ [.str nm] from List.map_append ..] at h
  exact ⟨trivial, szl (by rw [List.length_map]; omega), h⟩

theorem cut_tL (ts : List Tk) (i : Nat) : cutD (tL ts) none (some (i : Int)) = tL (ts.take i) := by rw [cut_to]; exact (List.map_take ..).symm
theorem fold_snoc {t : Int} {l : List Tk} {j : Nat} {r : Tk} {a : Int} (h : l[j]? = some r) : (l.take (j + 1)).foldl (ndF t) a = (l.take j).foldl (ndF t) a + cdv t r.g * r.w := by
  rw [take_snoc h, List.foldl_append]; rfl
theorem red_needed : ∀ ts P, sp_needed ts P → w_needed (fin pm_needed ts P) (Zl.entry 8 ts) := by
  rintro _ P ⟨x, tk, i, bl, t, rfl, hx, hs, hi, h⟩
  have e0 := List.getElem?_eq_getElem hi
  generalize tk[i] = r0 at e0
  have e1 : (tL tk)[i]? = some r0.d := map_at e0
  rcases hx with rfl | rfl
  · conv => whnf
    rw [atI_nat e1]
    conv => whnf
    rw [cut_tL]
    refine for_inv (fun j e => ∃ o5 o6 o7, e = [some (.lst (tL tk)), some (.fz (.int i)), some (.fz (.int bl)), some (.fz (.int t)), some (.fz (.int (((tk.take i).take j).foldl (ndF t) ((wk tk i : Int) + bl)))), o5, o6, o7]) ⟨none, none, none, by rw [wk_of e0]; rfl⟩ ?_ ?_ ?_
    · intros; rfl
    · rintro j d e hd ⟨o5, o6, o7, rfl⟩ K2 hK2
      obtain ⟨r, hr, rfl⟩ := map_get hd
      have f := hs.fit r (List.mem_of_mem_take (List.mem_of_getElem? hr))
      have g1 := f.g1; have g20 := f.g20; have w20 := f.w20
      refine ⟨⟨by omega, by omega⟩, .inr ⟨by omega, by omega⟩, ?_⟩
      refine hK2 _ ⟨some (.fz (.int r.l)), some (.fz (.int r.w)), some (.fz (.int r.g)), ?_⟩
      rw [fold_snoc hr]
      rfl
    · rintro e ⟨o5, o6, o7, rfl⟩
      rw [show (tL (tk.take i)).length = (tk.take i).length from List.length_map .., List.take_length]
      exact h
  · conv => whnf
    rw [atI_nat e1]
    conv => whnf
    rw [cut_tL]
    refine for_inv (fun j e => ∃ o5 o6 o7, e = [some (.fz (.lst (tL tk))), some (.fz (.int i)), some (.fz (.int bl)), some (.fz (.int t)), some (.fz (.int (((tk.take i).take j).foldl (ndF t) ((wk tk i : Int) + bl)))), o5, o6, o7]) ⟨none, none, none, by rw [wk_of e0]; rfl⟩ ?_ ?_ ?_
    · intros; rfl
    · rintro j d e hd ⟨o5, o6, o7, rfl⟩ K2 hK2
      obtain ⟨r, hr, rfl⟩ := map_get hd
      have f := hs.fit r (List.mem_of_mem_take (List.mem_of_getElem? hr))
      have g1 := f.g1; have g20 := f.g20; have w20 := f.w20
      refine ⟨⟨by omega, by omega⟩, .inr ⟨by omega, by omega⟩, ?_⟩
      refine hK2 _ ⟨some (.fz (.int r.l)), some (.fz (.int r.w)), some (.fz (.int r.g)), ?_⟩
      rw [fold_snoc hr]
      rfl
    · rintro e ⟨o5, o6, o7, rfl⟩
      rw [show (tL (tk.take i)).length = (tk.take i).length from List.length_map .., List.take_length]
      exact h
theorem red_least_time : ∀ ts P, sp_least_time ts P → w_least_time (fin pm_least_time ts P) (Zl.entry 5 ts) := by
  rintro _ P ⟨x, tk, i, bl, rfl, hx, hs, hi, h⟩
  have e0 := List.getElem?_eq_getElem hi
  generalize tk[i] = r0 at e0
  have e1 : (tL tk)[i]? = some r0.d := map_at e0
  have hw := wk_of e0
  have hg := gp_of e0
  rcases hx with rfl | rfl
  · conv => whnf
    rw [atI_nat e1]
    refine while_inv (fun n e => ∃ (t : Nat) (o : Option T), n = r0.g + 1 - t ∧ (t : Int) ≤ ndI tk i bl t ∧ (∀ s : Nat, 1 ≤ s → ndI tk i bl s = s → t ≤ s) ∧ 1 ≤ t ∧ e = [some (.lst (tL tk)), some (.fz (.int i)), some (.fz (.int bl)), some (.fz (.int t)), o]) (r0.g + 1 - (r0.w + bl)) ⟨r0.w + bl, none, rfl, ?_, fun s h1 h2 => ?_, ?_, rfl⟩ ?_
    · have := nd_ge (i := i) (bl := bl) hs (show (0 : Int) ≤ ((r0.w + bl : Nat) : Int) by omega)
      omega
    · have := nd_ge (i := i) (bl := bl) hs (show (0 : Int) ≤ (s : Int) by omega)
      omega
    · have := (hs.fit r0 (List.mem_of_getElem? e0)).w2
      omega
    · rintro n e ⟨t, o, rfl, h1, h2, h3, rfl⟩ K hK
      conv => whnf
      rw [atI_nat e1]
      refine ⟨fun k => ?_, fun k => ?_⟩
      · have k : (t : Int) ≤ (r0.g : Int) := of_decide_eq_true k
        refine ⟨rfl, _, tk, i, bl, _, rfl, by first | exact .inl rfl | exact .inr rfl, hs, hi, ?_⟩
        dsimp only [back, isFz, gt, st, cl, clsE, Zl.entry, T.fr, List.map, List.append, List.nil_append, List.cons_append, List.append_nil, List.replicate, List.length, Nat.reduceSub, Nat.reduceAdd, Nat.zero_add, cond_true, cond_false]
        have hnn := nd_ge (i := i) (bl := bl) hs (show (0 : Int) ≤ (t : Int) by omega)
        obtain ⟨u, hu⟩ := Int.eq_ofNat_of_zero_le (show 0 ≤ ndI tk i bl t by omega)
        refine ⟨fun k2 => ?_, fun k2 => ?_⟩
        · have k2 : ndI tk i bl t = t := of_decide_eq_true k2
          rw [show rspG tk i bl = some t from rsp_some h3 (by omega) k2 fun s a b z => by have := h2 s a z; omega] at h
          exact h
        · have k2 : ¬ ndI tk i bl t = t := of_decide_eq_false k2
          rw [hu] at k2 h1 ⊢
          refine hK (r0.g + 1 - u) _ (by omega) ⟨u, _, rfl, ?_, fun s a b => ?_, by omega, rfl⟩
          · rw [← hu]
            exact nd_mono hs (by omega)
          · have h4 := h2 s a b
            have h5 := nd_mono (i := i) (bl := bl) hs (show (t : Int) ≤ (s : Int) by omega)
            omega
      · have k : ¬ (t : Int) ≤ (r0.g : Int) := of_decide_eq_false k
        rw [show rspG tk i bl = none from rsp_none fun s a b z => by have := h2 s a z; omega] at h
        exact h
  · conv => whnf
    rw [atI_nat e1]
    refine while_inv (fun n e => ∃ (t : Nat) (o : Option T), n = r0.g + 1 - t ∧ (t : Int) ≤ ndI tk i bl t ∧ (∀ s : Nat, 1 ≤ s → ndI tk i bl s = s → t ≤ s) ∧ 1 ≤ t ∧ e = [some (.fz (.lst (tL tk))), some (.fz (.int i)), some (.fz (.int bl)), some (.fz (.int t)), o]) (r0.g + 1 - (r0.w + bl)) ⟨r0.w + bl, none, rfl, ?_, fun s h1 h2 => ?_, ?_, rfl⟩ ?_
    · have := nd_ge (i := i) (bl := bl) hs (show (0 : Int) ≤ ((r0.w + bl : Nat) : Int) by omega)
      omega
    · have := nd_ge (i := i) (bl := bl) hs (show (0 : Int) ≤ (s : Int) by omega)
      omega
    · have := (hs.fit r0 (List.mem_of_getElem? e0)).w2
      omega
    · rintro n e ⟨t, o, rfl, h1, h2, h3, rfl⟩ K hK
      conv => whnf
      rw [atI_nat e1]
      refine ⟨fun k => ?_, fun k => ?_⟩
      · have k : (t : Int) ≤ (r0.g : Int) := of_decide_eq_true k
        refine ⟨rfl, _, tk, i, bl, _, rfl, by first | exact .inl rfl | exact .inr rfl, hs, hi, ?_⟩
        dsimp only [back, isFz, gt, st, cl, clsE, Zl.entry, T.fr, List.map, List.append, List.nil_append, List.cons_append, List.append_nil, List.replicate, List.length, Nat.reduceSub, Nat.reduceAdd, Nat.zero_add, cond_true, cond_false]
        have hnn := nd_ge (i := i) (bl := bl) hs (show (0 : Int) ≤ (t : Int) by omega)
        obtain ⟨u, hu⟩ := Int.eq_ofNat_of_zero_le (show 0 ≤ ndI tk i bl t by omega)
        refine ⟨fun k2 => ?_, fun k2 => ?_⟩
        · have k2 : ndI tk i bl t = t := of_decide_eq_true k2
          rw [show rspG tk i bl = some t from rsp_some h3 (by omega) k2 fun s a b z => by have := h2 s a z; omega] at h
          exact h
        · have k2 : ¬ ndI tk i bl t = t := of_decide_eq_false k2
          rw [hu] at k2 h1 ⊢
          refine hK (r0.g + 1 - u) _ (by omega) ⟨u, _, rfl, ?_, fun s a b => ?_, by omega, rfl⟩
          · rw [← hu]
            exact nd_mono hs (by omega)
          · have h4 := h2 s a b
            have h5 := nd_mono (i := i) (bl := bl) hs (show (t : Int) ≤ (s : Int) by omega)
            omega
      · have k : ¬ (t : Int) ≤ (r0.g : Int) := of_decide_eq_false k
        rw [show rspG tk i bl = none from rsp_none fun s a b z => by have := h2 s a z; omega] at h
        exact h

theorem rspG_of {tk : List Tk} {i bl : Nat} {r : Tk} (e : tk[i]? = some r) : rspG tk i bl = rspA r (tk.take i) bl := by
  unfold rspG rsp rspA ndI ndA
  rw [wk_of e, gp_of e]
theorem keep_of {tk : List Tk} {i bl : Nat} {r : Tk} (e : tk[i]? = some r) : keepAt tk bl i = keep r (tk.take i) bl := by
  unfold keepAt; rw [e]
theorem red_within_limit : ∀ ts P, sp_within_limit ts P → w_within_limit (fin pm_within_limit ts P) (Zl.entry 4 ts) := by
  rintro _ P ⟨x, tk, i, bl, rfl, hx, hs, hi, h⟩
  have e0 := List.getElem?_eq_getElem hi
  generalize tk[i] = r0 at e0
  have e1 : (tL tk)[i]? = some r0.d := map_at e0
  rw [keep_of e0] at h
  rcases hx with rfl | rfl
  · refine ⟨rfl, _, tk, i, bl, rfl, by first | exact .inl rfl | exact .inr rfl, hs, hi, ?_⟩
    dsimp only [back, isFz, gt, st, cl, clsE, Zl.entry, T.fr, List.map, List.append, List.nil_append, List.cons_append, List.append_nil, List.replicate, List.length, Nat.reduceSub, Nat.reduceAdd, Nat.zero_add, cond_true, cond_false]
    rw [rspG_of e0]
    unfold keep at h
    cases q : rspA r0 (tk.take i) bl with
    | none =>
      rw [q] at h
      exact ⟨fun k => noT k, fun _ => h⟩
    | some t =>
      rw [q] at h
      refine ⟨fun _ => ?_, fun k => noF k⟩
      conv => whnf
      rw [atI_nat e1]
      have ed : decide ((t : Int) ≤ (r0.l : Int)) = decide (t ≤ r0.l) := by simp
      have h : P (.fz (.bl (decide (t ≤ r0.l)))) _ := h
      rw [← ed] at h
      exact h
  · refine ⟨rfl, _, tk, i, bl, rfl, by first | exact .inl rfl | exact .inr rfl, hs, hi, ?_⟩
    dsimp only [back, isFz, gt, st, cl, clsE, Zl.entry, T.fr, List.map, List.append, List.nil_append, List.cons_append, List.append_nil, List.replicate, List.length, Nat.reduceSub, Nat.reduceAdd, Nat.zero_add, cond_true, cond_false]
    rw [rspG_of e0]
    unfold keep at h
    cases q : rspA r0 (tk.take i) bl with
    | none =>
      rw [q] at h
      exact ⟨fun k => noT k, fun _ => h⟩
    | some t =>
      rw [q] at h
      refine ⟨fun _ => ?_, fun k => noF k⟩
      conv => whnf
      rw [atI_nat e1]
      have ed : decide ((t : Int) ≤ (r0.l : Int)) = decide (t ≤ r0.l) := by simp
      have h : P (.fz (.bl (decide (t ≤ r0.l)))) _ := h
      rw [← ed] at h
      exact h
theorem late_none {l : List Tk} {bl : Nat} (h : ∀ s, s < l.length → keepAt l bl s = true) : late l bl = none := rspF_none fun s _ h2 => by rw [h s (by omega)]; rfl
theorem late_some {l : List Tk} {bl j : Nat} (hj : j < l.length) (h : ∀ s, s < j → keepAt l bl s = true) (n : keepAt l bl j = false) : late l bl = some j := rspF_some (Nat.zero_le _) (by omega) (by rw [n]; rfl) fun s _ h2 => by rw [h s h2]; rfl
theorem red_first_late : ∀ ts P, sp_first_late ts P → w_first_late (fin pm_first_late ts P) (Zl.entry 3 ts) := by
  rintro _ P ⟨x, tk, bl, rfl, hx, hs, h⟩
  have hf := hs.few
  rcases hx with rfl | rfl
  · refine ⟨⟨by rw [List.length_map]; omega, by rw [List.length_map]; omega⟩, ?_⟩
    rw [show ((tL tk).length : Int).toNat = tk.length by rw [List.length_map]; omega]
    refine for_inv (fun j e => (∀ s, s < j → keepAt tk bl s = true) ∧ ∃ o, e = [some (.lst (tL tk)), some (.fz (.int bl)), o]) ⟨fun s z => by omega, none, rfl⟩ ?_ ?_ ?_
    · intros; trivial
    · rintro j d e hd ⟨hn, o, rfl⟩ K hK
      obtain ⟨hj, rfl⟩ := rng_get hd
      refine ⟨rfl, _, tk, j, bl, rfl, by first | exact .inl rfl | exact .inr rfl, hs, hj, ?_⟩
      dsimp only [back, isFz, gt, st, cl, clsE, Zl.entry, T.fr, List.map, List.append, List.nil_append, List.cons_append, List.append_nil, List.replicate, List.length, Nat.reduceSub, Nat.reduceAdd, Nat.zero_add, cond_true, cond_false]
      cases q : keepAt tk bl j with
      | true => exact ⟨fun k => noT k, fun _ => hK _ ⟨fun s z => if y : s = j then y ▸ q else hn s (by omega), _, rfl⟩⟩
      | false =>
        rw [late_some hj hn q] at h
        exact ⟨fun _ => h, fun k => noF k⟩
    · rintro e ⟨hn, o, rfl⟩
      rw [List.length_map, List.length_range] at hn
      rw [late_none hn] at h
      exact h
  · refine ⟨⟨by rw [List.length_map]; omega, by rw [List.length_map]; omega⟩, ?_⟩
    rw [show ((tL tk).length : Int).toNat = tk.length by rw [List.length_map]; omega]
    refine for_inv (fun j e => (∀ s, s < j → keepAt tk bl s = true) ∧ ∃ o, e = [some (.fz (.lst (tL tk))), some (.fz (.int bl)), o]) ⟨fun s z => by omega, none, rfl⟩ ?_ ?_ ?_
    · intros; trivial
    · rintro j d e hd ⟨hn, o, rfl⟩ K hK
      obtain ⟨hj, rfl⟩ := rng_get hd
      refine ⟨rfl, _, tk, j, bl, rfl, by first | exact .inl rfl | exact .inr rfl, hs, hj, ?_⟩
      dsimp only [back, isFz, gt, st, cl, clsE, Zl.entry, T.fr, List.map, List.append, List.nil_append, List.cons_append, List.append_nil, List.replicate, List.length, Nat.reduceSub, Nat.reduceAdd, Nat.zero_add, cond_true, cond_false]
      cases q : keepAt tk bl j with
      | true => exact ⟨fun k => noT k, fun _ => hK _ ⟨fun s z => if y : s = j then y ▸ q else hn s (by omega), _, rfl⟩⟩
      | false =>
        rw [late_some hj hn q] at h
        exact ⟨fun _ => h, fun k => noF k⟩
    · rintro e ⟨hn, o, rfl⟩
      rw [List.length_map, List.length_range] at hn
      rw [late_none hn] at h
      exact h

theorem red_law_response : ∀ ts P, sp_law_response ts P → w_law_response (fin pm_law_response ts P) (Zl.entry 7 ts) := by
  rintro _ P ⟨x, ab, r, bl, rfl, hx, ha, hr, h⟩
  have g20 := hr.g20
  have em : ((r.g : Int) + 1 - 1).toNat = r.g := by omega
  rcases hx with rfl | rfl
  · refine ⟨⟨by decide, by decide, by omega, by omega⟩, ?_⟩
    rw [em]
    refine for_inv (fun j e => (∀ s : Nat, 1 ≤ s → s ≤ j → ndA r ab bl s ≠ s) ∧ ∃ o3 o4 o5 o6, e = [some (.fz r.d), some (.lst (tL ab)), some (.fz (.int bl)), o3, o4, o5, o6]) ⟨fun s a b => by omega, none, none, none, none, rfl⟩ ?_ ?_ ?_
    · intros; trivial
    · rintro j d e hd ⟨hn, o3, o4, o5, o6, rfl⟩ K hK
      obtain ⟨hj, rfl⟩ := rng2_get hd
      rw [show (1 + (j : Int)) = ((j + 1 : Nat) : Int) by omega]
      refine for_inv (fun i e => ∃ o5 o6, e = [some (.fz r.d), some (.lst (tL ab)), some (.fz (.int bl)), some (.fz (.int ((j + 1 : Nat) : Int))), some (.fz (.int ((ab.take i).foldl (ndF ((j + 1 : Nat) : Int)) ((r.w : Int) + bl)))), o5, o6]) ⟨o5, o6, rfl⟩ ?_ ?_ ?_
      · rintro i e ⟨o5, o6, rfl⟩; rfl
      · rintro i d e hd ⟨o5, o6, rfl⟩ K2 hK2
        obtain ⟨q, hq, rfl⟩ := map_get hd
        have f := ha q (List.mem_of_getElem? hq)
        have g1 := f.g1; have g20 := f.g20; have w20 := f.w20
        have h0 : (0 : Int) < (q.g : Int) := by omega
        refine ⟨⟨h0, by omega⟩, .inr ⟨by omega, by omega⟩, fun k => ?_, fun k => ?_⟩
        · have k : ((j + 1 : Nat) : Int) / q.g * q.g < ((j + 1 : Nat) : Int) := of_decide_eq_true k
          have e2 := cdv_up h0 k
          refine ⟨.inr ⟨by omega, by omega⟩, hK2 _ ⟨some (.fz q.d), some (.fz (.int (cdv ((j + 1 : Nat) : Int) q.g))), ?_⟩⟩
          rw [fold_snoc hq, ← e2]
          rfl
        · have k : ¬ ((j + 1 : Nat) : Int) / q.g * q.g < ((j + 1 : Nat) : Int) := of_decide_eq_false k
          have e2 := cdv_eq h0 k
          refine ⟨.inr ⟨by omega, by omega⟩, hK2 _ ⟨some (.fz q.d), some (.fz (.int (cdv ((j + 1 : Nat) : Int) q.g))), ?_⟩⟩
          rw [fold_snoc hq, ← e2]
          rfl
      · rintro e ⟨o5, o6, rfl⟩
        rw [show (tL ab).length = ab.length from List.length_map .., List.take_length]
        refine ⟨fun k => ?_, fun k => ?_⟩
        · have k : ndA r ab bl ((j + 1 : Nat) : Int) = ((j + 1 : Nat) : Int) := of_decide_eq_true k
          rw [show rspA r ab bl = some (j + 1) from rspF_some (by omega) (by omega) (decide_eq_true k) fun s a b => decide_eq_false (hn s a (by omega))] at h
          exact h
        · have k : ¬ ndA r ab bl ((j + 1 : Nat) : Int) = ((j + 1 : Nat) : Int) := of_decide_eq_false k
          refine hK _ ⟨fun s a b => ?_, _, _, _, _, rfl⟩
          by_cases z : s ≤ j
          · exact hn s a z
          · rw [show s = j + 1 by omega]; exact k
    · rintro e ⟨hn, o3, o4, o5, o6, rfl⟩
      rw [List.length_map, List.length_range] at hn
      rw [show rspA r ab bl = none from rspF_none fun s a b => decide_eq_false (hn s a (by omega))] at h
      exact h
  · refine ⟨⟨by decide, by decide, by omega, by omega⟩, ?_⟩
    rw [em]
    refine for_inv (fun j e => (∀ s : Nat, 1 ≤ s → s ≤ j → ndA r ab bl s ≠ s) ∧ ∃ o3 o4 o5 o6, e = [some (.fz r.d), some (.fz (.lst (tL ab))), some (.fz (.int bl)), o3, o4, o5, o6]) ⟨fun s a b => by omega, none, none, none, none, rfl⟩ ?_ ?_ ?_
    · intros; trivial
    · rintro j d e hd ⟨hn, o3, o4, o5, o6, rfl⟩ K hK
      obtain ⟨hj, rfl⟩ := rng2_get hd
      rw [show (1 + (j : Int)) = ((j + 1 : Nat) : Int) by omega]
      refine for_inv (fun i e => ∃ o5 o6, e = [some (.fz r.d), some (.fz (.lst (tL ab))), some (.fz (.int bl)), some (.fz (.int ((j + 1 : Nat) : Int))), some (.fz (.int ((ab.take i).foldl (ndF ((j + 1 : Nat) : Int)) ((r.w : Int) + bl)))), o5, o6]) ⟨o5, o6, rfl⟩ ?_ ?_ ?_
      · rintro i e ⟨o5, o6, rfl⟩; rfl
      · rintro i d e hd ⟨o5, o6, rfl⟩ K2 hK2
        obtain ⟨q, hq, rfl⟩ := map_get hd
        have f := ha q (List.mem_of_getElem? hq)
        have g1 := f.g1; have g20 := f.g20; have w20 := f.w20
        have h0 : (0 : Int) < (q.g : Int) := by omega
        refine ⟨⟨h0, by omega⟩, .inr ⟨by omega, by omega⟩, fun k => ?_, fun k => ?_⟩
        · have k : ((j + 1 : Nat) : Int) / q.g * q.g < ((j + 1 : Nat) : Int) := of_decide_eq_true k
          have e2 := cdv_up h0 k
          refine ⟨.inr ⟨by omega, by omega⟩, hK2 _ ⟨some (.fz q.d), some (.fz (.int (cdv ((j + 1 : Nat) : Int) q.g))), ?_⟩⟩
          rw [fold_snoc hq, ← e2]
          rfl
        · have k : ¬ ((j + 1 : Nat) : Int) / q.g * q.g < ((j + 1 : Nat) : Int) := of_decide_eq_false k
          have e2 := cdv_eq h0 k
          refine ⟨.inr ⟨by omega, by omega⟩, hK2 _ ⟨some (.fz q.d), some (.fz (.int (cdv ((j + 1 : Nat) : Int) q.g))), ?_⟩⟩
          rw [fold_snoc hq, ← e2]
          rfl
      · rintro e ⟨o5, o6, rfl⟩
        rw [show (tL ab).length = ab.length from List.length_map .., List.take_length]
        refine ⟨fun k => ?_, fun k => ?_⟩
        · have k : ndA r ab bl ((j + 1 : Nat) : Int) = ((j + 1 : Nat) : Int) := of_decide_eq_true k
          rw [show rspA r ab bl = some (j + 1) from rspF_some (by omega) (by omega) (decide_eq_true k) fun s a b => decide_eq_false (hn s a (by omega))] at h
          exact h
        · have k : ¬ ndA r ab bl ((j + 1 : Nat) : Int) = ((j + 1 : Nat) : Int) := of_decide_eq_false k
          refine hK _ ⟨fun s a b => ?_, _, _, _, _, rfl⟩
          by_cases z : s ≤ j
          · exact hn s a z
          · rw [show s = j + 1 by omega]; exact k
    · rintro e ⟨hn, o3, o4, o5, o6, rfl⟩
      rw [List.length_map, List.length_range] at hn
      rw [show rspA r ab bl = none from rspF_none fun s a b => decide_eq_false (hn s a (by omega))] at h
      exact h
theorem red_law_keeps : ∀ ts P, sp_law_keeps ts P → w_law_keeps (fin pm_law_keeps ts P) (Zl.entry 4 ts) := by
  rintro _ P ⟨ab, r, bl, rfl, ha, hr, h⟩
  refine ⟨rfl, _, ab, r, bl, rfl, .inr rfl, ha, hr, ?_⟩
  dsimp only [back, isFz, gt, st, cl, clsE, Zl.entry, T.fr, List.map, List.append, List.nil_append, List.cons_append, List.append_nil, List.replicate, List.length, Nat.reduceSub, Nat.reduceAdd, Nat.zero_add, cond_true, cond_false]
  unfold keep at h
  cases q : rspA r ab bl with
  | none =>
    rw [q] at h
    exact ⟨fun k => noT k, fun _ => h⟩
  | some t =>
    rw [q] at h
    refine ⟨fun _ => ?_, fun k => noF k⟩
    have ed : decide ((t : Int) ≤ (r.l : Int)) = decide (t ≤ r.l) := by simp
    have h : P (.fz (.bl (decide (t ≤ r.l)))) _ := h
    rw [← ed] at h
    exact h
theorem red_law_late : ∀ ts P, sp_law_late ts P → w_law_late (fin pm_law_late ts P) (Zl.entry 3 ts) := by
  rintro _ P ⟨x, tk, bl, rfl, hx, hs, h⟩
  have hf := hs.few
  rcases hx with rfl | rfl
  · refine ⟨⟨by rw [List.length_map]; omega, by rw [List.length_map]; omega⟩, ?_⟩
    rw [show ((tL tk).length : Int).toNat = tk.length by rw [List.length_map]; omega]
    refine for_inv (fun j e => (∀ s, s < j → keepAt tk bl s = true) ∧ ∃ o, e = [some (.lst (tL tk)), some (.fz (.int bl)), o]) ⟨fun s z => by omega, none, rfl⟩ ?_ ?_ ?_
    · intros; trivial
    · rintro j d e hd ⟨hn, o, rfl⟩ K hK
      obtain ⟨hj, rfl⟩ := rng_get hd
      have e0 := List.getElem?_eq_getElem hj
      generalize tk[j] = r0 at e0
      have e1 : (tL tk)[j]? = some r0.d := map_at e0
      conv => whnf
      rw [atI_nat e1]
      conv => whnf
      rw [cut_tL]
      refine ⟨rfl, tk.take j, r0, bl, rfl, fun a z => hs.fit a (List.mem_of_mem_take z), hs.fit r0 (List.mem_of_getElem? e0), ?_⟩
      dsimp only [back, isFz, gt, st, cl, clsE, Zl.entry, T.fr, List.map, List.append, List.nil_append, List.cons_append, List.append_nil, List.replicate, List.length, Nat.reduceSub, Nat.reduceAdd, Nat.zero_add, cond_true, cond_false]
      rw [← keep_of e0]
      cases q : keepAt tk bl j with
      | true => exact ⟨fun k => noT k, fun _ => hK _ ⟨fun s z => if y : s = j then y ▸ q else hn s (by omega), _, rfl⟩⟩
      | false =>
        rw [late_some hj hn q] at h
        exact ⟨fun _ => h, fun k => noF k⟩
    · rintro e ⟨hn, o, rfl⟩
      rw [List.length_map, List.length_range] at hn
      rw [late_none hn] at h
      exact h
  · refine ⟨⟨by rw [List.length_map]; omega, by rw [List.length_map]; omega⟩, ?_⟩
    rw [show ((tL tk).length : Int).toNat = tk.length by rw [List.length_map]; omega]
    refine for_inv (fun j e => (∀ s, s < j → keepAt tk bl s = true) ∧ ∃ o, e = [some (.fz (.lst (tL tk))), some (.fz (.int bl)), o]) ⟨fun s z => by omega, none, rfl⟩ ?_ ?_ ?_
    · intros; trivial
    · rintro j d e hd ⟨hn, o, rfl⟩ K hK
      obtain ⟨hj, rfl⟩ := rng_get hd
      have e0 := List.getElem?_eq_getElem hj
      generalize tk[j] = r0 at e0
      have e1 : (tL tk)[j]? = some r0.d := map_at e0
      conv => whnf
      rw [atI_nat e1]
      conv => whnf
      rw [cut_tL]
      refine ⟨rfl, tk.take j, r0, bl, rfl, fun a z => hs.fit a (List.mem_of_mem_take z), hs.fit r0 (List.mem_of_getElem? e0), ?_⟩
      dsimp only [back, isFz, gt, st, cl, clsE, Zl.entry, T.fr, List.map, List.append, List.nil_append, List.cons_append, List.append_nil, List.replicate, List.length, Nat.reduceSub, Nat.reduceAdd, Nat.zero_add, cond_true, cond_false]
      rw [← keep_of e0]
      cases q : keepAt tk bl j with
      | true => exact ⟨fun k => noT k, fun _ => hK _ ⟨fun s z => if y : s = j then y ▸ q else hn s (by omega), _, rfl⟩⟩
      | false =>
        rw [late_some hj hn q] at h
        exact ⟨fun _ => h, fun k => noF k⟩
    · rintro e ⟨hn, o, rfl⟩
      rw [List.length_map, List.length_range] at hn
      rw [late_none hn] at h
      exact h

/-! ### a valid row is let by -/
def kyN (ts : List Tk) : List (List Key) := [[.inr "main"], [.inr "any"]] ++ ts.map fun t => [.inr t.n]
def vlN (ts : List Tk) : List T := [.fz (.bl true), .fz (.bl true)] ++ ts.map fun _ => .fz (.bl true)
theorem kyN_len (ts : List Tk) : (vlN ts).length = (kyN ts).length := by unfold kyN vlN; simp
theorem Row.new {ts : List Tk} (h : Row ts) {j : Nat} {t : Tk} (e : ts[j]? = some t) : ([.inr t.n] : List Key) ∉ kyN (ts.take j) := by
  intro z
  have hm := List.mem_of_getElem? e
  have hr := h.res t hm
  rcases List.mem_append.mp z with z | z
  · simp only [List.mem_cons, List.not_mem_nil, or_false] at z
    rcases z with z | z
    · exact hr.1 (Sum.inr.inj (List.cons.inj z).1)
    · exact hr.2 (Sum.inr.inj (List.cons.inj z).1)
  · obtain ⟨u, hu, eu⟩ := List.mem_map.mp z
    have eu : u.n = t.n := Sum.inr.inj (List.cons.inj eu).1
    obtain ⟨i, hi⟩ := List.getElem?_of_mem hu
    have hij : i < j := by
      have := (List.getElem?_eq_some_iff.mp hi).1
      rw [List.length_take] at this; omega
    rw [List.getElem?_take_of_lt hij] at hi
    have hn := h.nod
    have hi' : (ts.map Tk.n)[i]? = some u.n := by rw [List.getElem?_map, hi]; rfl
    have hj' : (ts.map Tk.n)[j]? = some t.n := by rw [List.getElem?_map, e]; rfl
    have := (List.getElem?_inj (List.getElem?_eq_some_iff.mp hi').1 hn).mp (show (ts.map Tk.n)[i]? = (ts.map Tk.n)[j]? by rw [hi', hj', eu])
    omega
theorem red_check_tasks : ∀ ts P, sp_check_tasks ts P → w_check_tasks (fin pm_check_tasks ts P) (Zl.entry 7 ts) := by
  rintro _ P ⟨x, tk, bl, rfl, hx, hr, hb, h⟩
  have hf := hr.few
  rcases hx with rfl | rfl
  · refine ⟨fun k => ?_, fun _ => ?_⟩
    · have k : ((tL tk).length : Int) > 4 := of_decide_eq_true k
      rw [List.length_map] at k; omega
    refine for_inv (fun j e => ∃ o3 o4 o5 o6, e = [some (.lst (tL tk)), some (.fz (.int bl)), some (.map false (kyN (tk.take j)) (vlN (tk.take j))), o3, o4, o5, o6]) ⟨none, none, none, none, rfl⟩ ?_ ?_ ?_
    · rintro j e ⟨_, _, _, _, rfl⟩; rfl
    · rintro j d e hd ⟨o3, o4, o5, o6, rfl⟩ K hK
      obtain ⟨t, ht, rfl⟩ := map_get hd
      have hm := List.mem_of_getElem? ht
      have f := hr.fit t hm
      have fl := hr.lim t hm
      have f1 := f.w2; have f2 := f.w20; have f3 := f.g1; have f4 := f.g20
      have hnew := hr.new ht
      refine ⟨rfl, t.n, rfl, Nat.le_trans f.nm.len (by decide), fun b hb1 => ?_⟩
      rw [hb1.mpr f.nm]
      dsimp only [back, isFz, gt, st, cl, clsE, Zl.entry, T.fr, List.map, List.append, List.nil_append, List.cons_append, List.append_nil, List.replicate, List.length, Nat.reduceSub, Nat.reduceAdd, Nat.zero_add, cond_true, cond_false]
      refine ⟨fun k => noT k, fun _ => ⟨fun k => ?_, fun _ => ?_⟩⟩
      · have k : hasK (kyN (tk.take j)) [.inr t.n] = true := k
        rw [hasK_no hnew] at k; cases k
      · refine ⟨rfl, t.w, t.g, t.l, rfl, fun b hb2 => ?_⟩
        rw [hb2.mpr (by omega)]
        dsimp only [back, isFz, gt, st, cl, clsE, Zl.entry, T.fr, List.map, List.append, List.nil_append, List.cons_append, List.append_nil, List.replicate, List.length, Nat.reduceSub, Nat.reduceAdd, Nat.zero_add, cond_true, cond_false]
        refine ⟨fun k => noT k, fun _ => ⟨rfl, ?_, ?_⟩⟩
        · have : (100 : Nat) ≤ sizeLine := by decide
          have : (kyN (tk.take j)).length ≤ 6 := by
            unfold kyN
            rw [List.length_append, List.length_map, List.length_take]
            show 2 + _ ≤ 6
            omega
          omega
        · refine hK _ ⟨some (.fz (.str t.n)), some (.fz (.int t.w)), some (.fz (.int t.g)), some (.fz (.int t.l)), ?_⟩
          have e1 : kyN (tk.take (j + 1)) = kput (kyN (tk.take j)) [.inr t.n] := by
            rw [kput_new hnew]
            unfold kyN
            rw [take_snoc ht, List.map_append, ← List.append_assoc]
            rfl
          have e2 : vlN (tk.take (j + 1)) = vput (kyN (tk.take j)) (vlN (tk.take j)) [.inr t.n] (.fz (.bl true)) := by
            rw [vput_new hnew (kyN_len _)]
            unfold vlN
            rw [take_snoc ht, List.map_append, ← List.append_assoc]
            rfl
          rw [e1, e2]
          rfl
    · rintro e ⟨o3, o4, o5, o6, rfl⟩
      refine ⟨fun _ => ⟨fun k => ?_, fun _ => h⟩, fun k => ?_⟩
      · have k : (!decide ((bl : Int) ≤ 20)) = true := k
        rw [decide_eq_true (by omega)] at k; cases k
      · have k : ¬ (0 : Int) ≤ (bl : Int) := of_decide_eq_false k
        omega
  · refine ⟨fun k => ?_, fun _ => ?_⟩
    · have k : ((tL tk).length : Int) > 4 := of_decide_eq_true k
      rw [List.length_map] at k; omega
    refine for_inv (fun j e => ∃ o3 o4 o5 o6, e = [some (.fz (.lst (tL tk))), some (.fz (.int bl)), some (.map false (kyN (tk.take j)) (vlN (tk.take j))), o3, o4, o5, o6]) ⟨none, none, none, none, rfl⟩ ?_ ?_ ?_
    · rintro j e ⟨_, _, _, _, rfl⟩; rfl
    · rintro j d e hd ⟨o3, o4, o5, o6, rfl⟩ K hK
      obtain ⟨t, ht, rfl⟩ := map_get hd
      have hm := List.mem_of_getElem? ht
      have f := hr.fit t hm
      have fl := hr.lim t hm
      have f1 := f.w2; have f2 := f.w20; have f3 := f.g1; have f4 := f.g20
      have hnew := hr.new ht
      refine ⟨rfl, t.n, rfl, Nat.le_trans f.nm.len (by decide), fun b hb1 => ?_⟩
      rw [hb1.mpr f.nm]
      dsimp only [back, isFz, gt, st, cl, clsE, Zl.entry, T.fr, List.map, List.append, List.nil_append, List.cons_append, List.append_nil, List.replicate, List.length, Nat.reduceSub, Nat.reduceAdd, Nat.zero_add, cond_true, cond_false]
      refine ⟨fun k => noT k, fun _ => ⟨fun k => ?_, fun _ => ?_⟩⟩
      · have k : hasK (kyN (tk.take j)) [.inr t.n] = true := k
        rw [hasK_no hnew] at k; cases k
      · refine ⟨rfl, t.w, t.g, t.l, rfl, fun b hb2 => ?_⟩
        rw [hb2.mpr (by omega)]
        dsimp only [back, isFz, gt, st, cl, clsE, Zl.entry, T.fr, List.map, List.append, List.nil_append, List.cons_append, List.append_nil, List.replicate, List.length, Nat.reduceSub, Nat.reduceAdd, Nat.zero_add, cond_true, cond_false]
        refine ⟨fun k => noT k, fun _ => ⟨rfl, ?_, ?_⟩⟩
        · have : (100 : Nat) ≤ sizeLine := by decide
          have : (kyN (tk.take j)).length ≤ 6 := by
            unfold kyN
            rw [List.length_append, List.length_map, List.length_take]
            show 2 + _ ≤ 6
            omega
          omega
        · refine hK _ ⟨some (.fz (.str t.n)), some (.fz (.int t.w)), some (.fz (.int t.g)), some (.fz (.int t.l)), ?_⟩
          have e1 : kyN (tk.take (j + 1)) = kput (kyN (tk.take j)) [.inr t.n] := by
            rw [kput_new hnew]
            unfold kyN
            rw [take_snoc ht, List.map_append, ← List.append_assoc]
            rfl
          have e2 : vlN (tk.take (j + 1)) = vput (kyN (tk.take j)) (vlN (tk.take j)) [.inr t.n] (.fz (.bl true)) := by
            rw [vput_new hnew (kyN_len _)]
            unfold vlN
            rw [take_snoc ht, List.map_append, ← List.append_assoc]
            rfl
          rw [e1, e2]
          rfl
    · rintro e ⟨o3, o4, o5, o6, rfl⟩
      refine ⟨fun _ => ⟨fun k => ?_, fun _ => h⟩, fun k => ?_⟩
      · have k : (!decide ((bl : Int) ≤ 20)) = true := k
        rw [decide_eq_true (by omega)] at k; cases k
      · have k : ¬ (0 : Int) ≤ (bl : Int) := of_decide_eq_false k
        omega
theorem Row.sums {ts : List Tk} (h : Row ts) : Sums ts := ⟨h.few, h.fit⟩
theorem red_keeps_limits : ∀ ts P, sp_keeps_limits ts P → w_keeps_limits (fin pm_keeps_limits ts P) (Zl.entry 2 ts) := by
  rintro _ P ⟨x, tk, bl, rfl, hx, hr, hb, h⟩
  rcases hx with rfl | rfl
  · refine ⟨rfl, _, tk, bl, rfl, by first | exact .inl rfl | exact .inr rfl, hr, hb, rfl, _, tk, bl, rfl, by first | exact .inl rfl | exact .inr rfl, hr.sums, ?_⟩
    dsimp only [back, isFz, gt, st, cl, clsE, Zl.entry, T.fr, List.map, List.append, List.nil_append, List.cons_append, List.append_nil, List.replicate, List.length, Nat.reduceSub, Nat.reduceAdd, Nat.zero_add, cond_true, cond_false]
    cases q : late tk bl with
    | none => rw [q] at h; exact h
    | some k =>
      rw [q] at h
      have e : decide ((k : Int) < 0) = false := decide_eq_false (by omega)
      show P (.fz (.bl (decide ((k : Int) < 0)))) _
      rw [e]; exact h
  · refine ⟨rfl, _, tk, bl, rfl, by first | exact .inl rfl | exact .inr rfl, hr, hb, rfl, _, tk, bl, rfl, by first | exact .inl rfl | exact .inr rfl, hr.sums, ?_⟩
    dsimp only [back, isFz, gt, st, cl, clsE, Zl.entry, T.fr, List.map, List.append, List.nil_append, List.cons_append, List.append_nil, List.replicate, List.length, Nat.reduceSub, Nat.reduceAdd, Nat.zero_add, cond_true, cond_false]
    cases q : late tk bl with
    | none => rw [q] at h; exact h
    | some k =>
      rw [q] at h
      have e : decide ((k : Int) < 0) = false := decide_eq_false (by omega)
      show P (.fz (.bl (decide ((k : Int) < 0)))) _
      rw [e]; exact h

theorem Row.perm {l l' : List Tk} (h : Row l) (p : l'.Perm l) : Row l' where
  few := by rw [p.length_eq]; exact h.few
  fit := fun t ht => h.fit t (p.mem_iff.mp ht)
  lim := fun t ht => h.lim t (p.mem_iff.mp ht)
  nod := (p.map Tk.n).nodup_iff.mpr h.nod
  res := fun t ht => h.res t (p.mem_iff.mp ht)
theorem srt_perm (l : List Tk) : (srt l).Perm l := List.mergeSort_perm ..
theorem srt_d (l : List Tk) : sortK 3 (tL l) = tL (srt l) := by
  have := W.sort_maps (r := fun a b : Tk => decide (a.l ≤ b.l)) (s := fun a b : D => decide (keyI 3 a ≤ keyI 3 b)) (l := l) Tk.d fun a _ b _ => by
    show decide (a.l ≤ b.l) = decide (keyI 3 (Tk.d a) ≤ keyI 3 (Tk.d b))
    have e : ∀ t : Tk, keyI 3 t.d = t.l := fun t => rfl
    rw [e, e]; simp
  exact this.symm
theorem tL_snoc (ts : List Tk) (t : Tk) : tL (ts ++ [t]) = tL ts ++ [t.d] := List.map_append ..
theorem tup_lc {l : List Tk} : ∀ d ∈ tL l, HasI 3 d := fun d hd => by
  obtain ⟨t, _, rfl⟩ := List.mem_map.mp hd
  exact ⟨_, t.l, rfl, rfl⟩
theorem red_by_limits : ∀ ts P, sp_by_limits ts P → w_by_limits (fin pm_by_limits ts P) (Zl.entry 2 ts) := by
  rintro _ P ⟨tk, rfl, hr, h⟩
  have hf := hr.few
  refine ⟨rfl, _, tk, 0, rfl, .inl rfl, hr, Nat.zero_le _, ?_⟩
  dsimp only [back, isFz, gt, st, cl, clsE, Zl.entry, T.fr, List.map, List.append, List.nil_append, List.cons_append, List.append_nil, List.replicate, List.length, Nat.reduceSub, Nat.reduceAdd, Nat.zero_add, cond_true, cond_false]
  refine lc_inv0 (fun j acc e => acc = tL (tk.take j) ∧ e = [some (.lst (tL tk)), none]) ⟨rfl, rfl⟩ ?_ ?_ ?_
  · rintro j acc e ⟨_, rfl⟩; rfl
  · rintro j d acc e hd ⟨rfl, rfl⟩ K hK
    obtain ⟨t, ht, rfl⟩ := map_get hd
    refine ⟨fun _ => ⟨szl (by rw [List.length_map, List.length_take]; omega), hK _ _ ⟨?_, rfl⟩⟩, fun k => noF k⟩
    rw [take_snoc ht]
    exact (tL_snoc _ _).symm
  · rintro acc e ⟨rfl, rfl⟩
    have e1 : (tL tk).length = tk.length := List.length_map ..
    rw [e1, List.take_length]
    refine ⟨tup_lc, ?_⟩
    rw [srt_d]
    exact h
theorem red_best_order : ∀ ts P, sp_best_order ts P → w_best_order (fin pm_best_order ts P) (Zl.entry 3 ts) := by
  rintro _ P ⟨tk, bl, rfl, hr, hb, h⟩
  refine ⟨rfl, _, tk, bl, rfl, .inl rfl, hr, hb, ?_⟩
  dsimp only [back, isFz, gt, st, cl, clsE, Zl.entry, T.fr, List.map, List.append, List.nil_append, List.cons_append, List.append_nil, List.replicate, List.length, Nat.reduceSub, Nat.reduceAdd, Nat.zero_add, cond_true, cond_false]
  refine ⟨rfl, tk, rfl, hr, ?_⟩
  dsimp only [back, isFz, gt, st, cl, clsE, Zl.entry, T.fr, List.map, List.append, List.nil_append, List.cons_append, List.append_nil, List.replicate, List.length, Nat.reduceSub, Nat.reduceAdd, Nat.zero_add, cond_true, cond_false]
  refine ⟨rfl, _, srt tk, bl, rfl, .inl rfl, (hr.perm (srt_perm tk)).sums, ?_⟩
  dsimp only [back, isFz, gt, st, cl, clsE, Zl.entry, T.fr, List.map, List.append, List.nil_append, List.cons_append, List.append_nil, List.replicate, List.length, Nat.reduceSub, Nat.reduceAdd, Nat.zero_add, cond_true, cond_false]
  unfold bestT at h
  cases q : late (srt tk) bl with
  | none => rw [q] at h; exact ⟨fun _ => h, fun k => noF k⟩
  | some k =>
    rw [q] at h
    refine ⟨fun z => ?_, fun _ => h⟩
    have z : (k : Int) < 0 := of_decide_eq_true z
    omega
theorem late_lt {l : List Tk} {bl k : Nat} (h : late l bl = some k) : k < l.length := by
  have := rspF_lt h
  omega
theorem red_breaking : ∀ ts P, sp_breaking ts P → w_breaking (fin pm_breaking ts P) (Zl.entry 4 ts) := by
  rintro _ P ⟨tk, bl, rfl, hr, hb, h⟩
  refine ⟨rfl, _, tk, bl, rfl, .inl rfl, hr, hb, ?_⟩
  dsimp only [back, isFz, gt, st, cl, clsE, Zl.entry, T.fr, List.map, List.append, List.nil_append, List.cons_append, List.append_nil, List.replicate, List.length, Nat.reduceSub, Nat.reduceAdd, Nat.zero_add, cond_true, cond_false]
  refine ⟨rfl, tk, rfl, hr, ?_⟩
  dsimp only [back, isFz, gt, st, cl, clsE, Zl.entry, T.fr, List.map, List.append, List.nil_append, List.cons_append, List.append_nil, List.replicate, List.length, Nat.reduceSub, Nat.reduceAdd, Nat.zero_add, cond_true, cond_false]
  refine ⟨rfl, _, srt tk, bl, rfl, .inl rfl, (hr.perm (srt_perm tk)).sums, ?_⟩
  dsimp only [back, isFz, gt, st, cl, clsE, Zl.entry, T.fr, List.map, List.append, List.nil_append, List.cons_append, List.append_nil, List.replicate, List.length, Nat.reduceSub, Nat.reduceAdd, Nat.zero_add, cond_true, cond_false]
  unfold firstD at h
  cases q : late (srt tk) bl with
  | none => rw [q] at h; exact ⟨fun _ => h, fun k => noF k⟩
  | some k =>
    rw [q] at h
    refine ⟨fun z => ?_, fun _ => ?_⟩
    · have z : (k : Int) < 0 := of_decide_eq_true z
      omega
    · have e0 := List.getElem?_eq_getElem (late_lt q)
      generalize (srt tk)[k]'(late_lt q) = r0 at e0
      have e1 : (tL (srt tk))[k]? = some r0.d := map_at e0
      have h : P (.fz (match (srt tk)[k]? with | some r => .str r.n | none => .non)) _ := h
      rw [e0] at h
      conv => whnf
      rw [atI_nat e1]
      exact h
theorem lastF_none {f : Nat → Bool} : ∀ {n : Nat}, (∀ s, s < n → f s = false) → lastF f n = none
  | 0, _ => rfl
  | n + 1, h => by
    show (if f n = true then some n else lastF f n) = none
    rw [h n (by omega), if_neg (by decide)]
    exact lastF_none fun s hs => h s (by omega)
theorem lastF_some {f : Nat → Bool} : ∀ {n k : Nat}, k < n → f k = true → (∀ s, k < s → s < n → f s = false) → lastF f n = some k
  | 0, _, h, _, _ => by omega
  | n + 1, k, h, hk, hs => by
    show (if f n = true then some n else lastF f n) = some k
    by_cases e : n = k
    · rw [e, hk, if_pos rfl]
    · rw [hs n (by omega) (by omega), if_neg (by decide)]
      exact lastF_some (by omega) hk fun s a b => hs s a (by omega)
theorem lastF_is {f : Nat → Bool} : ∀ {n k : Nat}, lastF f n = some k → k < n ∧ f k = true
  | 0, _, h => nomatch h
  | n + 1, k, h => by
    have h : (if f n = true then some n else lastF f n) = some k := h
    split at h
    · cases h; exact ⟨by omega, ‹_›⟩
    · obtain ⟨a, b⟩ := lastF_is h; exact ⟨by omega, b⟩
theorem lastF_no {f : Nat → Bool} : ∀ {n : Nat}, lastF f n = none → ∀ s, s < n → f s = false
  | 0, _, s, hs => by omega
  | n + 1, h, s, hs => by
    have h : (if f n = true then some n else lastF f n) = none := h
    split at h
    · cases h
    · by_cases e : s = n
      · rw [e]; simpa using ‹¬ f n = true›
      · exact lastF_no h s (by omega)
theorem fit_of {l : List Tk} {bl k : Nat} {r : Tk} (e : l[k]? = some r) : fitAt l bl k = keep r (l.eraseIdx k) bl := by unfold fitAt; rw [e]
theorem tL_erase (l : List Tk) (k : Nat) : (tL l).eraseIdx k = tL (l.eraseIdx k) := by
  rw [List.eraseIdx_eq_take_drop_succ, List.eraseIdx_eq_take_drop_succ, show tL (l.take k ++ l.drop (k + 1)) = tL (l.take k) ++ tL (l.drop (k + 1)) from List.map_append .., show tL (l.take k) = (tL l).take k from List.map_take .., show tL (l.drop (k + 1)) = (tL l).drop (k + 1) from List.map_drop ..]
theorem rngd_get {lo : Int} {n i : Nat} {d : D} (h : ((List.range n).map fun i : Nat => D.int (lo - i))[i]? = some d) : i < n ∧ d = .int (lo - i) := by
  rw [List.getElem?_map] at h
  by_cases hi : i < n
  · rw [List.getElem?_range hi] at h; cases h; exact ⟨hi, rfl⟩
  · rw [List.getElem?_eq_none (by simpa using Nat.le_of_not_lt hi)] at h; cases h
theorem cut_from_tL (ts : List Tk) (i : Nat) : cutD (tL ts) (some (i : Int)) none = tL (ts.drop i) := by rw [cut_from]; exact (List.map_drop ..).symm
theorem red_last_fit : ∀ ts P, sp_last_fit ts P → w_last_fit (fin pm_last_fit ts P) (Zl.entry 4 ts) := by
  rintro _ P ⟨tk, bl, rfl, hs, h⟩
  have hf := hs.few
  have e1 : (tL tk).length = tk.length := List.length_map ..
  refine ⟨⟨rfl, by rw [e1]; omega, by rw [e1]; omega, by omega, by omega⟩, ?_⟩
  rw [show ((((tL tk).length : Int) - 1) - (-1)).toNat = tk.length by rw [e1]; omega]
  refine for_inv (fun j e => (∀ s, tk.length ≤ s + j → s < tk.length → fitAt tk bl s = false) ∧ ∃ o2 o3, e = [some (.lst (tL tk)), some (.fz (.int bl)), o2, o3]) ⟨fun s a b => by omega, none, none, rfl⟩ ?_ ?_ ?_
  · intros; trivial
  · rintro j d e hd ⟨hn, o2, o3, rfl⟩ K hK
    obtain ⟨hj, rfl⟩ := rngd_get hd
    obtain ⟨m, hm⟩ : ∃ m : Nat, ((tL tk).length : Int) - 1 - (j : Int) = m ∧ m + j + 1 = tk.length := ⟨tk.length - 1 - j, by rw [e1]; omega, by omega⟩
    rw [hm.1]
    have hml : m < tk.length := by omega
    have e0 := List.getElem?_eq_getElem hml
    generalize tk[m] = r0 at e0
    have e2 : (tL tk)[m]? = some r0.d := map_at e0
    conv => whnf
    rw [cut_tL]
    have e3 : tL (tk.take m) ++ tL (tk.drop (m + 1)) = tL (tk.eraseIdx m) := by
      rw [List.eraseIdx_eq_take_drop_succ]
      exact (List.map_append ..).symm
    have e4 : (tk.eraseIdx m).length + 1 = tk.length := by
      rw [List.length_eraseIdx_of_lt hml]; omega
    rw [show ((m : Int) + 1) = ((m + 1 : Nat) : Int) by omega, cut_from_tL, e3, ← List.length_append, e3]
    have e5 : (tL (tk.eraseIdx m)).length = (tk.eraseIdx m).length := List.length_map ..
    refine ⟨Nat.le_trans (show (tL (tk.eraseIdx m)).length ≤ 100 by omega) (by decide), ?_⟩
    conv => whnf
    rw [atI_nat e2]
    refine ⟨le_b rfl, Nat.le_trans (show (tL (tk.eraseIdx m)).length + 1 ≤ 100 by omega) (by decide), rfl, .fz (.lst (tL (tk.eraseIdx m ++ [r0]))), tk.eraseIdx m ++ [r0], (tk.eraseIdx m).length, bl, ?_, .inr rfl, ⟨by rw [List.length_append]; show _ + 1 ≤ 4; omega, fun a ha => ?_⟩, by rw [List.length_append]; show _ < _ + 1; omega, ?_⟩
    · rw [tL_snoc, ← e5]; rfl
    · rcases List.mem_append.mp ha with z | z
      · exact hs.fit a (List.mem_of_mem_eraseIdx z)
      · rw [List.mem_singleton.mp z]; exact hs.fit r0 (List.mem_of_getElem? e0)
    dsimp only [back, isFz, gt, st, cl, clsE, Zl.entry, T.fr, List.map, List.append, List.nil_append, List.cons_append, List.append_nil, List.replicate, List.length, Nat.reduceSub, Nat.reduceAdd, Nat.zero_add, cond_true, cond_false]
    have e6 : keepAt (tk.eraseIdx m ++ [r0]) bl (tk.eraseIdx m).length = fitAt tk bl m := by
      rw [keep_of (r := r0) (by simp), fit_of e0, List.take_left]
    rw [e6]
    cases q : fitAt tk bl m with
    | true =>
      rw [show lastFit tk bl = some m from lastF_some hml q fun s a b => hn s (by omega) b] at h
      exact ⟨fun _ => h, fun k => noF k⟩
    | false =>
      refine ⟨fun k => noT k, fun _ => hK _ ⟨fun s a b => ?_, _, _, rfl⟩⟩
      by_cases z : s = m
      · rw [z]; exact q
      · exact hn s (by omega) b
  · rintro e ⟨hn, o2, o3, rfl⟩
    rw [List.length_map, List.length_range] at hn
    rw [show lastFit tk bl = none from lastF_none fun s hs => hn s (by omega) hs] at h
    exact h

theorem Sums.erase {l : List Tk} (h : Sums l) (k : Nat) : Sums (l.eraseIdx k) := ⟨Nat.le_trans (List.length_eraseIdx_le ..) h.few, fun t ht => h.fit t (List.mem_of_mem_eraseIdx ht)⟩
theorem lowest_step {l acc : List Tk} {bl k : Nat} {r : Tk} (hl : l.length = n + 1) (q : lastFit l bl = some k) (e : l[k]? = some r) : low bl l.length l acc = low bl (l.eraseIdx k).length (l.eraseIdx k) (r :: acc) := by
  have hk := (List.getElem?_eq_some_iff.mp e).1
  rw [List.length_eraseIdx_of_lt hk, hl]
  show (match lastFit l bl with | none => none | some k => match l[k]? with | some r => low bl n (l.eraseIdx k) (r :: acc) | none => none) = _
  rw [q]
  show (match l[k]? with | some r => low bl n (l.eraseIdx k) (r :: acc) | none => none) = _
  rw [e]; rfl
theorem lowest_stop {l acc : List Tk} {bl : Nat} (hl : l.length = n + 1) (q : lastFit l bl = none) : low bl l.length l acc = none := by
  rw [hl]
  show (match lastFit l bl with | none => none | some k => match l[k]? with | some r => low bl n (l.eraseIdx k) (r :: acc) | none => none) = _
  rw [q]
theorem low_end {acc : List Tk} {bl : Nat} : low bl ([] : List Tk).length [] acc = some acc := rfl
theorem tL_rev (l : List Tk) : (tL l).reverse = tL l.reverse := List.map_reverse .. |>.symm
theorem red_lowest_first : ∀ ts P, sp_lowest_first ts P → w_lowest_first (fin pm_lowest_first ts P) (Zl.entry 6 ts) := by
  rintro _ P ⟨tk, bl, rfl, hr, hb, h⟩
  have hf := hr.few
  refine ⟨rfl, _, tk, bl, rfl, .inl rfl, hr, hb, ?_⟩
  dsimp only [back, isFz, gt, st, cl, clsE, Zl.entry, T.fr, List.map, List.append, List.nil_append, List.cons_append, List.append_nil, List.replicate, List.length, Nat.reduceSub, Nat.reduceAdd, Nat.zero_add, cond_true, cond_false]
  refine lc_inv0 (fun j acc e => acc = tL (tk.take j) ∧ e = [some (.lst (tL tk)), some (.fz (.int bl)), none, none, none, none]) ⟨rfl, rfl⟩ ?_ ?_ ?_
  · rintro j acc e ⟨_, rfl⟩; rfl
  · rintro j d acc e hd ⟨rfl, rfl⟩ K hK
    obtain ⟨t, ht, rfl⟩ := map_get hd
    refine ⟨fun _ => ⟨szl (by rw [List.length_map, List.length_take]; omega), hK _ _ ⟨?_, rfl⟩⟩, fun k => noF k⟩
    rw [take_snoc ht]
    exact (tL_snoc _ _).symm
  rintro acc e ⟨rfl, rfl⟩
  rw [show (tL tk).length = tk.length from List.length_map .., List.take_length]
  refine ⟨le_b rfl, ?_⟩
  refine while_inv (fun n e => ∃ (l acc : List Tk) (o5 : Option T), n = l.length ∧ Sums l ∧ l.length + acc.length ≤ 4 ∧ low bl l.length l acc = lowest tk bl ∧ e = [some (.lst (tL tk)), some (.fz (.int bl)), some (.lst (tL l)), none, some (.lst (tL acc.reverse)), o5]) tk.length ⟨tk, [], none, rfl, hr.sums, by simpa using hf, rfl, rfl⟩ ?_
  rintro n e ⟨l, acc, o5, rfl, hs, hl4, hlow, rfl⟩ K hK
  have el : (tL l).length = l.length := List.length_map ..
  refine ⟨fun k => ?_, fun k => ?_⟩
  · have k : ((tL l).length : Int) > 0 := of_decide_eq_true k
    obtain ⟨n, hn⟩ : ∃ n, l.length = n + 1 := ⟨l.length - 1, by omega⟩
    refine ⟨rfl, l, bl, rfl, hs, ?_⟩
    dsimp only [back, isFz, gt, st, cl, clsE, Zl.entry, T.fr, List.map, List.append, List.nil_append, List.cons_append, List.append_nil, List.replicate, List.length, Nat.reduceSub, Nat.reduceAdd, Nat.zero_add, cond_true, cond_false]
    cases q : lastFit l bl with
    | none =>
      rw [lowest_stop hn q] at hlow
      rw [← hlow] at h
      exact ⟨fun _ => h, fun k => noF k⟩
    | some k =>
      obtain ⟨hk, _⟩ := lastF_is q
      have e0 := List.getElem?_eq_getElem hk
      generalize l[k] = r0 at e0
      have e1 : (tL l)[k]? = some r0.d := map_at e0
      refine ⟨fun z => ?_, fun _ => ?_⟩
      · have z : (k : Int) < 0 := of_decide_eq_true z
        omega
      · refine ⟨trivial, trivial, ?_⟩
        have es : seqIndex? (k : Int) (tL l).length = some k := by
          unfold seqIndex?
          simp; omega
        refine ⟨⟨by omega, by omega⟩, ?_⟩
        conv => whnf
        rw [es]
        conv => whnf
        rw [e1]
        have lr : (tL acc.reverse).length ≤ 4 := by rw [List.length_map, List.length_reverse]; omega
        have le : (l.eraseIdx k).length + 1 = l.length := by rw [List.length_eraseIdx_of_lt hk]; omega
        refine ⟨szl (by omega), hK (l.eraseIdx k).length _ (by omega) ⟨l.eraseIdx k, r0 :: acc, some (.fz (.int k)), rfl, hs.erase k, by rw [List.length_cons]; omega, (lowest_step hn q e0).symm.trans hlow, ?_⟩⟩
        rw [List.reverse_cons, tL_snoc, ← tL_erase]
        rfl
  · have k : ¬ ((tL l).length : Int) > 0 := of_decide_eq_false k
    have en : l = [] := List.eq_nil_of_length_eq_zero (by omega)
    subst en
    have hlow : some acc = lowest tk bl := hlow
    rw [← hlow] at h
    refine ⟨trivial, ?_⟩
    have h : P (.lst (tL acc)) _ := h
    rw [show tL acc = (tL acc.reverse).reverse by rw [tL_rev, List.reverse_reverse]] at h
    exact h

theorem Sums.snoc {ts : List Tk} {t : Tk} (h : Sums ts) (l : ts.length < 4) (f : t.Fits) : Sums (ts ++ [t]) := ⟨by rw [List.length_append]; show ts.length + 1 ≤ 4; omega, fun x hx => by
  rcases List.mem_append.mp hx with z | z
  · exact h.fit x z
  · rw [List.mem_singleton.mp z]; exact f⟩
theorem Row.nil : Row [] := ⟨by decide, fun _ h => (nomatch h), fun _ h => (nomatch h), List.nodup_nil, fun _ h => (nomatch h)⟩
theorem Row.snoc {ts : List Tk} {t : Tk} (h : Row ts) (l : ts.length < 4) (f : t.Fits) (hl : 1 ≤ t.l ∧ t.l ≤ t.g) (hn : t.n ∉ ts.map Tk.n) (hr : t.n ≠ "main" ∧ t.n ≠ "any") : Row (ts ++ [t]) where
  few := (h.sums.snoc l f).few
  fit := (h.sums.snoc l f).fit
  lim := fun x hx => by
    rcases List.mem_append.mp hx with z | z
    · exact h.lim x z
    · rw [List.mem_singleton.mp z]; exact hl
  nod := by
    rw [List.map_append, List.nodup_append]
    refine ⟨h.nod, by simp, fun a ha b hb => ?_⟩
    have : b = t.n := by simpa using hb
    subst this
    exact fun z => hn (z ▸ ha)
  res := fun x hx => by
    rcases List.mem_append.mp hx with z | z
    · exact h.res x z
    · rw [List.mem_singleton.mp z]; exact hr
theorem nm_ok {ts : List Tk} (h : Row ts) : ∀ x ∈ ts.map Tk.n, Nm x := fun x hx => by
  obtain ⟨t, ht, rfl⟩ := List.mem_map.mp hx
  exact (h.fit t ht).nm
theorem rspA_le {r : Tk} {ab : List Tk} {bl u : Nat} (h : rspA r ab bl = some u) : 1 ≤ u ∧ u ≤ r.g := by have := rspF_lt h; omega
theorem red_law_row : ∀ ts P, sp_law_row ts P → w_law_row (fin pm_law_row ts P) (Zl.entry 12 ts) := by
  rintro _ P ⟨rs, rfl, hr, h⟩
  refine ⟨Nat.zero_le _, rfl, rs, 3, rfl, hr, by decide, fun b1 rs h0 h1 hr => ?_⟩
  dsimp only [back, isFz, gt, st, cl, clsE, Zl.entry, T.fr, List.map, List.append, List.nil_append, List.cons_append, List.append_nil, List.replicate, List.length, Nat.reduceSub, Nat.reduceAdd, Nat.zero_add, cond_true, cond_false]
  refine wSeq_cut (fun e => ∃ (rs : List Int) (bl : Nat), rs.length ≤ 4000 ∧ bl ≤ 20 ∧ e = [some (.lst (iL rs)), some (.lst (sL [])), some (.fz (.int bl)), none, none, none, none, none, none, none, none, none]) (fun K hK => ?_) ?_
  · refine ⟨rfl, rs, 4, rfl, hr, by decide, fun r2 rs _ _ hr => ⟨fun _ => ?_, fun _ => ?_⟩⟩
    · dsimp only [back, isFz, gt, st, cl, clsE, Zl.entry, T.fr, List.map, List.append, List.nil_append, List.cons_append, List.append_nil, List.replicate, List.length, Nat.reduceSub, Nat.reduceAdd, Nat.zero_add, cond_true, cond_false]
      refine ⟨rfl, rs, 21, rfl, hr, by decide, fun r3 rs h2 h3 hr => ?_⟩
      dsimp only [back, isFz, gt, st, cl, clsE, Zl.entry, T.fr, List.map, List.append, List.nil_append, List.cons_append, List.append_nil, List.replicate, List.length, Nat.reduceSub, Nat.reduceAdd, Nat.zero_add, cond_true, cond_false]
      obtain ⟨n, rfl⟩ := Int.eq_ofNat_of_zero_le h2
      exact hK _ ⟨rs, n, hr, by omega, rfl⟩
    · obtain ⟨n, rfl⟩ := Int.eq_ofNat_of_zero_le h0
      exact hK _ ⟨rs, n, hr, by omega, rfl⟩
  rintro e ⟨rs, bl, hr, hb, rfl⟩
  refine ⟨Nat.zero_le _, rfl, rs, 5, rfl, hr, by decide, fun r4 rs h2 h3 hr => ?_⟩
  dsimp only [back, isFz, gt, st, cl, clsE, Zl.entry, T.fr, List.map, List.append, List.nil_append, List.cons_append, List.append_nil, List.replicate, List.length, Nat.reduceSub, Nat.reduceAdd, Nat.zero_add, cond_true, cond_false]
  refine ⟨⟨by omega, by omega⟩, ?_⟩
  refine for_inv (fun j e => ∃ (rs : List Int) (tk : List Tk) (o4 o5 o6 o7 o8 o9 : Option T), rs.length ≤ 4000 ∧ tk.length = j ∧ Row tk ∧ e = [some (.lst (iL rs)), some (.lst (sL (tk.map Tk.n))), some (.fz (.int bl)), some (.lst (tL tk)), o4, o5, o6, o7, o8, o9, none, none]) ⟨rs, [], _, _, _, _, _, _, hr, rfl, Row.nil, rfl⟩ ?_ ?_ ?_
  · intros; trivial
  · rintro j d e hd ⟨rs, tk, o4, o5, o6, o7, o8, o9, hr, hl, ht, rfl⟩ K hK
    obtain ⟨hj, rfl⟩ := rng_get hd
    refine ⟨rfl, rs, tk.map Tk.n, rfl, hr, by rw [List.length_map]; omega, nm_ok ht, fun nm rs hnm hn1 hn2 hn3 hr => ?_⟩
    dsimp only [back, isFz, gt, st, cl, clsE, Zl.entry, T.fr, List.map, List.append, List.nil_append, List.cons_append, List.append_nil, List.replicate, List.length, Nat.reduceSub, Nat.reduceAdd, Nat.zero_add, cond_true, cond_false]
    refine ⟨rfl, rs, 3, rfl, hr, by decide, fun w1 rs hw1 hw2 hr => ?_⟩
    dsimp only [back, isFz, gt, st, cl, clsE, Zl.entry, T.fr, List.map, List.append, List.nil_append, List.cons_append, List.append_nil, List.replicate, List.length, Nat.reduceSub, Nat.reduceAdd, Nat.zero_add, cond_true, cond_false]
    dsimp only [Zl.rs, Zl.rss, gt, T.fr, gAdd, gSub, gEq, gIx]
    refine wSeq_cut (fun e => ∃ (rs : List Int) (w : Nat), rs.length ≤ 4000 ∧ 2 ≤ w ∧ w ≤ 20 ∧ e = [some (.lst (iL rs)), some (.lst (sL (tk.map Tk.n ++ [nm]))), some (.fz (.int bl)), some (.lst (tL tk)), some (.fz (.int j)), some (.fz (.str nm)), some (.fz (.int w)), o7, o8, o9, none, none]) (fun K hK => ?_) ?_
    · refine ⟨rfl, rs, 4, rfl, hr, by decide, fun r2 rs _ _ hr => ⟨fun _ => ?_, fun _ => ?_⟩⟩
      · dsimp only [back, isFz, gt, st, cl, clsE, Zl.entry, T.fr, List.map, List.append, List.nil_append, List.cons_append, List.append_nil, List.replicate, List.length, Nat.reduceSub, Nat.reduceAdd, Nat.zero_add, cond_true, cond_false]
        refine ⟨rfl, rs, 19, rfl, hr, by decide, fun r3 rs h2 h3 hr => ?_⟩
        dsimp only [back, isFz, gt, st, cl, clsE, Zl.entry, T.fr, List.map, List.append, List.nil_append, List.cons_append, List.append_nil, List.replicate, List.length, Nat.reduceSub, Nat.reduceAdd, Nat.zero_add, cond_true, cond_false]
        obtain ⟨n, rfl⟩ := Int.eq_ofNat_of_zero_le h2
        exact hK _ ⟨rs, 2 + n, hr, by omega, by omega, rfl⟩
      · obtain ⟨n, rfl⟩ := Int.eq_ofNat_of_zero_le hw1
        exact hK _ ⟨rs, 2 + n, hr, by omega, by omega, rfl⟩
    rintro e ⟨rs, w, hr, hw2, hw20, rfl⟩
    refine ⟨rfl, rs, 20, rfl, hr, by decide, fun g1 rs hg1 hg2 hr => ?_⟩
    dsimp only [back, isFz, gt, st, cl, clsE, Zl.entry, T.fr, List.map, List.append, List.nil_append, List.cons_append, List.append_nil, List.replicate, List.length, Nat.reduceSub, Nat.reduceAdd, Nat.zero_add, cond_true, cond_false]
    have ft : ∀ g, 1 ≤ g → g ≤ 20 → ∀ l, (Tk.mk nm w g l).Fits := fun g a b l => ⟨hnm, hw2, hw20, a, b⟩
    refine ⟨le_b rfl, rfl, _, tk, ⟨nm, w, 20, 1⟩, bl, rfl, .inl rfl, ht.fit, ft 20 (by decide) (by decide) 1, ?_⟩
    dsimp only [back, isFz, gt, st, cl, clsE, Zl.entry, T.fr, List.map, List.append, List.nil_append, List.cons_append, List.append_nil, List.replicate, List.length, Nat.reduceSub, Nat.reduceAdd, Nat.zero_add, cond_true, cond_false]
    have hro : ∀ u, rspA ⟨nm, w, 20, 1⟩ tk bl = some u → 1 ≤ u ∧ u ≤ 20 := fun u e => rspA_le e
    generalize rspA ⟨nm, w, 20, 1⟩ tk bl = ro at hro
    obtain ⟨g, rfl⟩ := Int.eq_ofNat_of_zero_le hg1
    refine wSeq_cut (fun e => ∃ (rs : List Int) (g : Nat), rs.length ≤ 4000 ∧ 1 ≤ g ∧ g ≤ 20 ∧ e = [some (.lst (iL rs)), some (.lst (sL (tk.map Tk.n ++ [nm]))), some (.fz (.int bl)), some (.lst (tL tk)), some (.fz (.int j)), some (.fz (.str nm)), some (.fz (.int w)), some (.fz (.int g)), some (.fz (oD ro)), o9, none, none]) (fun K hK => ?_) ?_
    · cases ro with
      | none => exact ⟨fun k => noT k, fun _ => ⟨fun k => noT k, fun _ => hK _ ⟨rs, 1 + g, hr, by omega, by omega, rfl⟩⟩⟩
      | some r =>
        have hr1 := hro r rfl
        refine ⟨fun _ => ⟨rfl, rs, 4, rfl, hr, by decide, fun r3 rs _ _ hr => ⟨fun _ => ?_, fun _ => ?_⟩⟩, fun k => noF k⟩
        · dsimp only [back, isFz, gt, st, cl, clsE, Zl.entry, T.fr, List.map, List.append, List.nil_append, List.cons_append, List.append_nil, List.replicate, List.length, Nat.reduceSub, Nat.reduceAdd, Nat.zero_add, cond_true, cond_false]
          refine ⟨rfl, rs, 8, rfl, hr, by decide, fun n1 rs hn0 hn8 hr => ?_⟩
          dsimp only [back, isFz, gt, st, cl, clsE, Zl.entry, T.fr, List.map, List.append, List.nil_append, List.cons_append, List.append_nil, List.replicate, List.length, Nat.reduceSub, Nat.reduceAdd, Nat.zero_add, cond_true, cond_false]
          have hm : ∃ m : Nat, min (20 : Int) ((r : Int) + n1) = m ∧ 1 ≤ m ∧ m ≤ 20 := ⟨(min (20 : Int) ((r : Int) + n1)).toNat, by omega, by omega, by omega⟩
          obtain ⟨m, em, m1, m2⟩ := hm
          refine hK _ ⟨rs, m, hr, m1, m2, ?_⟩
          rw [← em]
          rfl
        · exact hK _ ⟨rs, 1 + g, hr, by omega, by omega, rfl⟩
    rintro e ⟨rs, g, hr, hg1, hg20, rfl⟩
    refine ⟨rfl, rs, g, rfl, hr, by omega, fun l1 rs hl0 hl1 hr => ?_⟩
    dsimp only [back, isFz, gt, st, cl, clsE, Zl.entry, T.fr, List.map, List.append, List.nil_append, List.cons_append, List.append_nil, List.replicate, List.length, Nat.reduceSub, Nat.reduceAdd, Nat.zero_add, cond_true, cond_false]
    obtain ⟨l, rfl⟩ := Int.eq_ofNat_of_zero_le hl0
    dsimp only [Zl.rs, Zl.rss, gt, T.fr, gAdd, gSub, gEq, gIx]
    refine wSeq_cut (fun e => ∃ (rs : List Int) (l : Nat), rs.length ≤ 4000 ∧ 1 ≤ l ∧ l ≤ g ∧ e = [some (.lst (iL rs)), some (.lst (sL (tk.map Tk.n ++ [nm]))), some (.fz (.int bl)), some (.lst (tL tk)), some (.fz (.int j)), some (.fz (.str nm)), some (.fz (.int w)), some (.fz (.int g)), some (.fz (oD ro)), some (.fz (.int l)), none, none]) (fun K hK => ?_) ?_
    · cases ro with
      | none => exact ⟨fun k => noT k, fun _ => ⟨fun k => noT k, fun _ => hK _ ⟨rs, 1 + l, hr, by omega, by omega, rfl⟩⟩⟩
      | some r =>
        refine ⟨fun _ => ⟨rfl, rs, 4, rfl, hr, by decide, fun r3 rs _ _ hr => ⟨fun _ => ?_, fun _ => ?_⟩⟩, fun k => noF k⟩
        · dsimp only [back, isFz, gt, st, cl, clsE, Zl.entry, T.fr, List.map, List.append, List.nil_append, List.cons_append, List.append_nil, List.replicate, List.length, Nat.reduceSub, Nat.reduceAdd, Nat.zero_add, cond_true, cond_false]
          refine ⟨rfl, rs, 4, rfl, hr, by decide, fun n1 rs hn0 hn8 hr => ?_⟩
          dsimp only [back, isFz, gt, st, cl, clsE, Zl.entry, T.fr, List.map, List.append, List.nil_append, List.cons_append, List.append_nil, List.replicate, List.length, Nat.reduceSub, Nat.reduceAdd, Nat.zero_add, cond_true, cond_false]
          have hm : ∃ m : Nat, max (1 : Int) (min (g : Int) ((r : Int) - 1 + n1)) = m ∧ 1 ≤ m ∧ m ≤ g := ⟨(max (1 : Int) (min (g : Int) ((r : Int) - 1 + n1))).toNat, by omega, by omega, by omega⟩
          obtain ⟨m, em, m1, m2⟩ := hm
          refine hK _ ⟨rs, m, hr, m1, m2, ?_⟩
          rw [← em]
          rfl
        · exact hK _ ⟨rs, 1 + l, hr, by omega, by omega, rfl⟩
    rintro e ⟨rs, l, hr, hl1, hlg, rfl⟩
    refine wSeq_cut (fun e => ∃ (rs : List Int) (l : Nat), rs.length ≤ 4000 ∧ 1 ≤ l ∧ l ≤ g ∧ e = [some (.lst (iL rs)), some (.lst (sL (tk.map Tk.n ++ [nm]))), some (.fz (.int bl)), some (.lst (tL tk)), some (.fz (.int j)), some (.fz (.str nm)), some (.fz (.int w)), some (.fz (.int g)), some (.fz (oD ro)), some (.fz (.int l)), none, none]) (fun K hK => ?_) ?_
    · refine ⟨fun k => ⟨rfl, rs, 5, rfl, hr, by decide, fun r3 rs _ _ hr => ⟨fun _ => ?_, fun _ => ?_⟩⟩, fun _ => ⟨fun k => noT k, fun _ => hK _ ⟨rs, l, hr, hl1, hlg, rfl⟩⟩⟩
      · dsimp only [back, isFz, gt, st, cl, clsE, Zl.entry, T.fr, List.map, List.append, List.nil_append, List.cons_append, List.append_nil, List.replicate, List.length, Nat.reduceSub, Nat.reduceAdd, Nat.zero_add, cond_true, cond_false]
        have k : (j : Int) > 0 := of_decide_eq_true k
        rcases List.eq_nil_or_concat tk with z | ⟨tk0, t, z⟩
        · subst z
          have : (0 : Nat) = j := hl
          omega
        · rw [List.concat_eq_append] at z
          have ea : atI (tL tk) (-1) = some t.d := by rw [z, tL_snoc]; exact atI_last _ _
          have f := ht.lim t (by rw [z]; simp)
          conv => whnf
          rw [ea]
          have hm : ∃ m : Nat, min (g : Int) (t.l : Int) = m ∧ 1 ≤ m ∧ m ≤ g := ⟨(min (g : Int) (t.l : Int)).toNat, by omega, by omega, by omega⟩
          obtain ⟨m, em, m1, m2⟩ := hm
          refine hK _ ⟨rs, m, hr, m1, m2, ?_⟩
          rw [← em]
          rfl
      · exact hK _ ⟨rs, l, hr, hl1, hlg, rfl⟩
    rintro e ⟨rs, l, hr, hl1, hlg, rfl⟩
    refine ⟨trivial, le_b rfl, szl (by rw [List.length_map]; omega), hK _ ⟨rs, tk ++ [⟨nm, w, g, l⟩], some (.fz (.int j)), some (.fz (.str nm)), some (.fz (.int w)), some (.fz (.int g)), some (.fz (oD ro)), some (.fz (.int l)), hr, by rw [List.length_append, hl]; rfl, ht.snoc (by omega) (ft g hg1 hg20 _) ⟨hl1, hlg⟩ hn1 ⟨hn2, hn3⟩, ?_⟩⟩
    rw [tL_snoc, List.map_append]
    rfl
  · rintro e ⟨rs, tk, o4, o5, o6, o7, o8, o9, hr, hl, ht, rfl⟩
    have hf := ht.few
    refine ⟨Nat.zero_le _, rfl, ?_⟩
    refine for_inv (fun j e => ∃ (rs : List Int) (row : List Tk) (o11 : Option T), rs.length ≤ 4000 ∧ row.Perm (tk.take j) ∧ e = [some (.lst (iL rs)), some (.lst (sL (tk.map Tk.n))), some (.fz (.int bl)), some (.lst (tL tk)), o4, o5, o6, o7, o8, o9, some (.lst (tL row)), o11]) ⟨rs, [], none, hr, .nil, rfl⟩ ?_ ?_ ?_
    · rintro j e ⟨_, _, _, _, _, rfl⟩; rfl
    · rintro j d e hd ⟨rs, row, o11, hr, hp, rfl⟩ K hK
      obtain ⟨t, ht2, rfl⟩ := map_get hd
      have hl := hp.length_eq
      rw [List.length_take] at hl
      have el : (tL row).length = row.length := List.length_map ..
      refine ⟨trivial, rfl, rs, (tL row).length + 1, rfl, hr, by omega, fun r rs h0 h1 hr => ?_⟩
      dsimp only [back, isFz, gt, st, cl, clsE, Zl.entry, T.fr, List.map, List.append, List.nil_append, List.cons_append, List.append_nil, List.replicate, List.length, Nat.reduceSub, Nat.reduceAdd, Nat.zero_add, cond_true, cond_false]
      obtain ⟨n, rfl⟩ := Int.eq_ofNat_of_zero_le h0
      refine ⟨⟨szl (by omega), h0, by omega⟩, hK _ ⟨rs, row.take n ++ [t] ++ row.drop n, some (.fz t.d), hr, ?_, ?_⟩⟩
      · rw [take_snoc ht2]
        have p1 : (row.take n ++ [t] ++ row.drop n).Perm (row ++ [t]) := by
          rw [List.append_assoc]
          refine (List.Perm.append_left _ List.perm_append_comm).trans ?_
          rw [← List.append_assoc, List.take_append_drop]
        exact p1.trans (hp.append_right _)
      · rw [show tL (row.take n ++ [t] ++ row.drop n) = tL (row.take n ++ [t]) ++ tL (row.drop n) from List.map_append .., tL_snoc, show tL (row.take n) = (tL row).take n from List.map_take .., show tL (row.drop n) = (tL row).drop n from List.map_drop ..]
        rfl
    · rintro e ⟨rs, row, o11, hr, hp, rfl⟩
      rw [show (tL tk).length = tk.length from List.length_map .., List.take_length] at hp
      exact ⟨le_b rfl, h row bl rs (ht.perm hp) hb hr⟩

/-! ### the plain law: orders -/
def sm (t : Int) : List Tk → Int
  | [] => 0
  | r :: l => cdv t r.g * r.w + sm t l
theorem fold_sm {t : Int} : ∀ (l : List Tk) (a : Int), l.foldl (ndF t) a = a + sm t l
  | [], a => by show a = a + 0; omega
  | r :: l, a => by
    show l.foldl (ndF t) (ndF t a r) = a + (cdv t r.g * r.w + sm t l)
    rw [fold_sm l]; unfold ndF; omega
theorem sm_app {t : Int} : ∀ (l l' : List Tk), sm t (l ++ l') = sm t l + sm t l'
  | [], l' => by show sm t l' = 0 + sm t l'; omega
  | r :: l, l' => by
    show cdv t r.g * r.w + sm t (l ++ l') = cdv t r.g * r.w + sm t l + sm t l'
    rw [sm_app l l']; omega
theorem sm_perm {t : Int} {l l' : List Tk} (p : l.Perm l') : sm t l = sm t l' := by
  induction p with
  | nil => rfl
  | cons x _ ih => show _ + _ = _ + _; rw [ih]
  | swap x y l => show _ + (_ + _) = _ + (_ + _); omega
  | trans _ _ a b => exact a.trans b
theorem term_nn {t : Int} (ht : 0 ≤ t) {r : Tk} (f : r.Fits) : 0 ≤ cdv t r.g * r.w := by
  have := f.g1
  exact Int.mul_nonneg (cdv_nn (by omega) ht) (by omega)
theorem sm_nn {t : Int} (ht : 0 ≤ t) : ∀ {l : List Tk}, (∀ r ∈ l, r.Fits) → 0 ≤ sm t l
  | [], _ => Int.le_refl _
  | r :: l, h => by
    have a := term_nn ht (h r (List.mem_cons_self ..))
    have b := sm_nn ht (l := l) fun x hx => h x (List.mem_cons_of_mem _ hx)
    show 0 ≤ cdv t r.g * r.w + sm t l
    omega
theorem sm_sub {t : Int} (ht : 0 ≤ t) : ∀ {l l' : List Tk}, l.Nodup → (∀ r ∈ l, r ∈ l') → (∀ r ∈ l', r.Fits) → sm t l ≤ sm t l'
  | [], l', _, _, hf => sm_nn ht hf
  | r :: l, l', hn, hs, hf => by
    have hn := List.nodup_cons.mp hn
    have hr := hs r (List.mem_cons_self ..)
    have p := List.perm_cons_erase hr
    rw [sm_perm p]
    have := sm_sub ht (l := l) (l' := l'.erase r) hn.2 (fun x hx => (List.mem_erase_of_ne (show x ≠ r from fun z => hn.1 (z ▸ hx))).mpr (hs x (List.mem_cons_of_mem _ hx))) fun x hx => hf x (List.mem_of_mem_erase hx)
    show cdv t r.g * r.w + sm t l ≤ cdv t r.g * r.w + sm t (l'.erase r)
    omega
theorem sm_mono {t u : Int} (h : t ≤ u) : ∀ {l : List Tk}, (∀ r ∈ l, r.Fits) → sm t l ≤ sm u l
  | [], _ => Int.le_refl _
  | r :: l, hf => by
    have f := (hf r (List.mem_cons_self ..)).g1
    have a := Int.mul_le_mul_of_nonneg_right (cdv_mono (g := r.g) (by omega) h) (show (0 : Int) ≤ r.w by omega)
    have b := sm_mono h (l := l) fun x hx => hf x (List.mem_cons_of_mem _ hx)
    show cdv t r.g * r.w + sm t l ≤ cdv u r.g * r.w + sm u l
    omega
theorem cdv_pos {t g : Int} (hg : 0 < g) (ht : 1 ≤ t) : 1 ≤ cdv t g := by
  have := Int.ediv_lt_of_lt_mul hg (a := -t) (b := 0) (by omega)
  unfold cdv; omega
theorem cdv_one {t g : Int} (h1 : 1 ≤ t) (h2 : t ≤ g) : cdv t g = 1 := by
  have := edu (x := -t) (g := g) (m := -1) (by omega) (by omega) (by omega)
  unfold cdv; omega
theorem nda {r : Tk} {ab : List Tk} {bl : Nat} {t : Int} : ndA r ab bl t = r.w + bl + sm t ab := fold_sm ..
theorem rspF_ex {f : Nat → Bool} : ∀ {n t u : Nat}, t ≤ u → u < t + n → f u = true → ∃ s, rspF f t n = some s ∧ s ≤ u ∧ f s = true
  | 0, t, u, h1, h2, _ => by omega
  | n + 1, t, u, h1, h2, h3 => by
    show ∃ s, (if f t = true then some t else rspF f (t + 1) n) = some s ∧ _
    by_cases z : f t = true
    · rw [if_pos z]; exact ⟨t, rfl, h1, z⟩
    · rw [if_neg z]
      have : t ≠ u := fun y => z (y ▸ h3)
      exact rspF_ex (by omega) (by omega) h3
theorem rspF_is {f : Nat → Bool} : ∀ {n t u : Nat}, rspF f t n = some u → f u = true
  | 0, _, _, h => nomatch h
  | n + 1, t, u, h => by
    have h : (if f t = true then some t else rspF f (t + 1) n) = some u := h
    split at h
    · cases h; assumption
    · exact rspF_is h
/-- a least one there is -/
theorem least {p : Nat → Prop} : ∀ n, p n → ∃ m, m ≤ n ∧ p m ∧ ∀ s, s < m → ¬ p s := by
  intro n
  induction n using Nat.strongRecOn with
  | ind n ih =>
    intro h
    by_cases z : ∃ s, s < n ∧ p s
    · obtain ⟨s, hs, ps⟩ := z
      obtain ⟨m, h1, h2, h3⟩ := ih s hs ps
      exact ⟨m, by omega, h2, h3⟩
    · exact ⟨n, Nat.le_refl _, h, fun s hs ps => z ⟨s, hs, ps⟩⟩
/-- it keeps its limit: some time within it is enough -/
theorem keep_iff {r : Tk} {ab : List Tk} {bl : Nat} (hr : r.Fits) (hl : r.l ≤ r.g) (ha : ∀ a ∈ ab, a.Fits) : keep r ab bl = true ↔ ∃ t : Nat, 1 ≤ t ∧ t ≤ r.l ∧ (r.w : Int) + bl + sm t ab ≤ t := by
  constructor
  · intro h
    unfold keep at h
    cases q : rspA r ab bl with
    | none => rw [q] at h; cases h
    | some t =>
      rw [q] at h
      have h : t ≤ r.l := of_decide_eq_true h
      have a := rspF_is q
      have a : ndA r ab bl t = t := of_decide_eq_true a
      rw [nda] at a
      have b := rspF_lt q
      exact ⟨t, by omega, h, by omega⟩
  · rintro ⟨t, h1, h2, h3⟩
    obtain ⟨u, u1, ⟨u0, u2⟩, u3⟩ := least (p := fun s : Nat => 1 ≤ s ∧ (r.w : Int) + bl + sm s ab ≤ s) t ⟨h1, h3⟩
    have w2 := hr.w2
    have nn := sm_nn (t := u) (by omega) ha
    have eu : (r.w : Int) + bl + sm u ab = u := by
      by_cases z : (r.w : Int) + bl + sm u ab = u
      · exact z
      · obtain ⟨v, hv⟩ := Int.eq_ofNat_of_zero_le (show 0 ≤ (r.w : Int) + bl + sm u ab by omega)
        have m := sm_mono (t := v) (u := u) (by omega) ha
        exact absurd ⟨by omega, by omega⟩ (u3 v (by omega))
    obtain ⟨s, e, s1, _⟩ := rspF_ex (f := fun t : Nat => decide (ndA r ab bl t = t)) (n := r.g) (t := 1) (u := u) u0 (by omega) (decide_eq_true (by rw [nda]; exact eu))
    unfold keep rspA
    rw [e]
    exact decide_eq_true (by omega)
theorem keep_mono {r : Tk} {ab ab' : List Tk} {bl : Nat} (hr : r.Fits) (hl : r.l ≤ r.g) (ha : ∀ a ∈ ab, a.Fits) (ha' : ∀ a ∈ ab', a.Fits) (h : ∀ t : Int, 0 ≤ t → sm t ab' ≤ sm t ab) (k : keep r ab bl = true) : keep r ab' bl = true := by
  obtain ⟨t, h1, h2, h3⟩ := (keep_iff hr hl ha).mp k
  have := h t (by omega)
  exact (keep_iff hr hl ha').mpr ⟨t, h1, h2, by omega⟩
/-- all keep their limits, those of ab above -/
def Fs (bl : Nat) : List Tk → List Tk → Prop
  | _, [] => True
  | ab, r :: l => keep r ab bl = true ∧ Fs bl (ab ++ [r]) l
theorem fs_at {bl : Nat} : ∀ {ab l : List Tk}, Fs bl ab l ↔ ∀ (i : Nat) (r : Tk), l[i]? = some r → keep r (ab ++ l.take i) bl = true
  | ab, [] => ⟨fun _ i r h => by simp at h, fun _ => trivial⟩
  | ab, r :: l => by
    constructor
    · rintro ⟨h1, h2⟩ i q e
      cases i with
      | zero => cases e; simpa using h1
      | succ i =>
        have := (fs_at (ab := ab ++ [r]) (l := l)).mp h2 i q (by simpa using e)
        simpa using this
    · intro h
      refine ⟨by simpa using h 0 r rfl, (fs_at (ab := ab ++ [r]) (l := l)).mpr fun i q e => ?_⟩
      have := h (i + 1) q (by simpa using e)
      simpa using this
theorem fs_late {l : List Tk} {bl : Nat} : late l bl = none ↔ Fs bl [] l := by
  constructor
  · intro h
    refine fs_at.mpr fun i r e => ?_
    have hi := (List.getElem?_eq_some_iff.mp e).1
    rw [List.nil_append, ← keep_of e]
    cases q : keepAt l bl i with
    | true => rfl
    | false =>
      obtain ⟨s, es, _, _⟩ := rspF_ex (f := fun i => !keepAt l bl i) (n := l.length) (t := 0) (u := i) (Nat.zero_le _) (by omega) (by rw [q]; rfl)
      have h : rspF (fun i => !keepAt l bl i) 0 l.length = none := h
      rw [es] at h; cases h
  · intro h
    refine late_none fun s hs => ?_
    have e := List.getElem?_eq_getElem hs
    rw [keep_of e]
    have := fs_at.mp h s _ e
    rwa [List.nil_append] at this
/-- rows that fit, with limits within their gaps -/
structure Gd (l : List Tk) : Prop where
  fit : ∀ t ∈ l, t.Fits
  lim : ∀ t ∈ l, t.l ≤ t.g
theorem Row.gd {l : List Tk} (h : Row l) : Gd l := ⟨h.fit, fun t ht => (h.lim t ht).2⟩
theorem Gd.sub {l l' : List Tk} (h : Gd l) (s : ∀ x ∈ l', x ∈ l) : Gd l' := ⟨fun t ht => h.fit t (s t ht), fun t ht => h.lim t (s t ht)⟩
theorem fs_mono {bl : Nat} : ∀ {l ab ab' : List Tk}, Gd l → Gd ab → Gd ab' → (∀ t : Int, 0 ≤ t → sm t ab' ≤ sm t ab) → Fs bl ab l → Fs bl ab' l
  | [], _, _, _, _, _, _, _ => trivial
  | r :: l, ab, ab', g, ga, ga', h, ⟨h1, h2⟩ => by
    have gr := g.fit r (List.mem_cons_self ..)
    have gl : Gd l := g.sub fun x hx => List.mem_cons_of_mem _ hx
    have app : ∀ {a : List Tk}, Gd a → Gd (a ++ [r]) := fun {a} ha => ⟨fun t ht => by
      rcases List.mem_append.mp ht with z | z
      · exact ha.fit t z
      · rw [List.mem_singleton.mp z]; exact gr, fun t ht => by
      rcases List.mem_append.mp ht with z | z
      · exact ha.lim t z
      · rw [List.mem_singleton.mp z]; exact g.lim r (List.mem_cons_self ..)⟩
    refine ⟨keep_mono gr (g.lim r (List.mem_cons_self ..)) ga.fit ga'.fit h h1, fs_mono gl (app ga) (app ga') (fun t ht => ?_) h2⟩
    rw [sm_app, sm_app]
    have := h t ht
    omega
theorem fs_erase {bl : Nat} {x : Tk} : ∀ {l ab : List Tk}, Gd l → Gd ab → Fs bl ab l → Fs bl ab (l.erase x)
  | [], _, _, _, _ => trivial
  | r :: l, ab, g, ga, ⟨h1, h2⟩ => by
    have gr := g.fit r (List.mem_cons_self ..)
    have gl : Gd l := g.sub fun x hx => List.mem_cons_of_mem _ hx
    have gar : Gd (ab ++ [r]) := ⟨fun t ht => by
      rcases List.mem_append.mp ht with z | z
      · exact ga.fit t z
      · rw [List.mem_singleton.mp z]; exact gr, fun t ht => by
      rcases List.mem_append.mp ht with z | z
      · exact ga.lim t z
      · rw [List.mem_singleton.mp z]; exact g.lim r (List.mem_cons_self ..)⟩
    rw [List.erase_cons]
    by_cases z : (r == x) = true
    · rw [if_pos z]
      refine fs_mono gl gar ga (fun t ht => ?_) h2
      rw [sm_app]
      have := term_nn ht gr
      show sm t ab ≤ sm t ab + (cdv t r.g * r.w + 0)
      omega
    · rw [if_neg z]
      exact ⟨h1, fs_erase gl gar h2⟩

/-! ### the last that fits -/
theorem Fs.last {bl : Nat} {q : Tk} : ∀ {o ab : List Tk}, Fs bl ab (o ++ [q]) → keep q (ab ++ o) bl = true
  | [], ab, ⟨h, _⟩ => by simpa using h
  | r :: o, ab, ⟨_, h⟩ => by
    have := Fs.last (o := o) (ab := ab ++ [r]) h
    simpa using this
theorem keep_perm {r : Tk} {ab ab' : List Tk} {bl : Nat} (p : ab.Perm ab') : keep r ab bl = keep r ab' bl := by
  have e : ∀ t : Int, ndA r ab bl t = ndA r ab' bl t := fun t => by rw [nda, nda, sm_perm p]
  have : rspA r ab bl = rspA r ab' bl := by
    unfold rspA
    congr 1
    funext t
    rw [e]
  unfold keep
  rw [this]
theorem erase_at {l : List Tk} {k : Nat} {r : Tk} (e : l[k]? = some r) : l.Perm (r :: l.eraseIdx k) := by
  have hk := (List.getElem?_eq_some_iff.mp e).1
  have e2 : l[k] = r := (List.getElem?_eq_some_iff.mp e).2
  have e3 : l = l.take k ++ r :: l.drop (k + 1) := by
    rw [← e2, ← List.drop_eq_getElem_cons hk, List.take_append_drop]
  rw [List.eraseIdx_eq_take_drop_succ]
  exact (List.Perm.of_eq e3).trans List.perm_middle
theorem low_get {bl n : Nat} {l acc f : List Tk} (h : low bl (n + 1) l acc = some f) : ∃ k r, lastFit l bl = some k ∧ l[k]? = some r ∧ low bl n (l.eraseIdx k) (r :: acc) = some f := by
  have h : (match lastFit l bl with | none => none | some k => match l[k]? with | some r => low bl n (l.eraseIdx k) (r :: acc) | none => none) = some f := h
  cases q : lastFit l bl with
  | none => rw [q] at h; cases h
  | some k =>
    rw [q] at h
    cases e : l[k]? with
    | none => simp only [e] at h; cases h
    | some r => simp only [e] at h; exact ⟨k, r, rfl, e, h⟩
theorem low_ok {bl : Nat} : ∀ {n : Nat} {l acc f : List Tk}, l.length = n → low bl n l acc = some f → Fs bl l acc → f.Perm (l ++ acc) ∧ Fs bl [] f
  | 0, l, acc, f, hl, h, ha => by
    have : l = [] := List.eq_nil_of_length_eq_zero hl
    subst this
    cases h
    exact ⟨.refl _, ha⟩
  | n + 1, l, acc, f, hl, h, ha => by
    obtain ⟨k, r, q, e, h⟩ := low_get h
    obtain ⟨hk, hf⟩ := lastF_is q
    rw [fit_of e] at hf
    have p := erase_at e
    have ha2 : Fs bl (l.eraseIdx k) (r :: acc) := by
      refine ⟨hf, ?_⟩
      have pp : (l.eraseIdx k ++ [r]).Perm l := (List.perm_append_singleton r _).trans p.symm
      refine fs_at.mpr fun i s es => ?_
      have := fs_at.mp ha i s es
      rw [keep_perm (pp.append_right _)]
      exact this
    obtain ⟨p1, p2⟩ := low_ok (n := n) (by rw [List.length_eraseIdx_of_lt hk]; omega) h ha2
    refine ⟨p1.trans ?_, p2⟩
    exact List.perm_middle.trans ((p.symm.append_right acc))
theorem low_no {bl : Nat} : ∀ {n : Nat} {l acc o : List Tk}, l.length = n → Gd l → o.Perm l → Fs bl [] o → low bl n l acc ≠ none
  | 0, l, acc, o, hl, _, _, _ => by intro z; cases z
  | n + 1, l, acc, o, hl, g, po, fo => by
    -- the last of o fits
    rcases List.eq_nil_or_concat o with z | ⟨o', q, z⟩
    · subst z
      have := po.length_eq
      rw [hl] at this
      cases this
    · rw [List.concat_eq_append] at z
      subst z
      have kq := Fs.last fo
      rw [List.nil_append] at kq
      have mq : q ∈ l := po.mem_iff.mp (by simp)
      obtain ⟨k, ek⟩ := List.getElem?_of_mem mq
      have hk := (List.getElem?_eq_some_iff.mp ek).1
      have pe : (l.eraseIdx k).Perm o' := by
        have h1 : (q :: l.eraseIdx k).Perm (q :: o') := (erase_at ek).symm.trans (po.symm.trans (List.perm_append_singleton q o'))
        exact h1.cons_inv
      have fk : fitAt l bl k = true := by rw [fit_of ek, keep_perm pe]; exact kq
      cases q2 : lastFit l bl with
      | none => rw [lastF_no q2 k hk] at fk; cases fk
      | some k2 =>
        obtain ⟨hk2, _⟩ := lastF_is q2
        have e2 := List.getElem?_eq_getElem hk2
        generalize l[k2] = r2 at e2
        have gl : Gd (l.eraseIdx k2) := g.sub fun x hx => List.mem_of_mem_eraseIdx hx
        have go : Gd (o' ++ [q]) := g.sub fun x hx => po.mem_iff.mp hx
        have p2 : ((o' ++ [q]).erase r2).Perm (l.eraseIdx k2) := by
          have h1 := po.erase r2
          have h2 : (l.erase r2).Perm (l.eraseIdx k2) := by
            have := (erase_at e2).erase r2
            rwa [List.erase_cons_head] at this
          exact h1.trans h2
        have := low_no (n := n) (acc := r2 :: acc) (by rw [List.length_eraseIdx_of_lt hk2]; omega) gl p2 (fs_erase go ⟨nofun, nofun⟩ fo)
        have e3 : low bl (n + 1) l acc = low bl n (l.eraseIdx k2) (r2 :: acc) := by
          show (match lastFit l bl with | none => none | some k => match l[k]? with | some r => low bl n (l.eraseIdx k) (r :: acc) | none => none) = _
          rw [q2]
          show (match l[k2]? with | some r => low bl n (l.eraseIdx k2) (r :: acc) | none => none) = _
          rw [e2]
        rw [e3]; exact this
/-! ### by limits -/
theorem srt_sorted (l : List Tk) : (srt l).Pairwise fun a b => a.l ≤ b.l := by
  have := List.pairwise_mergeSort (le := fun a b : Tk => decide (a.l ≤ b.l)) (fun a b c h1 h2 => by simp at *; omega) (fun a b => by simp; omega) l
  exact this.imp fun h => by simpa using h
theorem last_in {o : List Tk} {p : Tk → Prop} : ∀ n, (∃ k r, o[k]? = some r ∧ p r ∧ n ≤ k + o.length) → ∃ (k : Nat) (r : Tk), o[k]? = some r ∧ p r ∧ ∀ k' r', k < k' → o[k']? = some r' → ¬ p r' := by
  rintro n ⟨k, r, e, hp, _⟩
  have hk := (List.getElem?_eq_some_iff.mp e).1
  obtain ⟨m, h1, ⟨s, es, ps⟩, h3⟩ := least (p := fun m => ∃ s, o[o.length - 1 - m]? = some s ∧ p s) (o.length - 1 - k) ⟨r, by rw [show o.length - 1 - (o.length - 1 - k) = k by omega]; exact e, hp⟩
  refine ⟨o.length - 1 - m, s, es, ps, fun k' r' hk' e' hp' => ?_⟩
  have hk2 := (List.getElem?_eq_some_iff.mp e').1
  exact h3 (o.length - 1 - k') (by omega) ⟨r', by rw [show o.length - 1 - (o.length - 1 - k') = k' by omega]; exact e', hp'⟩
/-- if any order is kept, then that by limits -/
theorem by_limits_best {tk o : List Tk} {bl : Nat} (hr : Row tk) (po : o.Perm tk) (fo : Fs bl [] o) : Fs bl [] (srt tk) := by
  have g := hr.gd
  have ps := srt_perm tk
  have nd : tk.Nodup := by
    have := hr.nod
    exact List.Pairwise.of_map (S := fun a b => a ≠ b) Tk.n (fun a b h z => h (by rw [z])) this
  have nds : (srt tk).Nodup := ps.nodup_iff.mpr nd
  have ndo : o.Nodup := po.nodup_iff.mpr nd
  refine fs_at.mpr fun i r er => ?_
  rw [List.nil_append]
  have hi := (List.getElem?_eq_some_iff.mp er).1
  have mr : r ∈ srt tk := List.mem_of_getElem? er
  -- those up to r
  let M := (srt tk).take (i + 1)
  have eM : M = (srt tk).take i ++ [r] := take_snoc er
  have subM : ∀ x ∈ M, x ∈ srt tk := fun x hx => List.mem_of_mem_take hx
  have leM : ∀ x ∈ M, x.l ≤ r.l := fun x hx => by
    rw [eM] at hx
    rcases List.mem_append.mp hx with z | z
    · obtain ⟨j, ej⟩ := List.getElem?_of_mem z
      have hj := (List.getElem?_eq_some_iff.mp ej).1
      rw [List.length_take] at hj
      rw [List.getElem?_take_of_lt (by omega)] at ej
      have := List.pairwise_iff_getElem.mp (srt_sorted tk) j i (by omega) hi (by omega)
      rw [(List.getElem?_eq_some_iff.mp ej).2, (List.getElem?_eq_some_iff.mp er).2] at this
      exact this
    · rw [List.mem_singleton.mp z]; exact Nat.le_refl _
  have rM : r ∈ M := by rw [eM]; simp
  obtain ⟨k0, e0⟩ := List.getElem?_of_mem (po.mem_iff.mpr (ps.mem_iff.mp mr))
  obtain ⟨k, q, eq_, qM, hlast⟩ := last_in (o := o) (p := fun x => x ∈ M) 0 ⟨k0, r, e0, rM, Nat.zero_le _⟩
  have mq : q ∈ tk := ps.mem_iff.mp (subM q qM)
  have kq := fs_at.mp fo k q eq_
  rw [List.nil_append] at kq
  have go : ∀ a ∈ o.take k, a.Fits := fun a ha => g.fit a (po.mem_iff.mp (List.mem_of_mem_take ha))
  obtain ⟨t, t1, t2, t3⟩ := (keep_iff (g.fit q mq) (g.lim q mq) go).mp kq
  have hql := leM q qM
  have hqg := g.lim q mq
  have mr' : r ∈ tk := ps.mem_iff.mp mr
  have gr := g.fit r mr'
  have gq := g.fit q mq
  have ndM : M.Nodup := nds.sublist (List.take_sublist ..)
  -- the others of M stand above q in o
  have sub : ∀ x ∈ M.erase q, x ∈ o.take k := fun x hx => by
    have hx2 := (List.Nodup.mem_erase_iff ndM).mp hx
    have mo : x ∈ o := po.mem_iff.mpr (ps.mem_iff.mp (subM x hx2.2))
    obtain ⟨j, ej⟩ := List.getElem?_of_mem mo
    have hj : j < k := by
      rcases Nat.lt_trichotomy j k with z | z | z
      · exact z
      · rw [z, eq_] at ej
        exact absurd (Option.some.inj ej).symm hx2.1
      · exact absurd hx2.2 (hlast j x z ej)
    exact List.mem_of_getElem? (i := j) (by rw [List.getElem?_take_of_lt hj]; exact ej)
  have s1 := sm_sub (t := t) (by omega) (ndM.erase q) sub go
  have s2 : sm t M = cdv t q.g * q.w + sm t (M.erase q) := sm_perm (List.perm_cons_erase qM)
  have s3 : sm t M = sm t ((srt tk).take i) + cdv t r.g * r.w := by
    rw [eM, sm_app]
    show _ + (cdv t r.g * r.w + 0) = _
    omega
  have c1 : cdv t q.g = 1 := cdv_one (by omega) (by omega)
  have g1 := gr.g1
  have c2 : 1 ≤ cdv t r.g := cdv_pos (by omega) (by omega)
  have c3 : (r.w : Int) ≤ cdv t r.g * r.w := by
    have := Int.mul_le_mul_of_nonneg_right c2 (show (0 : Int) ≤ r.w by omega)
    rwa [Int.one_mul] at this
  rw [c1, Int.one_mul] at s2
  exact (keep_iff gr (g.lim r mr') fun a ha => g.fit a (ps.mem_iff.mp (List.mem_of_mem_take ha))).mpr ⟨t, t1, by omega, by omega⟩

/-! ### the law's own orders -/
theorem low_is {tk : List Tk} {bl : Nat} (hr : Row tk) : (∃ f, lowest tk bl = some f) ↔ ∃ o, o.Perm tk ∧ Fs bl [] o := by
  constructor
  · rintro ⟨f, h⟩
    obtain ⟨p, q⟩ := low_ok rfl h trivial
    exact ⟨f, by simpa using p, q⟩
  · rintro ⟨o, p, q⟩
    have := low_no (acc := []) rfl hr.gd p q
    exact Option.ne_none_iff_exists'.mp this
theorem best_is {tk : List Tk} {bl : Nat} (hr : Row tk) : late (srt tk) bl = none ↔ ∃ o, o.Perm tk ∧ Fs bl [] o := by
  constructor
  · intro h
    exact ⟨srt tk, srt_perm tk, fs_late.mp h⟩
  · rintro ⟨o, p, q⟩
    exact fs_late.mpr (by_limits_best hr p q)
/-- bucket by bucket -/
def bkt (tk : List Tk) (m : Nat) : List Tk := (List.range m).flatMap fun k => tk.filter fun t => decide (t.l = k + 1)
theorem bkt_succ (tk : List Tk) (m : Nat) : bkt tk (m + 1) = bkt tk m ++ tk.filter fun t => decide (t.l = m + 1) := by
  unfold bkt
  rw [List.range_succ, List.flatMap_append]
  simp
theorem split_sorted {m : Nat} : ∀ {l : List Tk}, l.Pairwise (fun a b => a.l ≤ b.l) → l = (l.filter fun t => decide (t.l ≤ m)) ++ l.filter fun t => decide (m < t.l)
  | [], _ => rfl
  | a :: l, h => by
    obtain ⟨h1, h2⟩ := List.pairwise_cons.mp h
    by_cases z : a.l ≤ m
    · rw [List.filter_cons_of_pos (by simpa using z), List.filter_cons_of_neg (by simp; omega), List.cons_append, ← split_sorted h2]
    · have e1 : (l.filter fun t => decide (t.l ≤ m)) = [] := List.filter_eq_nil_iff.mpr fun x hx => by have := h1 x hx; simp; omega
      have e2 : (l.filter fun t => decide (m < t.l)) = l := List.filter_eq_self.mpr fun x hx => by have := h1 x hx; simp; omega
      rw [List.filter_cons_of_neg (by simpa using z), List.filter_cons_of_pos (by simp; omega), e1, e2]
      rfl
theorem bkt_self : ∀ {m : Nat} {l : List Tk}, l.Pairwise (fun a b => a.l ≤ b.l) → (∀ t ∈ l, 1 ≤ t.l ∧ t.l ≤ m) → bkt l m = l
  | 0, l, _, h => by
    cases l with
    | nil => rfl
    | cons a l => have := h a (List.mem_cons_self ..); omega
  | m + 1, l, hs, h => by
    have e := split_sorted (m := m) hs
    have e1 : bkt l m = bkt (l.filter fun t => decide (t.l ≤ m)) m := by
      unfold bkt
      have : ∀ k ∈ List.range m, (l.filter fun t => decide (t.l = k + 1)) = (l.filter fun t => decide (t.l ≤ m)).filter fun t => decide (t.l = k + 1) := fun k hk => by
        have := List.mem_range.mp hk
        rw [List.filter_filter]
        refine List.filter_congr fun x _ => ?_
        by_cases z : x.l = k + 1
        · simp [z]; omega
        · simp [z]
      rw [List.flatMap_def, List.flatMap_def, List.map_congr_left this]
    have e2 : (l.filter fun t => decide (t.l = m + 1)) = l.filter fun t => decide (m < t.l) := List.filter_congr fun x hx => by
      have := h x hx
      by_cases z : x.l = m + 1
      · simp [z]
      · have : ¬ m < x.l := by omega
        simp [z, this]
    have e3 := bkt_self (m := m) (l := l.filter fun t => decide (t.l ≤ m)) (hs.filter _) fun t ht => by
      obtain ⟨a, b⟩ := List.mem_filter.mp ht
      have b : t.l ≤ m := by simpa using b
      exact ⟨(h t a).1, b⟩
    rw [bkt_succ, e1, e3, e2]
    exact e.symm
theorem srt_bkt {tk : List Tk} (h : ∀ t ∈ tk, 1 ≤ t.l ∧ t.l ≤ 20) : bkt tk 20 = srt tk := by
  have p := srt_perm tk
  have e : ∀ k, (srt tk).filter (fun t => decide (t.l = k + 1)) = tk.filter fun t => decide (t.l = k + 1) := fun k => by
    have h1 : (tk.filter fun t => decide (t.l = k + 1)).Sublist (srt tk) := by
      refine List.sublist_mergeSort (le := fun a b : Tk => decide (a.l ≤ b.l)) (fun a b c h1 h2 => by simp at *; omega) (fun a b => by simp; omega) ?_ List.filter_sublist
      rw [List.pairwise_filter]
      refine List.pairwise_iff_getElem.mpr fun i j hi hj hij ha hb => ?_
      simp at *; omega
    have h2 : (tk.filter fun t => decide (t.l = k + 1)).Sublist ((srt tk).filter fun t => decide (t.l = k + 1)) := by
      have := h1.filter (fun t => decide (t.l = k + 1))
      rwa [List.filter_filter, show (fun t : Tk => decide (t.l = k + 1) && decide (t.l = k + 1)) = fun t => decide (t.l = k + 1) by funext t; simp] at this
    exact (h2.eq_of_length (p.filter _).length_eq.symm).symm
  have e2 : bkt (srt tk) 20 = bkt tk 20 := by
    unfold bkt
    rw [List.flatMap_def, List.flatMap_def]
    congr 1
    exact List.map_congr_left fun k _ => e k
  rw [← e2]
  exact bkt_self (srt_sorted tk) fun t ht => h t (p.mem_iff.mp ht)

theorem red_law_by_limits : ∀ ts P, sp_law_by_limits ts P → w_law_by_limits (fin pm_law_by_limits ts P) (Zl.entry 4 ts) := by
  rintro _ P ⟨tk, rfl, hr, h⟩
  have hf := hr.few
  have hlim : ∀ t ∈ tk, 1 ≤ t.l ∧ t.l ≤ 20 := fun t ht => ⟨(hr.lim t ht).1, Nat.le_trans (hr.lim t ht).2 (hr.fit t ht).g20⟩
  have hb : ∀ m, (bkt tk m).length ≤ 4 * m := fun m => by
    induction m with
    | zero => exact Nat.le_refl _
    | succ m ih =>
      rw [bkt_succ, List.length_append]
      have := List.length_filter_le (fun t : Tk => decide (t.l = m + 1)) tk
      omega
  refine ⟨Nat.zero_le _, ⟨by decide, by decide, by decide, by decide⟩, ?_⟩
  refine for_inv (fun j e => ∃ o2, e = [some (.fz (.lst (tL tk))), some (.lst (tL (bkt tk j))), o2, none]) ⟨none, rfl⟩ ?_ ?_ ?_
  · intros; trivial
  · rintro j d e hd ⟨o2, rfl⟩ K hK
    obtain ⟨hj, rfl⟩ := rng2_get hd
    have hj : j < 20 := hj
    rw [show (1 + (j : Int)) = ((j + 1 : Nat) : Int) by omega]
    refine lc_inv0 (fun i acc e => acc = tL ((tk.take i).filter fun t => decide (t.l = j + 1)) ∧ e = [some (.fz (.lst (tL tk))), some (.lst (tL (bkt tk j))), some (.fz (.int ((j + 1 : Nat) : Int))), none]) ⟨rfl, rfl⟩ ?_ ?_ ?_
    · rintro i acc e ⟨_, rfl⟩; rfl
    · rintro i d acc e hd ⟨rfl, rfl⟩ K2 hK2
      obtain ⟨t, ht, rfl⟩ := map_get hd
      refine ⟨fun k => ?_, fun k => ?_⟩
      · have k : (t.l : Int) = ((j + 1 : Nat) : Int) := of_decide_eq_true k
        have hl := List.length_filter_le (fun t : Tk => decide (t.l = j + 1)) (tk.take i)
        rw [List.length_take] at hl
        refine ⟨szl (by rw [List.length_map]; omega), hK2 _ _ ⟨?_, rfl⟩⟩
        rw [take_snoc ht, List.filter_append, List.filter_cons_of_pos (by simp; omega)]
        exact (tL_snoc _ _).symm
      · have k : ¬ (t.l : Int) = ((j + 1 : Nat) : Int) := of_decide_eq_false k
        refine hK2 _ _ ⟨?_, rfl⟩
        rw [take_snoc ht, List.filter_append, List.filter_cons_of_neg (by simp; omega)]
        simp
    · rintro acc e ⟨rfl, rfl⟩
      rw [show (tL tk).length = tk.length from List.length_map .., List.take_length]
      have hl := List.length_filter_le (fun t : Tk => decide (t.l = j + 1)) tk
      have hb := hb j
      have l1 : (tL (bkt tk j)).length = (bkt tk j).length := List.length_map ..
      have l2 : (tL (tk.filter fun t => decide (t.l = j + 1))).length = (tk.filter fun t => decide (t.l = j + 1)).length := List.length_map ..
      refine ⟨Nat.le_trans (show (tL (bkt tk j)).length + (tL (tk.filter fun t => decide (t.l = j + 1))).length ≤ 100 by omega) (by decide), hK _ ⟨some (.fz (.int ((j + 1 : Nat) : Int))), ?_⟩⟩
      rw [bkt_succ, show tL (bkt tk j ++ tk.filter fun t => decide (t.l = j + 1)) = tL (bkt tk j) ++ tL (tk.filter fun t => decide (t.l = j + 1)) from List.map_append ..]
      rfl
  · rintro e ⟨o2, rfl⟩
    have e1 : bkt tk 20 = srt tk := srt_bkt hlim
    rw [← e1] at h
    exact h
theorem red_law_lowest : ∀ ts P, sp_law_lowest ts P → w_law_lowest (fin pm_law_lowest ts P) (Zl.entry 7 ts) := by
  rintro _ P ⟨tk, bl, rfl, hs, h⟩
  have hf := hs.few
  have e1 : (tL tk).length = tk.length := List.length_map ..
  refine ⟨Nat.zero_le _, ⟨by omega, by omega⟩, ?_⟩
  rw [show ((tL tk).length : Int).toNat = tk.length by omega]
  refine for_inv (fun j e => ∃ (l acc : List Tk) (o4 o5 o6 : Option T), l.length + j = tk.length ∧ acc.length = j ∧ Sums l ∧ low bl l.length l acc = lowest tk bl ∧ e = [some (.fz (.lst (tL tk))), some (.fz (.int bl)), some (.lst (tL l)), some (.lst (tL acc)), o4, o5, o6]) ⟨tk, [], none, none, none, by omega, rfl, hs, rfl, rfl⟩ ?_ ?_ ?_
  · intros; trivial
  · rintro j d e hd ⟨l, acc, o4, o5, o6, hl, hac, hs, hlow, rfl⟩ K hK
    obtain ⟨hj, rfl⟩ := rng_get hd
    have el : (tL l).length = l.length := List.length_map ..
    obtain ⟨n, hn⟩ : ∃ n, l.length = n + 1 := ⟨l.length - 1, by omega⟩
    refine ⟨⟨by omega, by omega⟩, ?_⟩
    rw [show ((tL l).length : Int).toNat = l.length by omega]
    refine for_inv (fun i e => ∃ o6, e = [some (.fz (.lst (tL tk))), some (.fz (.int bl)), some (.lst (tL l)), some (.lst (tL acc)), some (.fz (.int j)), some (.fz (jD (lastF (fitAt l bl) i))), o6]) ⟨o6, rfl⟩ ?_ ?_ ?_
    · intros; trivial
    · rintro i d e hd ⟨o6, rfl⟩ K2 hK2
      obtain ⟨hi, rfl⟩ := rng_get hd
      have e0 := List.getElem?_eq_getElem hi
      generalize l[i] = r0 at e0
      have e2 : (tL l)[i]? = some r0.d := map_at e0
      have e3 : tL (l.take i) ++ tL (l.drop (i + 1)) = tL (l.eraseIdx i) := by
        rw [List.eraseIdx_eq_take_drop_succ]
        exact (List.map_append ..).symm
      have e4 : (l.eraseIdx i).length + 1 = l.length := by
        rw [List.length_eraseIdx_of_lt hi]; omega
      have e5 : (tL (l.eraseIdx i)).length = (l.eraseIdx i).length := List.length_map ..
      conv => whnf
      rw [atI_nat e2]
      conv => whnf
      rw [cut_tL, show ((i : Int) + 1) = ((i + 1 : Nat) : Int) by omega, cut_from_tL, e3, ← List.length_append, e3]
      refine ⟨Nat.le_trans (show (tL (l.eraseIdx i)).length ≤ 100 by omega) (by decide), rfl, l.eraseIdx i, r0, bl, rfl, fun a ha => hs.fit a (List.mem_of_mem_eraseIdx ha), hs.fit r0 (List.mem_of_getElem? e0), ?_⟩
      dsimp only [back, isFz, gt, st, cl, clsE, Zl.entry, T.fr, List.map, List.append, List.nil_append, List.cons_append, List.append_nil, List.replicate, List.length, Nat.reduceSub, Nat.reduceAdd, Nat.zero_add, cond_true, cond_false]
      rw [← fit_of e0]
      have es : lastF (fitAt l bl) (i + 1) = if fitAt l bl i = true then some i else lastF (fitAt l bl) i := rfl
      cases q : fitAt l bl i with
      | true =>
        refine ⟨fun _ => hK2 _ ⟨some (.fz (.int i)), ?_⟩, fun k => noF k⟩
        rw [es, q]; rfl
      | false =>
        refine ⟨fun k => noT k, fun _ => hK2 _ ⟨some (.fz (.int i)), ?_⟩⟩
        rw [es, q]; rfl
    · rintro e ⟨o6, rfl⟩
      rw [List.length_map, List.length_range]
      have q : lastF (fitAt l bl) l.length = lastFit l bl := rfl
      rw [q]
      cases q : lastFit l bl with
      | none =>
        rw [lowest_stop hn q] at hlow
        rw [← hlow] at h
        exact ⟨fun _ => h, fun k => noF k⟩
      | some k =>
        obtain ⟨hk, _⟩ := lastF_is q
        have e0 := List.getElem?_eq_getElem hk
        generalize l[k] = r0 at e0
        have e2 : (tL l)[k]? = some r0.d := map_at e0
        have e3 : tL (l.take k) ++ tL (l.drop (k + 1)) = tL (l.eraseIdx k) := by
          rw [List.eraseIdx_eq_take_drop_succ]
          exact (List.map_append ..).symm
        have e4 : (l.eraseIdx k).length + 1 = l.length := by
          rw [List.length_eraseIdx_of_lt hk]; omega
        have e5 : (tL (l.eraseIdx k)).length = (l.eraseIdx k).length := List.length_map ..
        have e6 : (tL acc).length = acc.length := List.length_map ..
        refine ⟨fun z => ?_, fun _ => ?_⟩
        · have z : (k : Int) < 0 := of_decide_eq_true z
          omega
        · conv => whnf
          rw [atI_nat e2]
          refine ⟨le_b rfl, Nat.le_trans (show 1 + (tL acc).length ≤ 100 by omega) (by decide), ?_⟩
          conv => whnf
          rw [cut_tL, show ((k : Int) + 1) = ((k + 1 : Nat) : Int) by omega, cut_from_tL, ← List.length_append, e3]
          refine ⟨Nat.le_trans (show (tL (l.eraseIdx k)).length ≤ 100 by omega) (by decide), hK _ ⟨l.eraseIdx k, r0 :: acc, some (.fz (.int j)), some (.fz (.int k)), o6, by omega, by rw [List.length_cons, hac], hs.erase k, (lowest_step hn q e0).symm.trans hlow, ?_⟩⟩
          rw [← e3]
          rfl
  · rintro e ⟨l, acc, o4, o5, o6, hl, hac, hs, hlow, rfl⟩
    rw [List.length_map, List.length_range] at hl
    have en : l = [] := List.eq_nil_of_length_eq_zero (by omega)
    subst en
    have hlow : some acc = lowest tk bl := hlow
    rw [← hlow] at h
    exact h

/-! ### all orders -/
def ins (r : Tk) (o : List Tk) : List (List Tk) := (List.range (o.length + 1)).map fun a => o.take a ++ [r] ++ o.drop a
def stepO (r : Tk) (os : List (List Tk)) : List (List Tk) := os.flatMap (ins r)
def permsL (l : List Tk) : List (List Tk) := l.foldl (fun os r => stepO r os) [[]]
theorem perms_snoc (l : List Tk) (r : Tk) : permsL (l ++ [r]) = stepO r (permsL l) := by unfold permsL; rw [List.foldl_append]; rfl
theorem ins_perm {r : Tk} {o x : List Tk} (h : x ∈ ins r o) : x.Perm (o ++ [r]) := by
  obtain ⟨a, _, rfl⟩ := List.mem_map.mp h
  rw [List.append_assoc]
  refine (List.Perm.append_left _ List.perm_append_comm).trans ?_
  rw [← List.append_assoc, List.take_append_drop]
def fct : Nat → Nat
  | 0 => 1
  | n + 1 => fct n * (n + 1)
theorem flat_len {r : Tk} {n : Nat} : ∀ {os : List (List Tk)}, (∀ o ∈ os, o.length = n) → (os.flatMap (ins r)).length = os.length * (n + 1)
  | [], _ => by simp
  | o :: os, h => by
    rw [List.flatMap_cons, List.length_append, flat_len (os := os) fun x hx => h x (List.mem_cons_of_mem _ hx)]
    unfold ins
    rw [List.length_map, List.length_range, h o (List.mem_cons_self ..), List.length_cons, Nat.add_mul]
    omega
theorem perms_ok : ∀ (n : Nat) (l : List Tk), l.length = n → (∀ o ∈ permsL l, o.Perm l) ∧ (∀ o, o.Perm l → o ∈ permsL l) ∧ (permsL l).length = fct n
  | 0, l, hl => by
    have : l = [] := List.eq_nil_of_length_eq_zero hl
    subst this
    exact ⟨fun o h => by
      have : o = [] := by simpa [permsL] using h
      rw [this], fun o h => by
      have : o = [] := List.Perm.eq_nil h
      rw [this]; exact List.mem_cons_self .., rfl⟩
  | n + 1, l, hl => by
    rcases List.eq_nil_or_concat l with z | ⟨l0, r, z⟩
    · subst z; cases hl
    · rw [List.concat_eq_append] at z
      subst z
      have hl0 : l0.length = n := by rw [List.length_append] at hl; simpa using hl
      obtain ⟨h1, h2, h3⟩ := perms_ok n l0 hl0
      rw [perms_snoc]
      refine ⟨fun o h => ?_, fun o h => ?_, ?_⟩
      · obtain ⟨x, hx, ho⟩ := List.mem_flatMap.mp h
        exact (ins_perm ho).trans ((h1 x hx).append_right _)
      · have mr : r ∈ o := h.mem_iff.mpr (by simp)
        obtain ⟨k, ek⟩ := List.getElem?_of_mem mr
        have hk := (List.getElem?_eq_some_iff.mp ek).1
        have p : (o.eraseIdx k).Perm l0 := by
          have : (r :: o.eraseIdx k).Perm (r :: l0) := (erase_at ek).symm.trans (h.trans (List.perm_append_singleton r l0))
          exact this.cons_inv
        refine List.mem_flatMap.mpr ⟨o.eraseIdx k, h2 _ p, List.mem_map.mpr ⟨k, List.mem_range.mpr ?_, ?_⟩⟩
        · rw [List.length_eraseIdx_of_lt hk]; omega
        · have ht : (o.take k).length = k := by rw [List.length_take]; omega
          have e1 : (o.take k ++ o.drop (k + 1)).take k = o.take k := by
            rw [List.take_append_of_le_length (by omega), List.take_of_length_le (by omega)]
          have e2 : (o.take k ++ o.drop (k + 1)).drop k = o.drop (k + 1) := by
            rw [List.drop_append_of_le_length (by omega), List.drop_of_length_le (by omega), List.nil_append]
          rw [List.eraseIdx_eq_take_drop_succ, e1, e2, List.append_assoc]
          have e3 : o[k] = r := (List.getElem?_eq_some_iff.mp ek).2
          show o.take k ++ r :: o.drop (k + 1) = o
          rw [← e3, ← List.drop_eq_getElem_cons hk, List.take_append_drop]
      · unfold stepO
        rw [flat_len (n := n) fun o ho => by rw [(h1 o ho).length_eq, hl0], h3]
        rfl
theorem fct_le : ∀ n, n ≤ 4 → fct n ≤ 24
  | 0, _ => by decide
  | 1, _ => by decide
  | 2, _ => by decide
  | 3, _ => by decide
  | 4, _ => by decide
  | n + 5, h => by omega
abbrev oL (os : List (List Tk)) : List D := os.map fun o => D.lst (tL o)
theorem red_law_all : ∀ ts P, sp_law_all ts P → w_law_all (fin pm_law_all ts P) (Zl.entry 6 ts) := by
  rintro _ P ⟨tk, rfl, hf, h⟩
  have hp : ∀ j, (∀ o ∈ permsL (tk.take j), o.length ≤ 4) ∧ (permsL (tk.take j)).length ≤ 24 := fun j => by
    obtain ⟨h1, _, h3⟩ := perms_ok _ (tk.take j) rfl
    have hl : (tk.take j).length ≤ 4 := by rw [List.length_take]; omega
    exact ⟨fun o ho => by rw [(h1 o ho).length_eq]; exact hl, by rw [h3]; exact fct_le _ hl⟩
  refine ⟨Nat.zero_le _, le_b rfl, ?_⟩
  refine for_inv (fun j e => ∃ o2 o3 o4 o5, e = [some (.fz (.lst (tL tk))), some (.lst (oL (permsL (tk.take j)))), o2, o3, o4, o5]) ⟨none, none, none, none, rfl⟩ ?_ ?_ ?_
  · rintro j e ⟨_, _, _, _, rfl⟩; rfl
  · rintro j d e hd ⟨o2, o3, o4, o5, rfl⟩ K hK
    obtain ⟨r, hr, rfl⟩ := map_get hd
    obtain ⟨hp4, hpl⟩ := hp j
    have hlen : ∀ i, ((permsL (tk.take j)).take i).length ≤ 24 := fun i => by rw [List.length_take]; omega
    refine ⟨Nat.zero_le _, rfl, ?_⟩
    refine for_inv (fun i e => ((permsL (tk.take j)).take i).flatMap (ins r) = ((permsL (tk.take j)).take i).flatMap (ins r) ∧ (((permsL (tk.take j)).take i).flatMap (ins r)).length ≤ 5 * i ∧ ∃ o4 o5, e = [some (.fz (.lst (tL tk))), some (.lst (oL (permsL (tk.take j)))), some (.fz r.d), some (.lst (oL (((permsL (tk.take j)).take i).flatMap (ins r)))), o4, o5]) ⟨rfl, Nat.le_refl _, o4, o5, rfl⟩ ?_ ?_ ?_
    · rintro i e ⟨_, _, _, _, rfl⟩; rfl
    · rintro i d e hd ⟨_, hl5, o4, o5, rfl⟩ K2 hK2
      obtain ⟨o, ho, rfl⟩ := map_get hd
      have ho4 := hp4 o (List.mem_of_getElem? ho)
      have hi := (List.getElem?_eq_some_iff.mp ho).1
      have e1 : (tL o).length = o.length := List.length_map ..
      refine ⟨⟨by omega, by omega⟩, ?_⟩
      rw [show (((tL o).length : Int) + 1).toNat = o.length + 1 by omega]
      refine for_inv (fun a e => ∃ o5, e = [some (.fz (.lst (tL tk))), some (.lst (oL (permsL (tk.take j)))), some (.fz r.d), some (.lst (oL (((permsL (tk.take j)).take i).flatMap (ins r) ++ (List.range a).map fun a => o.take a ++ [r] ++ o.drop a))), some (.fz (.lst (tL o))), o5]) ⟨o5, by rw [List.range_zero, List.map_nil, List.append_nil]; rfl⟩ ?_ ?_ ?_
      · intros; trivial
      · rintro a d e hd ⟨o5, rfl⟩ K3 hK3
        obtain ⟨ha, rfl⟩ := rng_get hd
        have l1 : (oL (((permsL (tk.take j)).take i).flatMap (ins r) ++ (List.range a).map fun a => o.take a ++ [r] ++ o.drop a)).length ≤ 5 * 24 + 5 := by
          rw [List.length_map, List.length_append, List.length_map, List.length_range]; omega
        have l2 : ((tL o).take a).length ≤ 4 := by rw [List.length_take]; omega
        refine ⟨trivial, ?_⟩
        conv => whnf
        rw [cut_tL]
        have m1 : (tL (o.take a)).length ≤ 4 := by rw [List.length_map, List.length_take]; omega
        have m2 : (tL (o.drop a)).length ≤ 4 := by rw [List.length_map, List.length_drop]; omega
        have m3 : (tL (o.take a) ++ [r.d]).length ≤ 5 := by rw [List.length_append]; show _ + 1 ≤ 5; omega
        refine ⟨le_b rfl, Nat.le_trans (show (tL (o.take a)).length + 1 ≤ 100 by omega) (by decide), ?_⟩
        conv => whnf
        rw [cut_from_tL]
        refine ⟨Nat.le_trans (show (tL (o.take a) ++ [r.d]).length + (tL (o.drop a)).length ≤ 100 by omega) (by decide), szl (by omega), hK3 _ ⟨some (.fz (.int a)), ?_⟩⟩
        rw [List.range_succ, List.map_append, ← List.append_assoc]
        have e9 : tL (o.take a ++ [r] ++ o.drop a) = tL (o.take a) ++ [r.d] ++ tL (o.drop a) := by
          rw [show tL (o.take a ++ [r] ++ o.drop a) = tL (o.take a ++ [r]) ++ tL (o.drop a) from List.map_append .., tL_snoc]
        rw [show ∀ x : List (List Tk), oL (x ++ ([a].map fun a => o.take a ++ [r] ++ o.drop a)) = oL x ++ [D.lst (tL (o.take a ++ [r] ++ o.drop a))] from fun x => List.map_append .., e9]
        rfl
      · rintro e ⟨o5, rfl⟩
        rw [List.length_map, List.length_range]
        refine hK2 _ ⟨rfl, ?_, some (.fz (.lst (tL o))), o5, ?_⟩
        · rw [take_snoc ho, List.flatMap_append, List.length_append]
          have : (([o] : List (List Tk)).flatMap (ins r)).length = o.length + 1 := by simp [ins]
          omega
        · rw [take_snoc ho, List.flatMap_append]
          have : ([o] : List (List Tk)).flatMap (ins r) = (List.range (o.length + 1)).map fun a => o.take a ++ [r] ++ o.drop a := by simp [ins]
          rw [this]
    · rintro e ⟨_, _, o4, o5, rfl⟩
      rw [show (oL (permsL (tk.take j))).length = (permsL (tk.take j)).length from List.length_map .., List.take_length]
      refine hK _ ⟨some (.fz r.d), none, o4, o5, ?_⟩
      rw [take_snoc hr, perms_snoc]
      rfl
  · rintro e ⟨o2, o3, o4, o5, rfl⟩
    rw [show (tL tk).length = tk.length from List.length_map .., List.take_length]
    obtain ⟨h1, h2, h3⟩ := perms_ok _ tk rfl
    exact h (permsL tk) h1 h2 (by rw [h3]; exact fct_le _ hf)

theorem oL_snoc (x : List (List Tk)) (o : List Tk) : oL (x ++ [o]) = oL x ++ [D.lst (tL o)] := List.map_append ..
theorem red_law_dues : ∀ ts P, sp_law_dues ts P → w_law_dues (fin pm_law_dues ts P) (Zl.entry 9 ts) := by
  rintro _ P ⟨tk, bl, rfl, hr, h⟩
  refine ⟨rfl, tk, rfl, hr, ?_⟩
  dsimp only [back, isFz, gt, st, cl, clsE, Zl.entry, T.fr, List.map, List.append, List.nil_append, List.cons_append, List.append_nil, List.replicate, List.length, Nat.reduceSub, Nat.reduceAdd, Nat.zero_add, cond_true, cond_false]
  refine ⟨rfl, tk, rfl, hr.few, fun os h1 h2 h3 => ?_⟩
  dsimp only [back, isFz, gt, st, cl, clsE, Zl.entry, T.fr, List.map, List.append, List.nil_append, List.cons_append, List.append_nil, List.replicate, List.length, Nat.reduceSub, Nat.reduceAdd, Nat.zero_add, cond_true, cond_false]
  refine lc_inv0 (fun j acc e => acc = oL ((os.take j).filter fun o => (late o bl).isNone) ∧ e = [some (.fz (.lst (tL tk))), some (.fz (.int bl)), some (.fz (.lst (tL (srt tk)))), none, none, none, none, none, none]) ⟨rfl, rfl⟩ ?_ ?_ ?_
  · rintro j acc e ⟨_, rfl⟩; trivial
  · rintro j d acc e hd ⟨rfl, rfl⟩ K hK
    obtain ⟨o, ho, rfl⟩ := map_get hd
    have po := h1 o (List.mem_of_getElem? ho)
    have hl := List.length_filter_le (fun o => (late o bl).isNone) (os.take j)
    rw [List.length_take] at hl
    refine ⟨rfl, _, o, bl, rfl, .inr rfl, (hr.perm po).sums, ?_⟩
    dsimp only [back, isFz, gt, st, cl, clsE, Zl.entry, T.fr, List.map, List.append, List.nil_append, List.cons_append, List.append_nil, List.replicate, List.length, Nat.reduceSub, Nat.reduceAdd, Nat.zero_add, cond_true, cond_false]
    cases q : late o bl with
    | none =>
      refine ⟨fun _ => ⟨szl (by rw [List.length_map]; omega), hK _ _ ⟨?_, rfl⟩⟩, fun k => noF k⟩
      rw [take_snoc ho, List.filter_append, List.filter_cons_of_pos (by rw [q]; rfl)]
      exact (oL_snoc _ _).symm
    | some k =>
      refine ⟨fun z => ?_, fun _ => hK _ _ ⟨?_, rfl⟩⟩
      · have z : (k : Int) < 0 := of_decide_eq_true z
        omega
      · rw [take_snoc ho, List.filter_append, List.filter_cons_of_neg (by rw [q]; simp)]
        simp
  rintro acc e ⟨rfl, rfl⟩
  rw [show (List.map (fun o => D.lst (tL o)) os).length = os.length from List.length_map .., List.take_length]
  have hlen : (oL (os.filter fun o => (late o bl).isNone)).length = (os.filter fun o => (late o bl).isNone).length := List.length_map ..
  -- an order is kept if and only if there is a lowest, if and only if that by limits is kept
  have hex : (∃ o, o.Perm tk ∧ Fs bl [] o) ↔ os.filter (fun o => (late o bl).isNone) ≠ [] := by
    constructor
    · rintro ⟨o, p, f⟩ z
      have : o ∈ os.filter (fun o => (late o bl).isNone) := List.mem_filter.mpr ⟨h2 o p, by rw [fs_late.mpr f]; rfl⟩
      rw [z] at this
      exact nomatch this
    · intro z
      obtain ⟨o, ho⟩ := List.exists_mem_of_ne_nil _ z
      obtain ⟨m, n⟩ := List.mem_filter.mp ho
      exact ⟨o, h1 o m, fs_late.mp (by simpa using n)⟩
  have hlo := low_is (bl := bl) hr
  have hbe := best_is (bl := bl) hr
  refine ⟨rfl, tk, bl, rfl, hr.sums, ?_⟩
  dsimp only [back, isFz, gt, st, cl, clsE, Zl.entry, T.fr, List.map, List.append, List.nil_append, List.cons_append, List.append_nil, List.replicate, List.length, Nat.reduceSub, Nat.reduceAdd, Nat.zero_add, cond_true, cond_false]
  generalize os.filter (fun o => (late o bl).isNone) = kept at *
  have hrs := (hr.perm (srt_perm tk)).sums
  cases q : lowest tk bl with
  | none =>
    have hk : kept = [] := by
      by_cases z : kept = []
      · exact z
      · obtain ⟨f, e⟩ := hlo.mpr (hex.mpr z)
        rw [q] at e; cases e
    subst hk
    cases q2 : late (srt tk) bl with
    | none => exact absurd rfl (hex.mp (hbe.mp q2))
    | some k =>
      have e0 := List.getElem?_eq_getElem (late_lt q2)
      generalize (srt tk)[k]'(late_lt q2) = r0 at e0
      have e1 : (tL (srt tk))[k]? = some r0.d := map_at e0
      refine ⟨fun k => noT k, fun _ => ⟨rfl, _, srt tk, bl, rfl, .inr rfl, hrs, ?_⟩⟩
      dsimp only [back, isFz, gt, st, cl, clsE, Zl.entry, T.fr, List.map, List.append, List.nil_append, List.cons_append, List.append_nil, List.replicate, List.length, Nat.reduceSub, Nat.reduceAdd, Nat.zero_add, cond_true, cond_false]
      rw [q2]
      refine ⟨fun _ => ⟨fun _ => ?_, fun z => ?_⟩, fun k => noF k⟩
      · conv => whnf
        rw [atI_nat e1]
        refine ⟨rfl, _, tk, bl, rfl, .inr rfl, hr.sums, ?_⟩
        dsimp only [back, isFz, gt, st, cl, clsE, Zl.entry, T.fr, List.map, List.append, List.nil_append, List.cons_append, List.append_nil, List.replicate, List.length, Nat.reduceSub, Nat.reduceAdd, Nat.zero_add, cond_true, cond_false]
        have hd : duesD tk bl = [.lst (tL (srt tk)), .bl (late tk bl).isNone, .non, .str r0.n, .non] := by
          unfold duesD bestT firstD
          rw [q2, q]
          show [D.lst (tL (srt tk)), .bl (late tk bl).isNone, .non, (match (srt tk)[k]? with | some r => .str r.n | none => .non), .non] = _
          rw [e0]
        rw [hd] at h
        cases q3 : late tk bl with
        | none => rw [q3] at h; exact ⟨le_b rfl, h⟩
        | some m =>
          rw [q3] at h
          have em : decide ((m : Int) < 0) = false := decide_eq_false (by omega)
          have h : P (.lst [.lst (tL (srt tk)), .bl false, .non, .str r0.n, .non]) _ := h
          rw [← em] at h
          exact ⟨le_b rfl, h⟩
      · have z : ¬ (k : Int) ≥ 0 := of_decide_eq_false z
        omega
  | some f =>
    have hk : kept ≠ [] := hex.mp (hlo.mp ⟨f, q⟩)
    have hpos : ((oL kept).length : Int) > 0 := by
      have := List.length_pos_iff.mpr hk
      omega
    have q2 := hbe.mpr (hlo.mp ⟨f, q⟩)
    have hd : duesD tk bl = [.lst (tL (srt tk)), .bl (late tk bl).isNone, .lst (tL (srt tk)), .non, .lst (tL f)] := by
      unfold duesD bestT firstD
      rw [q2, q]
      rfl
    rw [hd] at h
    have e1 : decide (((oL kept).length : Int) > 0) = true := decide_eq_true hpos
    refine ⟨fun k => ?_, fun _ => ⟨rfl, _, srt tk, bl, rfl, .inr rfl, hrs, ?_⟩⟩
    · have k : (!decide (decide (((oL kept).length : Int) > 0) = true)) = true := k
      rw [e1] at k
      exact noT k
    · dsimp only [back, isFz, gt, st, cl, clsE, Zl.entry, T.fr, List.map, List.append, List.nil_append, List.cons_append, List.append_nil, List.replicate, List.length, Nat.reduceSub, Nat.reduceAdd, Nat.zero_add, cond_true, cond_false]
      rw [q2]
      refine ⟨fun k => ?_, fun _ => ⟨fun k => noT k, fun _ => ?_⟩⟩
      · have k : ((oL kept).length : Int) = 0 := of_decide_eq_true k
        omega
      · refine ⟨rfl, _, tk, bl, rfl, .inr rfl, hr.sums, ?_⟩
        dsimp only [back, isFz, gt, st, cl, clsE, Zl.entry, T.fr, List.map, List.append, List.nil_append, List.cons_append, List.append_nil, List.replicate, List.length, Nat.reduceSub, Nat.reduceAdd, Nat.zero_add, cond_true, cond_false]
        cases q3 : late tk bl with
        | none => rw [q3] at h; exact ⟨le_b rfl, h⟩
        | some m =>
          rw [q3] at h
          have em : decide ((m : Int) < 0) = false := decide_eq_false (by omega)
          have h : P (.lst [.lst (tL (srt tk)), .bl false, .lst (tL (srt tk)), .non, .lst (tL f)]) _ := h
          rw [← em] at h
          exact ⟨le_b rfl, h⟩
theorem red_law_asked : ∀ ts P, sp_law_asked ts P → w_law_asked (fin pm_law_asked ts P) (Zl.entry 3 ts) := by
  rintro _ P ⟨tk, bl, k, rfl, hk, hr, hb, h⟩
  match k, hk, h with
  | 0, _, h =>
    exact ⟨fun _ => ⟨rfl, tk, rfl, hr, h⟩, fun k => noF k⟩
  | 1, _, h =>
    exact ⟨fun k => noT k, fun _ => ⟨fun _ => ⟨rfl, _, tk, bl, rfl, .inl rfl, hr, hb, h⟩, fun k => noF k⟩⟩
  | 2, _, h =>
    exact ⟨fun k => noT k, fun _ => ⟨fun k => noT k, fun _ => ⟨fun _ => ⟨rfl, tk, bl, rfl, hr, hb, h⟩, fun k => noF k⟩⟩⟩
  | 3, _, h =>
    exact ⟨fun k => noT k, fun _ => ⟨fun k => noT k, fun _ => ⟨fun k => noT k, fun _ => ⟨fun _ => ⟨rfl, tk, bl, rfl, hr, hb, h⟩, fun k => noF k⟩⟩⟩⟩
  | 4, _, h =>
    exact ⟨fun k => noT k, fun _ => ⟨fun k => noT k, fun _ => ⟨fun k => noT k, fun _ => ⟨fun k => noT k, fun _ => ⟨rfl, tk, bl, rfl, hr, hb, h⟩⟩⟩⟩⟩
  | n + 5, hk, _ => omega

theorem tL_rp {ts : List Tk} (h : Row ts) : D.rp 60 (.lst (tL ts)) = true ∧ D.sz (.lst (tL ts)) ≤ sizeLine := by
  have hf := h.few
  refine ⟨List.all_eq_true.mpr fun d hd => ?_, ?_⟩
  · obtain ⟨t, ht, rfl⟩ := List.mem_map.mp hd
    have f := h.fit t ht
    have l := h.lim t ht
    have a := f.w20; have b := f.g20
    show ([D.str t.n, D.int t.w, D.int t.g, D.int t.l]).all (D.rp 58) = true
    rw [List.all_cons, List.all_cons, List.all_cons, List.all_cons, show D.rp 58 (.str t.n) = true from f.nm.ok, show D.rp 58 (.int t.w) = true from decide_eq_true (by omega), show D.rp 58 (.int t.g) = true from decide_eq_true (by omega), show D.rp 58 (.int t.l) = true from decide_eq_true (by omega)]
    rfl
  · have : ∀ l : List Tk, (∀ t ∈ l, t ∈ ts) → D.szs (tL l) ≤ 1000 * l.length := by
      intro l
      induction l with
      | nil => intro _; exact Nat.le_refl _
      | cons t r ih =>
        intro hm
        have f := (h.fit t (hm t (List.mem_cons_self ..))).nm.len
        have := ih fun x hx => hm x (List.mem_cons_of_mem _ hx)
        show ((10 * t.n.length + 2 + 2 + (210 + 2 + (210 + 2 + (210 + 2 + 0)))) + 3) + 2 + D.szs (tL r) ≤ 1000 * (r.length + 1)
        omega
    have := this ts fun t ht => ht
    exact Nat.le_trans (show D.szs (tL ts) + 3 ≤ 500000 by omega) (by decide)
/-- an answer: rows of a good order, or no list -/
theorem ans_is {tk : List Tk} {bl k : Nat} (hr : Row tk) : (∃ l, ansT tk bl k = .lst (tL l) ∧ Row l ∧ (0 < k → late l bl = none)) ∨ ∃ d, ansT tk bl k = .fz d ∧ ((∃ b, d = .bl b) ∨ d = .non ∨ ∃ s, d = .str s ∧ Nm s) := by
  match k with
  | 0 => exact .inl ⟨srt tk, rfl, hr.perm (srt_perm tk), fun h => absurd h (by decide)⟩
  | 1 => exact .inr ⟨_, rfl, .inl ⟨_, rfl⟩⟩
  | 2 =>
    show (∃ l, bestT tk bl = .lst (tL l) ∧ _) ∨ ∃ d, bestT tk bl = .fz d ∧ _
    unfold bestT
    cases q : late (srt tk) bl with
    | none => exact .inl ⟨srt tk, rfl, hr.perm (srt_perm tk), fun _ => q⟩
    | some k => exact .inr ⟨_, rfl, .inr (.inl rfl)⟩
  | 3 =>
    refine .inr ⟨firstD tk bl, rfl, ?_⟩
    unfold firstD
    cases q : late (srt tk) bl with
    | none => exact .inr (.inl rfl)
    | some k =>
      have e0 := List.getElem?_eq_getElem (late_lt q)
      generalize (srt tk)[k]'(late_lt q) = r0 at e0
      have f := (hr.perm (srt_perm tk)).fit r0 (List.mem_of_getElem? e0)
      refine .inr (.inr ⟨r0.n, ?_, f.nm⟩)
      show (match (srt tk)[k]? with | some r => D.str r.n | none => .non) = _
      rw [e0]
  | n + 4 =>
    show (∃ l, lwT (lowest tk bl) = .lst (tL l) ∧ _) ∨ ∃ d, lwT (lowest tk bl) = .fz d ∧ _
    cases q : lowest tk bl with
    | none => exact .inr ⟨_, rfl, .inr (.inl rfl)⟩
    | some f =>
      obtain ⟨p, z⟩ := low_ok rfl q trivial
      exact .inl ⟨f, rfl, hr.perm (by simpa using p), fun _ => fs_late.mpr z⟩
theorem ans_rp {tk : List Tk} {bl k : Nat} (hr : Row tk) : D.rp 60 (ansT tk bl k).fr = true ∧ D.sz (ansT tk bl k).fr ≤ sizeLine := by
  rcases ans_is (bl := bl) (k := k) hr with ⟨l, e, h, _⟩ | ⟨d, e, h⟩
  · rw [e]; exact tL_rp h
  · rw [e]
    rcases h with ⟨b, rfl⟩ | rfl | ⟨s, rfl, hs⟩
    · exact ⟨rfl, show 210 ≤ sizeLine by decide⟩
    · exact ⟨rfl, show 210 ≤ sizeLine by decide⟩
    · have := hs.len
      exact ⟨hs.ok, Nat.le_trans (show 10 * s.length + 2 ≤ 1000 by omega) (by decide)⟩
theorem ans_at {tk : List Tk} {bl : Nat} : ∀ k, k < 5 → (duesD tk bl)[k]? = some (ansT tk bl k).fr
  | 0, _ => rfl
  | 1, _ => rfl
  | 2, _ => rfl
  | 3, _ => rfl
  | 4, _ => rfl
  | n + 5, h => by omega
theorem red_law : ∀ ts P, sp_law ts P → w_law (fin pm_law ts P) (Zl.entry 10 ts) := by
  rintro _ P ⟨sc, rfl, hsc, h⟩
  refine ⟨rfl, sc, rfl, hsc, fun rs hr => ?_⟩
  dsimp only [back, isFz, gt, st, cl, clsE, Zl.entry, T.fr, List.map, List.append, List.nil_append, List.cons_append, List.append_nil, List.replicate, List.length, Nat.reduceSub, Nat.reduceAdd, Nat.zero_add, cond_true, cond_false]
  refine ⟨rfl, rs, 5, rfl, hr, by decide, fun s1 rs h0 h5 hr => ?_⟩
  dsimp only [back, isFz, gt, st, cl, clsE, Zl.entry, T.fr, List.map, List.append, List.nil_append, List.cons_append, List.append_nil, List.replicate, List.length, Nat.reduceSub, Nat.reduceAdd, Nat.zero_add, cond_true, cond_false]
  obtain ⟨s0, rfl⟩ := Int.eq_ofNat_of_zero_le h0
  refine ⟨rfl, rs, rfl, hr, fun tk bl rs ht hb hr => ?_⟩
  dsimp only [back, isFz, gt, st, cl, clsE, Zl.entry, T.fr, List.map, List.append, List.nil_append, List.cons_append, List.append_nil, List.replicate, List.length, Nat.reduceSub, Nat.reduceAdd, Nat.zero_add, cond_true, cond_false]
  refine ⟨rfl, tk, bl, rfl, ht, ?_⟩
  dsimp only [back, isFz, gt, st, cl, clsE, Zl.entry, T.fr, List.map, List.append, List.nil_append, List.cons_append, List.append_nil, List.replicate, List.length, Nat.reduceSub, Nat.reduceAdd, Nat.zero_add, cond_true, cond_false]
  refine ⟨fun k => noT k, fun _ => ⟨⟨by decide, by decide⟩, ?_⟩⟩
  refine for_inv (fun j e => ∃ o6 o7 o8 o9, e = [some (.fz (.rol (iL sc))), some (.lst (iL rs)), some (.fz (.int s0)), some (.fz (.lst (tL tk))), some (.fz (.int bl)), some (.lst (duesD tk bl)), o6, o7, o8, o9]) ⟨none, none, none, none, rfl⟩ ?_ ?_ ?_
  · intros; trivial
  · rintro j d e hd ⟨o6, o7, o8, o9, rfl⟩ K hK
    obtain ⟨hj, rfl⟩ := rng_get hd
    refine ⟨cmL rfl, by decide, ?_⟩
    obtain ⟨k, hk⟩ : ∃ k : Nat, ((s0 : Int) + 3 * (j : Int)) % 5 = k ∧ k < 5 := ⟨(((s0 : Int) + 3 * (j : Int)) % 5).toNat, by omega, by omega⟩
    rw [hk.1]
    refine ⟨rfl, tk, bl, k, rfl, hk.2, ht, hb, ?_⟩
    dsimp only [back, isFz, gt, st, cl, clsE, Zl.entry, T.fr, List.map, List.append, List.nil_append, List.cons_append, List.append_nil, List.replicate, List.length, Nat.reduceSub, Nat.reduceAdd, Nat.zero_add, cond_true, cond_false]
    have arp := ans_rp (bl := bl) (k := k) ht
    have ea := ans_at (tk := tk) (bl := bl) k hk.2
    have trp := tL_rp ht
    have hf := ht.few
    refine ⟨arp, ?_⟩
    conv => whnf
    rw [atI_nat ea]
    refine ⟨arp, fun k2 => noE (k := decide (D.rpr (ansT tk bl k).fr = D.rpr (ansT tk bl k).fr)) k2 (decide_eq_true rfl), fun _ => ⟨trp, trp, fun k2 => noE (k := decide (D.rpr (.lst (tL tk)) = D.rpr (.lst (tL tk)))) k2 (decide_eq_true rfl), fun _ => ?_⟩⟩
    rcases ans_is (bl := bl) (k := k) ht with ⟨l, e, hl, hlate⟩ | ⟨d, e, hd⟩
    · rw [e]
      have hlf := hl.few
      have el : (tL l).length = l.length := List.length_map ..
      have et : (tL tk).length = tk.length := List.length_map ..
      refine ⟨by decide +kernel, fun _ => ⟨fun k2 => ?_, fun _ => ⟨fun k2 => noT k2, fun _ => ?_⟩⟩, fun k2 => noF k2⟩
      · have k2 : (k : Int) > 0 := of_decide_eq_true k2
        refine ⟨rfl, _, l, bl, rfl, .inr rfl, hl, hb, ?_⟩
        rw [hlate (by omega)]
        dsimp only [back, isFz, gt, st, cl, clsE, Zl.entry, T.fr, List.map, List.append, List.nil_append, List.cons_append, List.append_nil, List.replicate, List.length, Nat.reduceSub, Nat.reduceAdd, Nat.zero_add, cond_true, cond_false]
        refine ⟨fun k => noT k, fun _ => ?_⟩
        refine ⟨trivial, le_b rfl, szl (by omega), trivial, le_b rfl, ⟨szl (by omega), by decide, by decide⟩, hK _ ⟨_, _, _, _, rfl⟩⟩
      · refine ⟨trivial, le_b rfl, szl (by omega), trivial, le_b rfl, ⟨szl (by omega), by decide, by decide⟩, hK _ ⟨_, _, _, _, rfl⟩⟩
    · rw [e]
      have hlt : (tL tk).length < sizeLine := szl (by rw [List.length_map]; omega)
      rcases hd with ⟨b, rfl⟩ | rfl | ⟨s, rfl, _⟩
      · exact ⟨by decide +kernel, fun k2 => noT k2, fun _ => ⟨trivial, le_b rfl, ⟨hlt, by decide, by decide⟩, hK _ ⟨_, _, _, _, rfl⟩⟩⟩
      · exact ⟨by decide +kernel, fun k2 => noT k2, fun _ => ⟨trivial, le_b rfl, ⟨hlt, by decide, by decide⟩, hK _ ⟨_, _, _, _, rfl⟩⟩⟩
      · exact ⟨by decide +kernel, fun k2 => noT k2, fun _ => ⟨trivial, le_b rfl, ⟨hlt, by decide, by decide⟩, hK _ ⟨_, _, _, _, rfl⟩⟩⟩
  · rintro e ⟨o6, o7, o8, o9, rfl⟩
    exact h

def topS (i : Nat) : Stmt := PySem.Challenge.pw_betweenanytwosteps_k59_orders_of_levels.main.body.getD i (.Pass ⟨0, 0, 0, 0⟩)
/-- what the top has left -/
structure Gx (K : PySem.W.Frag) (mg : Str → Option Value) : Prop where
  b_len : mg "len" = none
  b_range : mg "range" = none
  b_tuple : mg "tuple" = none
  b_sorted : mg "sorted" = none
  b_int : mg "int" = none
  b_min : mg "min" = none
  b_max : mg "max" = none
  b_list : mg "list" = none
  b_repr : mg "repr" = none
  b_isinstance : mg "isinstance" = none
  v_LETTERS : GConst mg "LETTERS" (.str "abcdefghijklmnopqrstuvwxyz")
  v_MOST_TASKS : GConst mg "MOST_TASKS" (.int 4)
section
variable {P : Program} {w : World} {K : PySem.W.Frag} {mg : Str → Option Value} {base : Heap}
abbrev s_is_name : Stmt := topS 7
theorem sc_is_name : FnScope ["text", "sign"] ["text"] (defScope s_is_name) := ⟨rfl, rfl, rfl, by decide +kernel, rfl, by decide +kernel, by decide +kernel⟩
theorem ok_is_name {f : Addr} {fd : FuncData} (Fn : Fun K "is_name" "is_name" s_is_name f fd) (g : Gx K mg)  (len : ∀ ts P, sp_is_name ts P → ts.length = 1) (red : ∀ ts P, sp_is_name ts P → w_is_name (fin pm_is_name ts P) (Zl.entry 2 ts)) :
    FnG P w K mg base 1 f fd ["text"] (spOf K sp_is_name) := by
  refine z_funG pm_is_name Fn sc_is_name rfl len fun cdv hcd A outer s H E hgd hr => ⟨w_is_name, ?_, red⟩
  have hu := hr.units
  have hu5 := room65 hr
  have nd := (sc_is_name).nd
  exact (zss_cons (zs_if (zt_not (zt_chain op_le op_le (op2_cmp _) (op2_cmp _) (zo_v ze_int) (zo_v (ze_callB call_len opn_len (by rfl) g.b_len (by decide +kernel) (za_cons (zo_s 0) za_nil))) (zo_v ze_int)))
     (zss_one (zs_ret ze_bl))
     zss_nil)
     (zss_cons (zs_for PassesOwn.never rfl (zi_slot 0 (by decide)) (zg_name (i := 1) nd rfl (by first | exact Or.inl rfl | exact Or.inr rfl) (by decide))
     (zss_one (zs_if (zt_cmp (or_notinAll hu5) op2_notinAll (zo_s 1) (zo_v (ze_gStr g.v_LETTERS (by rfl))) (by rfl))
     (zss_one (zs_ret ze_bl))
     zss_nil)))
     (zss_one (zs_ret ze_bl))))
abbrev s_numbers_fit : Stmt := topS 10
theorem sc_numbers_fit : FnScope ["work", "gap", "limit"] ["work", "gap", "limit"] (defScope s_numbers_fit) := ⟨rfl, rfl, rfl, by decide +kernel, rfl, by decide +kernel, by decide +kernel⟩
theorem ok_numbers_fit {f : Addr} {fd : FuncData} (Fn : Fun K "numbers_fit" "numbers_fit" s_numbers_fit f fd) (g : Gx K mg)  (len : ∀ ts P, sp_numbers_fit ts P → ts.length = 3) (red : ∀ ts P, sp_numbers_fit ts P → w_numbers_fit (fin pm_numbers_fit ts P) (Zl.entry 3 ts)) :
    FnG P w K mg base 1 f fd ["work", "gap", "limit"] (spOf K sp_numbers_fit) := by
  refine z_funG pm_numbers_fit Fn sc_numbers_fit rfl len fun cdv hcd A outer s H E hgd hr => ⟨w_numbers_fit, ?_, red⟩
  have hu := hr.units
  have hu5 := room65 hr
  have nd := (sc_numbers_fit).nd
  exact (zss_one (zs_ret (ze_and (ze_chain op_le op_le (op2_cmp _) (op2_cmp _) (zo_v ze_int) (zo_s 0) (zo_v ze_int)) (ze_and (ze_chain op_le op_le (op2_cmp _) (op2_cmp _) (zo_v ze_int) (zo_s 1) (zo_v ze_int)) (ze_one (ze_chain op_le op_le (op2_cmp _) (op2_cmp _) (zo_v ze_int) (zo_s 2) (zo_s 1)))))))
abbrev s_check_tasks : Stmt := topS 11
theorem sc_check_tasks : FnScope ["tasks", "blocked", "used", "name", "work", "gap", "limit"] ["tasks", "blocked"] (defScope s_check_tasks) := ⟨rfl, rfl, rfl, by decide +kernel, rfl, by decide +kernel, by decide +kernel⟩
theorem ok_check_tasks {f : Addr} {fd : FuncData} (Fn : Fun K "check_tasks" "check_tasks" s_check_tasks f fd) (g : Gx K mg) (k_is_name : Cal P w K mg base "is_name" 1 ["text"] sp_is_name) (k_numbers_fit : Cal P w K mg base "numbers_fit" 1 ["work", "gap", "limit"] sp_numbers_fit) (len : ∀ ts P, sp_check_tasks ts P → ts.length = 2) (red : ∀ ts P, sp_check_tasks ts P → w_check_tasks (fin pm_check_tasks ts P) (Zl.entry 7 ts)) :
    FnG P w K mg base 2 f fd ["tasks", "blocked"] (spOf K sp_check_tasks) := by
  refine z_funG pm_check_tasks Fn sc_check_tasks rfl len fun cdv hcd A outer s H E hgd hr => ⟨w_check_tasks, ?_, red⟩
  have hu := hr.units
  have hu5 := room65 hr
  have nd := (sc_check_tasks).nd
  exact (zss_cons (zs_if (zt_cmp op_gt (op2_cmp _) (zo_v (ze_callB call_len opn_len (by rfl) g.b_len (by decide +kernel) (za_cons (zo_s 0) za_nil))) (zo_v (ze_gInt g.v_MOST_TASKS (by rfl))) (nomark _))
     (zss_one zs_never)
     zss_nil)
     (zss_cons (zs_set (i := 2) nd rfl (by first | exact Or.inl rfl | exact Or.inr rfl) (by decide) (ze_dlit [(.inr "main", .bl true), (.inr "any", .bl true)] (ds := [.bl true, .bl true]) (pps_cons pe_str pe_bl (pps_cons pe_str pe_bl pps_nil)) (fun _ _ => (.cons (.bl true) (.cons (.bl true) .nil))) (by rfl) (by decide) (by decide +kernel)))
     (zss_cons (zs_for PassesOwn.never rfl (zi_slot 0 (by decide)) (zg_tup (n := 4) rfl (zgs_cons (zg_name (i := 3) nd rfl (by first | exact Or.inl rfl | exact Or.inr rfl) (by decide)) (zgs_cons (zg_name (i := 4) nd rfl (by first | exact Or.inl rfl | exact Or.inr rfl) (by decide)) (zgs_cons (zg_name (i := 5) nd rfl (by first | exact Or.inl rfl | exact Or.inr rfl) (by decide)) (zgs_cons (zg_name (i := 6) nd rfl (by first | exact Or.inl rfl | exact Or.inr rfl) (by decide)) zgs_nil)))) (zgn_len (zgn_len (zgn_len (zgn_len zgn_nil)))))
     (zss_cons (zs_if (zt_w (zw_or (zt_not (zt_val (ze_callC k_is_name hgd (hr.mono (by decide)) (by rfl) (za_cons (zo_s 3) za_nil)))) (zw_or (zt_cmp (or_inAll hu5) op2_inAll (zo_s 3) (zo_s 2) (by rfl)) (zw_or1 (zt_not (zt_val (ze_callC k_numbers_fit hgd (hr.mono (by decide)) (by rfl) (za_cons (zo_s 4) (za_cons (zo_s 5) (za_cons (zo_s 6) za_nil))))))))))
     (zss_one zs_never)
     zss_nil)
     (zss_one (zs_setKey 2 hu ze_bl (zo_s 3)))))
     (zss_one (zs_if (zt_not (zt_chain op_le op_le (op2_cmp _) (op2_cmp _) (zo_v ze_int) (zo_s 1) (zo_v ze_int)))
     (zss_one zs_never)
     zss_nil)))))
abbrev s_needed : Stmt := topS 13
theorem sc_needed : FnScope ["tasks", "index", "blocked", "time", "ticks", "_", "work", "gap"] ["tasks", "index", "blocked", "time"] (defScope s_needed) := ⟨rfl, rfl, rfl, by decide +kernel, rfl, by decide +kernel, by decide +kernel⟩
theorem ok_needed {f : Addr} {fd : FuncData} (Fn : Fun K "needed" "needed" s_needed f fd) (g : Gx K mg)  (len : ∀ ts P, sp_needed ts P → ts.length = 4) (red : ∀ ts P, sp_needed ts P → w_needed (fin pm_needed ts P) (Zl.entry 8 ts)) :
    FnG P w K mg base 1 f fd ["tasks", "index", "blocked", "time"] (spOf K sp_needed) := by
  refine z_funG pm_needed Fn sc_needed rfl len fun cdv hcd A outer s H E hgd hr => ⟨w_needed, ?_, red⟩
  have hu := hr.units
  have hu5 := room65 hr
  have nd := (sc_needed).nd
  exact (zss_cons (zs_set (i := 4) nd rfl (by first | exact Or.inl rfl | exact Or.inr rfl) (by decide) (ze_op2 or_add op2_add (zo_v (ze_ix (ix_all hu) op2_ixAll (zo_v (ze_ix (ix_all hu) op2_ixAll (zo_s 0) (zo_s 1) (fun _ _ => rfl))) (zo_v ze_int) (fun _ _ => rfl))) (zo_s 2)))
     (zss_cons (zs_for PassesOwn.never rfl (zi_val (ze_sl (zo_s 0) pz_none (pz_some (zo_s 1)))) (zg_tup (n := 4) rfl (zgs_cons (zg_name (i := 5) nd rfl (by first | exact Or.inl rfl | exact Or.inr rfl) (by decide)) (zgs_cons (zg_name (i := 6) nd rfl (by first | exact Or.inl rfl | exact Or.inr rfl) (by decide)) (zgs_cons (zg_name (i := 7) nd rfl (by first | exact Or.inl rfl | exact Or.inr rfl) (by decide)) (zgs_cons (zg_name (i := 5) nd rfl (by first | exact Or.inl rfl | exact Or.inr rfl) (by decide)) zgs_nil)))) (zgn_len (zgn_len (zgn_len (zgn_len zgn_nil)))))
     (zss_one (zs_aug (i := 4) nd rfl (by first | exact Or.inl rfl | exact Or.inr rfl) (by decide) (zo_v (ze_op2 or_mul op2_mul (zo_v (ze_un un_neg op1_neg (zo_v (ze_op2 op_fdivN op2_div (zo_v (ze_un un_neg op1_neg (zo_s 3))) (zo_s 7))))) (zo_s 6))) ip_addZ op2_ipadd)))
     (zss_one (zs_ret (ze_mov 4)))))
abbrev s_least_time : Stmt := topS 14
theorem sc_least_time : FnScope ["tasks", "index", "blocked", "time", "follows"] ["tasks", "index", "blocked"] (defScope s_least_time) := ⟨rfl, rfl, rfl, by decide +kernel, rfl, by decide +kernel, by decide +kernel⟩
theorem ok_least_time {f : Addr} {fd : FuncData} (Fn : Fun K "least_time" "least_time" s_least_time f fd) (g : Gx K mg) (k_needed : Cal P w K mg base "needed" 1 ["tasks", "index", "blocked", "time"] sp_needed) (len : ∀ ts P, sp_least_time ts P → ts.length = 3) (red : ∀ ts P, sp_least_time ts P → w_least_time (fin pm_least_time ts P) (Zl.entry 5 ts)) :
    FnG P w K mg base 2 f fd ["tasks", "index", "blocked"] (spOf K sp_least_time) := by
  refine z_funG pm_least_time Fn sc_least_time rfl len fun cdv hcd A outer s H E hgd hr => ⟨w_least_time, ?_, red⟩
  have hu := hr.units
  have hu5 := room65 hr
  have nd := (sc_least_time).nd
  exact (zss_cons (zs_set (i := 3) nd rfl (by first | exact Or.inl rfl | exact Or.inr rfl) (by decide) (ze_op2 or_add op2_add (zo_v (ze_ix (ix_all hu) op2_ixAll (zo_v (ze_ix (ix_all hu) op2_ixAll (zo_s 0) (zo_s 1) (fun _ _ => rfl))) (zo_v ze_int) (fun _ _ => rfl))) (zo_s 2)))
     (zss_cons (zs_while PassesOwn.never (zt_cmp op_le (op2_cmp _) (zo_s 3) (zo_v (ze_ix (ix_all hu) op2_ixAll (zo_v (ze_ix (ix_all hu) op2_ixAll (zo_s 0) (zo_s 1) (fun _ _ => rfl))) (zo_v ze_int) (fun _ _ => rfl))) (nomark _))
     (zss_cons (zs_set (i := 4) nd rfl (by first | exact Or.inl rfl | exact Or.inr rfl) (by decide) (ze_callC k_needed hgd (hr.mono (by decide)) (by rfl) (za_cons (zo_s 0) (za_cons (zo_s 1) (za_cons (zo_s 2) (za_cons (zo_s 3) za_nil))))))
     (zss_cons (zs_if (zt_cmp (or_eq hu) op2_eq (zo_s 4) (zo_s 3) (nomark _))
     (zss_one (zs_ret (ze_mov 3)))
     zss_nil)
     (zss_one (zs_set (i := 3) nd rfl (by first | exact Or.inl rfl | exact Or.inr rfl) (by decide) (ze_var 4))))))
     (zss_one (zs_ret ze_non))))
abbrev s_within_limit : Stmt := topS 16
theorem sc_within_limit : FnScope ["tasks", "index", "blocked", "time"] ["tasks", "index", "blocked"] (defScope s_within_limit) := ⟨rfl, rfl, rfl, by decide +kernel, rfl, by decide +kernel, by decide +kernel⟩
theorem ok_within_limit {f : Addr} {fd : FuncData} (Fn : Fun K "within_limit" "within_limit" s_within_limit f fd) (g : Gx K mg) (k_least_time : Cal P w K mg base "least_time" 2 ["tasks", "index", "blocked"] sp_least_time) (len : ∀ ts P, sp_within_limit ts P → ts.length = 3) (red : ∀ ts P, sp_within_limit ts P → w_within_limit (fin pm_within_limit ts P) (Zl.entry 4 ts)) :
    FnG P w K mg base 3 f fd ["tasks", "index", "blocked"] (spOf K sp_within_limit) := by
  refine z_funG pm_within_limit Fn sc_within_limit rfl len fun cdv hcd A outer s H E hgd hr => ⟨w_within_limit, ?_, red⟩
  have hu := hr.units
  have hu5 := room65 hr
  have nd := (sc_within_limit).nd
  exact (zss_cons (zs_set (i := 3) nd rfl (by first | exact Or.inl rfl | exact Or.inr rfl) (by decide) (ze_callC k_least_time hgd (hr.mono (by decide)) (by rfl) (za_cons (zo_s 0) (za_cons (zo_s 1) (za_cons (zo_s 2) za_nil)))))
     (zss_one (zs_ret (ze_and (ze_cmp or_isnot op2_isnot (zo_s 3) (zo_v ze_non) (nomark _)) (ze_one (ze_cmp op_le (op2_cmp _) (zo_s 3) (zo_v (ze_ix (ix_all hu) op2_ixAll (zo_v (ze_ix (ix_all hu) op2_ixAll (zo_s 0) (zo_s 1) (fun _ _ => rfl))) (zo_v ze_int) (fun _ _ => rfl))) (nomark _)))))))
abbrev s_first_late : Stmt := topS 17
theorem sc_first_late : FnScope ["tasks", "blocked", "index"] ["tasks", "blocked"] (defScope s_first_late) := ⟨rfl, rfl, rfl, by decide +kernel, rfl, by decide +kernel, by decide +kernel⟩
theorem ok_first_late {f : Addr} {fd : FuncData} (Fn : Fun K "first_late" "first_late" s_first_late f fd) (g : Gx K mg) (k_within_limit : Cal P w K mg base "within_limit" 3 ["tasks", "index", "blocked"] sp_within_limit) (len : ∀ ts P, sp_first_late ts P → ts.length = 2) (red : ∀ ts P, sp_first_late ts P → w_first_late (fin pm_first_late ts P) (Zl.entry 3 ts)) :
    FnG P w K mg base 4 f fd ["tasks", "blocked"] (spOf K sp_first_late) := by
  refine z_funG pm_first_late Fn sc_first_late rfl len fun cdv hcd A outer s H E hgd hr => ⟨w_first_late, ?_, red⟩
  have hu := hr.units
  have hu5 := room65 hr
  have nd := (sc_first_late).nd
  exact (zss_cons (zs_for PassesOwn.never rfl (zi_rng1 (by rfl) g.b_range (za_cons (zo_v (ze_callB call_len opn_len (by rfl) g.b_len (by decide +kernel) (za_cons (zo_s 0) za_nil))) za_nil)) (zg_name (i := 2) nd rfl (by first | exact Or.inl rfl | exact Or.inr rfl) (by decide))
     (zss_one (zs_if (zt_not (zt_val (ze_callC k_within_limit hgd (hr.mono (by decide)) (by rfl) (za_cons (zo_s 0) (za_cons (zo_s 2) (za_cons (zo_s 1) za_nil))))))
     (zss_one (zs_ret (ze_mov 2)))
     zss_nil)))
     (zss_one (zs_ret (ze_un un_neg op1_neg (zo_v ze_int)))))
abbrev s_by_limits : Stmt := topS 18
theorem sc_by_limits : FnScope ["tasks", "row"] ["tasks"] (defScope s_by_limits) := ⟨rfl, rfl, rfl, by decide +kernel, rfl, by decide +kernel, by decide +kernel⟩
theorem ok_by_limits {f : Addr} {fd : FuncData} (Fn : Fun K "by_limits" "by_limits" s_by_limits f fd) {aC : Addr} (TB : LamX.TabB base mg aC lamT) (hcd0 : fd.code = .ref aC) (g : Gx K mg) (k_check_tasks : Cal P w K mg base "check_tasks" 2 ["tasks", "blocked"] sp_check_tasks) (len : ∀ ts P, sp_by_limits ts P → ts.length = 1) (red : ∀ ts P, sp_by_limits ts P → w_by_limits (fin pm_by_limits ts P) (Zl.entry 2 ts)) :
    FnG P w K mg base 3 f fd ["tasks"] (spOf K sp_by_limits) := by
  refine z_funG pm_by_limits Fn sc_by_limits rfl len fun cdv hcd A outer s H E hgd hr => ⟨w_by_limits, ?_, red⟩
  have hu := hr.units
  have hcode : cdv = .ref aC := hcd.symm.trans hcd0
  have hu5 := room65 hr
  have nd := (sc_by_limits).nd
  exact (zss_cons (zs_expr (ze_callC k_check_tasks hgd (hr.mono (by decide)) (by rfl) (za_cons (zo_s 0) (za_cons (zo_v ze_int) za_nil))))
     (zss_one (zs_ret (ze_sortK lam_at TB hcode hr.depth (room128 hr) (by rfl) g.b_sorted (by rfl) (ze_lc (own := [("row", 1)]) rfl nd (zi_slot 0 (by decide)) (blkOk_by (by rfl)) (fun _ _ _ _ _ => (zg_name (i := 1) nd rfl (by first | exact Or.inl rfl | exact Or.inr rfl) (by decide))) (fun _ _ _ _ _ => zts_nil) (fun _ _ _ _ _ => (ze_callTy cr_tuple opn_tuple (by rfl) g.b_tuple (by decide +kernel) (za_cons (zo_s 1) za_nil))) (by decide) (by decide)) (by decide) (by rfl) (fun _ _ _ _ _ _ => by rfl) (by rfl) (by rfl) (by rfl) (by decide +kernel) (by decide +kernel) (by rfl)))))
abbrev s_keeps_limits : Stmt := topS 19
theorem sc_keeps_limits : FnScope ["tasks", "blocked"] ["tasks", "blocked"] (defScope s_keeps_limits) := ⟨rfl, rfl, rfl, by decide +kernel, rfl, by decide +kernel, by decide +kernel⟩
theorem ok_keeps_limits {f : Addr} {fd : FuncData} (Fn : Fun K "keeps_limits" "keeps_limits" s_keeps_limits f fd) (g : Gx K mg) (k_check_tasks : Cal P w K mg base "check_tasks" 2 ["tasks", "blocked"] sp_check_tasks) (k_first_late : Cal P w K mg base "first_late" 4 ["tasks", "blocked"] sp_first_late) (len : ∀ ts P, sp_keeps_limits ts P → ts.length = 2) (red : ∀ ts P, sp_keeps_limits ts P → w_keeps_limits (fin pm_keeps_limits ts P) (Zl.entry 2 ts)) :
    FnG P w K mg base 5 f fd ["tasks", "blocked"] (spOf K sp_keeps_limits) := by
  refine z_funG pm_keeps_limits Fn sc_keeps_limits rfl len fun cdv hcd A outer s H E hgd hr => ⟨w_keeps_limits, ?_, red⟩
  have hu := hr.units
  have hu5 := room65 hr
  have nd := (sc_keeps_limits).nd
  exact (zss_cons (zs_expr (ze_callC k_check_tasks hgd (hr.mono (by decide)) (by rfl) (za_cons (zo_s 0) (za_cons (zo_s 1) za_nil))))
     (zss_one (zs_ret (ze_cmp op_lt (op2_cmp _) (zo_v (ze_callC k_first_late hgd (hr.mono (by decide)) (by rfl) (za_cons (zo_s 0) (za_cons (zo_s 1) za_nil)))) (zo_v ze_int) (nomark _)))))
abbrev s_best_order : Stmt := topS 20
theorem sc_best_order : FnScope ["tasks", "blocked", "rows"] ["tasks", "blocked"] (defScope s_best_order) := ⟨rfl, rfl, rfl, by decide +kernel, rfl, by decide +kernel, by decide +kernel⟩
theorem ok_best_order {f : Addr} {fd : FuncData} (Fn : Fun K "best_order" "best_order" s_best_order f fd) (g : Gx K mg) (k_check_tasks : Cal P w K mg base "check_tasks" 2 ["tasks", "blocked"] sp_check_tasks) (k_by_limits : Cal P w K mg base "by_limits" 3 ["tasks"] sp_by_limits) (k_first_late : Cal P w K mg base "first_late" 4 ["tasks", "blocked"] sp_first_late) (len : ∀ ts P, sp_best_order ts P → ts.length = 2) (red : ∀ ts P, sp_best_order ts P → w_best_order (fin pm_best_order ts P) (Zl.entry 3 ts)) :
    FnG P w K mg base 5 f fd ["tasks", "blocked"] (spOf K sp_best_order) := by
  refine z_funG pm_best_order Fn sc_best_order rfl len fun cdv hcd A outer s H E hgd hr => ⟨w_best_order, ?_, red⟩
  have hu := hr.units
  have hu5 := room65 hr
  have nd := (sc_best_order).nd
  exact (zss_cons (zs_expr (ze_callC k_check_tasks hgd (hr.mono (by decide)) (by rfl) (za_cons (zo_s 0) (za_cons (zo_s 1) za_nil))))
     (zss_cons (zs_set (i := 2) nd rfl (by first | exact Or.inl rfl | exact Or.inr rfl) (by decide) (ze_callC k_by_limits hgd (hr.mono (by decide)) (by rfl) (za_cons (zo_s 0) za_nil)))
     (zss_cons (zs_if (zt_cmp op_lt (op2_cmp _) (zo_v (ze_callC k_first_late hgd (hr.mono (by decide)) (by rfl) (za_cons (zo_s 2) (za_cons (zo_s 1) za_nil)))) (zo_v ze_int) (nomark _))
     (zss_one (zs_ret (ze_mov 2)))
     zss_nil)
     (zss_one (zs_ret ze_non)))))
abbrev s_breaking : Stmt := topS 21
theorem sc_breaking : FnScope ["tasks", "blocked", "rows", "index"] ["tasks", "blocked"] (defScope s_breaking) := ⟨rfl, rfl, rfl, by decide +kernel, rfl, by decide +kernel, by decide +kernel⟩
theorem ok_breaking {f : Addr} {fd : FuncData} (Fn : Fun K "breaking" "breaking" s_breaking f fd) (g : Gx K mg) (k_check_tasks : Cal P w K mg base "check_tasks" 2 ["tasks", "blocked"] sp_check_tasks) (k_by_limits : Cal P w K mg base "by_limits" 3 ["tasks"] sp_by_limits) (k_first_late : Cal P w K mg base "first_late" 4 ["tasks", "blocked"] sp_first_late) (len : ∀ ts P, sp_breaking ts P → ts.length = 2) (red : ∀ ts P, sp_breaking ts P → w_breaking (fin pm_breaking ts P) (Zl.entry 4 ts)) :
    FnG P w K mg base 5 f fd ["tasks", "blocked"] (spOf K sp_breaking) := by
  refine z_funG pm_breaking Fn sc_breaking rfl len fun cdv hcd A outer s H E hgd hr => ⟨w_breaking, ?_, red⟩
  have hu := hr.units
  have hu5 := room65 hr
  have nd := (sc_breaking).nd
  exact (zss_cons (zs_expr (ze_callC k_check_tasks hgd (hr.mono (by decide)) (by rfl) (za_cons (zo_s 0) (za_cons (zo_s 1) za_nil))))
     (zss_cons (zs_set (i := 2) nd rfl (by first | exact Or.inl rfl | exact Or.inr rfl) (by decide) (ze_callC k_by_limits hgd (hr.mono (by decide)) (by rfl) (za_cons (zo_s 0) za_nil)))
     (zss_cons (zs_set (i := 3) nd rfl (by first | exact Or.inl rfl | exact Or.inr rfl) (by decide) (ze_callC k_first_late hgd (hr.mono (by decide)) (by rfl) (za_cons (zo_s 2) (za_cons (zo_s 1) za_nil))))
     (zss_cons (zs_if (zt_cmp op_lt (op2_cmp _) (zo_s 3) (zo_v ze_int) (nomark _))
     (zss_one (zs_ret ze_non))
     zss_nil)
     (zss_one (zs_ret (ze_ix (ix_all hu) op2_ixAll (zo_v (ze_ix (ix_all hu) op2_ixAll (zo_s 2) (zo_s 3) (fun _ _ => rfl))) (zo_v ze_int) (fun _ _ => rfl))))))))
abbrev s_last_fit : Stmt := topS 22
theorem sc_last_fit : FnScope ["tasks", "blocked", "index", "others"] ["tasks", "blocked"] (defScope s_last_fit) := ⟨rfl, rfl, rfl, by decide +kernel, rfl, by decide +kernel, by decide +kernel⟩
theorem ok_last_fit {f : Addr} {fd : FuncData} (Fn : Fun K "last_fit" "last_fit" s_last_fit f fd) (g : Gx K mg) (k_within_limit : Cal P w K mg base "within_limit" 3 ["tasks", "index", "blocked"] sp_within_limit) (len : ∀ ts P, sp_last_fit ts P → ts.length = 2) (red : ∀ ts P, sp_last_fit ts P → w_last_fit (fin pm_last_fit ts P) (Zl.entry 4 ts)) :
    FnG P w K mg base 4 f fd ["tasks", "blocked"] (spOf K sp_last_fit) := by
  refine z_funG pm_last_fit Fn sc_last_fit rfl len fun cdv hcd A outer s H E hgd hr => ⟨w_last_fit, ?_, red⟩
  have hu := hr.units
  have hu5 := room65 hr
  have nd := (sc_last_fit).nd
  exact (zss_cons (zs_for PassesOwn.never rfl (zi_rgd (by rfl) g.b_range (za_cons (zo_v (ze_op2 op_sub op2_sub (zo_v (ze_callB call_len opn_len (by rfl) g.b_len (by decide +kernel) (za_cons (zo_s 0) za_nil))) (zo_v ze_int))) (za_cons (zo_v (ze_un un_neg op1_neg (zo_v ze_int))) (za_cons (zo_v (ze_un un_neg op1_neg (zo_v ze_int))) za_nil)))) (zg_name (i := 2) nd rfl (by first | exact Or.inl rfl | exact Or.inr rfl) (by decide))
     (zss_cons (zs_set (i := 3) nd rfl (by first | exact Or.inl rfl | exact Or.inr rfl) (by decide) (ze_op2 or_add op2_add (zo_v (ze_sl (zo_s 0) pz_none (pz_some (zo_s 2)))) (zo_v (ze_sl (zo_s 0) (pz_some (zo_v (ze_op2 or_add op2_add (zo_s 2) (zo_v ze_int)))) pz_none))))
     (zss_one (zs_if (zt_val (ze_callC k_within_limit hgd (hr.mono (by decide)) (by rfl) (za_cons (zo_v (ze_op2 or_add op2_add (zo_s 3) (zo_v (ze_lst (za_cons (zo_v (ze_ix (ix_all hu) op2_ixAll (zo_s 0) (zo_s 2) (fun _ _ => rfl))) za_nil))))) (za_cons (zo_v (ze_callB call_len opn_len (by rfl) g.b_len (by decide +kernel) (za_cons (zo_s 3) za_nil))) (za_cons (zo_s 1) za_nil)))))
     (zss_one (zs_ret (ze_mov 2)))
     zss_nil))))
     (zss_one (zs_ret (ze_un un_neg op1_neg (zo_v ze_int)))))
abbrev s_lowest_first : Stmt := topS 23
theorem sc_lowest_first : FnScope ["tasks", "blocked", "left", "row", "found", "index"] ["tasks", "blocked"] (defScope s_lowest_first) := ⟨rfl, rfl, rfl, by decide +kernel, rfl, by decide +kernel, by decide +kernel⟩
theorem ok_lowest_first {f : Addr} {fd : FuncData} (Fn : Fun K "lowest_first" "lowest_first" s_lowest_first f fd) (g : Gx K mg) (k_check_tasks : Cal P w K mg base "check_tasks" 2 ["tasks", "blocked"] sp_check_tasks) (k_last_fit : Cal P w K mg base "last_fit" 4 ["tasks", "blocked"] sp_last_fit) (len : ∀ ts P, sp_lowest_first ts P → ts.length = 2) (red : ∀ ts P, sp_lowest_first ts P → w_lowest_first (fin pm_lowest_first ts P) (Zl.entry 6 ts)) :
    FnG P w K mg base 5 f fd ["tasks", "blocked"] (spOf K sp_lowest_first) := by
  refine z_funG pm_lowest_first Fn sc_lowest_first rfl len fun cdv hcd A outer s H E hgd hr => ⟨w_lowest_first, ?_, red⟩
  have hu := hr.units
  have hu5 := room65 hr
  have nd := (sc_lowest_first).nd
  exact (zss_cons (zs_expr (ze_callC k_check_tasks hgd (hr.mono (by decide)) (by rfl) (za_cons (zo_s 0) (za_cons (zo_s 1) za_nil))))
     (zss_cons (zs_setLc (own := [("row", 3)]) (i := 2) rfl nd rfl rfl (by decide) (sw_true rfl rfl rfl (by decide +kernel)) (zi_slot 0 (by decide)) (blkOk_by (by rfl)) (fun _ _ _ _ _ => (zg_name (i := 3) nd rfl (by first | exact Or.inl rfl | exact Or.inr rfl) (by decide))) (fun _ _ _ _ _ => zts_nil) (fun _ _ _ _ _ => (ze_callTy cr_tuple opn_tuple (by rfl) g.b_tuple (by decide +kernel) (za_cons (zo_s 3) za_nil))) (by decide) (by decide))
     (zss_cons (zs_set (i := 4) nd rfl (by first | exact Or.inl rfl | exact Or.inr rfl) (by decide) (ze_lst za_nil))
     (zss_cons (zs_while PassesOwn.never (zt_cmp op_gt (op2_cmp _) (zo_v (ze_callB call_len opn_len (by rfl) g.b_len (by decide +kernel) (za_cons (zo_s 2) za_nil))) (zo_v ze_int) (nomark _))
     (zss_cons (zs_set (i := 5) nd rfl (by first | exact Or.inl rfl | exact Or.inr rfl) (by decide) (ze_callC k_last_fit hgd (hr.mono (by decide)) (by rfl) (za_cons (zo_s 2) (za_cons (zo_s 1) za_nil))))
     (zss_cons (zs_if (zt_cmp op_lt (op2_cmp _) (zo_s 5) (zo_v ze_int) (nomark _))
     (zss_one (zs_ret ze_non))
     zss_nil)
     (zss_one (zs_expr (ze_mut 4 PySem.F.slot_list_append PySem.F.type_list_append mt_append mut_append (za_cons (zo_v (ze_mut 2 PySem.F.slot_list_pop PySem.F.type_list_pop mt_popAll mut_popAll (za_cons (zo_v (ze_var 5)) za_nil))) za_nil)))))))
     (zss_cons (zs_expr (ze_mut0 4 PySem.F.slot_list_reverse PySem.F.type_list_reverse mt_reverse mut_reverse))
     (zss_one (zs_ret (ze_mov 4))))))))
abbrev s_law_tape : Stmt := topS 25
theorem sc_law_tape : FnScope ["script", "rows", "seed", "k", "cell", "turn", "first"] ["script"] (defScope s_law_tape) := ⟨rfl, rfl, rfl, by decide +kernel, rfl, by decide +kernel, by decide +kernel⟩
theorem ok_law_tape {f : Addr} {fd : FuncData} (Fn : Fun K "_law_tape" "_law_tape" s_law_tape f fd) (g : Gx K mg)  (len : ∀ ts P, sp_law_tape ts P → ts.length = 1) (red : ∀ ts P, sp_law_tape ts P → w_law_tape (fin pm_law_tape ts P) (Zl.entry 7 ts)) :
    FnG P w K mg base 1 f fd ["script"] (spOf K sp_law_tape) := by
  refine z_funG pm_law_tape Fn sc_law_tape rfl len fun cdv hcd A outer s H E hgd hr => ⟨w_law_tape, ?_, red⟩
  have hu := hr.units
  have hu5 := room65 hr
  have nd := (sc_law_tape).nd
  exact (zss_cons (zs_set (i := 1) nd rfl (by first | exact Or.inl rfl | exact Or.inr rfl) (by decide) (ze_lst za_nil))
     (zss_cons (zs_set (i := 2) nd rfl (by first | exact Or.inl rfl | exact Or.inr rfl) (by decide) (ze_op2 or_add op2_add (zo_v (ze_op2 or_mul op2_mul (zo_v (ze_callB call_len opn_len (by rfl) g.b_len (by decide +kernel) (za_cons (zo_s 0) za_nil))) (zo_v ze_int))) (zo_v ze_int)))
     (zss_cons (zs_for PassesOwn.never rfl (zi_rng1 (by rfl) g.b_range (za_cons (zo_v ze_int) za_nil)) (zg_name (i := 3) nd rfl (by first | exact Or.inl rfl | exact Or.inr rfl) (by decide))
     (zss_one (zs_if (zt_cmp op_lt (op2_cmp _) (zo_s 3) (zo_v (ze_callB call_len opn_len (by rfl) g.b_len (by decide +kernel) (za_cons (zo_s 0) za_nil))) (nomark _))
     (zss_one (zs_set (i := 2) nd rfl (by first | exact Or.inl rfl | exact Or.inr rfl) (by decide) (ze_op2 op_modN op2_mod (zo_v (ze_callTy call_int1 opn_int (by rfl) g.b_int (by decide +kernel) (za_cons (zo_v (ze_op2 or_add op2_add (zo_v (ze_op2 or_mul op2_mul (zo_s 2) (zo_v ze_int))) (zo_v (ze_ix (ix_all hu) op2_ixAll (zo_s 0) (zo_s 3) (fun _ _ => rfl))))) za_nil))) (zo_v ze_int))))
     zss_nil)))
     (zss_cons (zs_for PassesOwn.never rfl (zi_rng1 (by rfl) g.b_range (za_cons (zo_v ze_int) za_nil)) (zg_name (i := 3) nd rfl (by first | exact Or.inl rfl | exact Or.inr rfl) (by decide))
     (zss_cons (zs_set (i := 2) nd rfl (by first | exact Or.inl rfl | exact Or.inr rfl) (by decide) (ze_op2 op_modN op2_mod (zo_v (ze_callTy call_int1 opn_int (by rfl) g.b_int (by decide +kernel) (za_cons (zo_v (ze_op2 or_add op2_add (zo_v (ze_op2 or_add op2_add (zo_v (ze_op2 or_mul op2_mul (zo_s 2) (zo_v ze_int))) (zo_v (ze_op2 or_mul op2_mul (zo_v ze_int) (zo_s 3))))) (zo_v ze_int))) za_nil))) (zo_v ze_int)))
     (zss_one (zs_expr (ze_mut 1 PySem.F.slot_list_append PySem.F.type_list_append mt_append mut_append (za_cons (zo_v (ze_op2 op_fdivN op2_div (zo_s 2) (zo_v ze_int))) za_nil))))))
     (zss_cons (zs_for PassesOwn.never rfl (zi_rng1 (by rfl) g.b_range (za_cons (zo_v ze_int) za_nil)) (zg_name (i := 3) nd rfl (by first | exact Or.inl rfl | exact Or.inr rfl) (by decide))
     (zss_one (zs_if (zt_cmp op_lt (op2_cmp _) (zo_s 3) (zo_v (ze_callB call_len opn_len (by rfl) g.b_len (by decide +kernel) (za_cons (zo_s 0) za_nil))) (nomark _))
     (zss_cons (zs_set (i := 4) nd rfl (by first | exact Or.inl rfl | exact Or.inr rfl) (by decide) (ze_ix (ix_all hu) op2_ixAll (zo_s 0) (zo_s 3) (fun _ _ => rfl)))
     (zss_one (zs_if (zt_cmp op_ge (op2_cmp _) (zo_s 4) (zo_v (ze_op2 op_pow op2_pow (zo_v ze_int) (zo_v ze_int))) (nomark _))
     (zss_one (zs_for PassesOwn.never rfl (zi_rng1 (by rfl) g.b_range (za_cons (zo_v ze_int) za_nil)) (zg_name (i := 5) nd rfl (by first | exact Or.inl rfl | exact Or.inr rfl) (by decide))
     (zss_one (zs_if (zt_cmp op_gt (op2_cmp _) (zo_s 4) (zo_v ze_int) (nomark _))
     (zss_cons (zs_expr (ze_mut 1 PySem.F.slot_list_append PySem.F.type_list_append mt_append mut_append (za_cons (zo_v (ze_op2 op_modN op2_mod (zo_v (ze_callTy call_int1 opn_int (by rfl) g.b_int (by decide +kernel) (za_cons (zo_s 4) za_nil))) (zo_v ze_int))) za_nil)))
     (zss_one (zs_set (i := 4) nd rfl (by first | exact Or.inl rfl | exact Or.inr rfl) (by decide) (ze_op2 op_fdivN op2_div (zo_s 4) (zo_v ze_int)))))
     zss_nil))))
     (zss_cons (zs_set (i := 6) nd rfl (by first | exact Or.inl rfl | exact Or.inr rfl) (by decide) (ze_op2 op_modN op2_mod (zo_v (ze_callTy call_int1 opn_int (by rfl) g.b_int (by decide +kernel) (za_cons (zo_v (ze_op2 or_add op2_add (zo_v (ze_op2 or_add op2_add (zo_v (ze_op2 or_mul op2_mul (zo_s 4) (zo_v ze_int))) (zo_v (ze_op2 or_mul op2_mul (zo_s 3) (zo_v ze_int))))) (zo_v ze_int))) za_nil))) (zo_v ze_int)))
     (zss_cons (zs_expr (ze_mut 1 PySem.F.slot_list_append PySem.F.type_list_append mt_append mut_append (za_cons (zo_v (ze_op2 op_fdivN op2_div (zo_v (ze_op2 op_modN op2_mod (zo_v (ze_callTy call_int1 opn_int (by rfl) g.b_int (by decide +kernel) (za_cons (zo_v (ze_op2 or_add op2_add (zo_v (ze_op2 or_mul op2_mul (zo_s 6) (zo_v ze_int))) (zo_s 3))) za_nil))) (zo_v ze_int))) (zo_v ze_int))) za_nil)))
     (zss_one (zs_expr (ze_mut 1 PySem.F.slot_list_append PySem.F.type_list_append mt_append mut_append (za_cons (zo_v (ze_op2 op_fdivN op2_div (zo_v (ze_op2 op_modN op2_mod (zo_v (ze_callTy call_int1 opn_int (by rfl) g.b_int (by decide +kernel) (za_cons (zo_v (ze_op2 or_add op2_add (zo_v (ze_op2 or_mul op2_mul (zo_s 6) (zo_v ze_int))) (zo_v ze_int))) za_nil))) (zo_v ze_int))) (zo_v ze_int))) za_nil)))))))))
     zss_nil)))
     (zss_one (zs_ret (ze_mov 1))))))))
abbrev s_law_draw : Stmt := topS 26
theorem sc_law_draw : FnScope ["rows", "size"] ["rows", "size"] (defScope s_law_draw) := ⟨rfl, rfl, rfl, by decide +kernel, rfl, by decide +kernel, by decide +kernel⟩
theorem ok_law_draw {f : Addr} {fd : FuncData} (Fn : Fun K "_law_draw" "_law_draw" s_law_draw f fd) (g : Gx K mg)  (len : ∀ ts P, sp_law_draw ts P → ts.length = 2) (red : ∀ ts P, sp_law_draw ts P → w_law_draw (fin pm_law_draw ts P) (Zl.entry 2 ts)) :
    FnG P w K mg base 1 f fd ["rows", "size"] (spOf K sp_law_draw) := by
  refine z_funG pm_law_draw Fn sc_law_draw rfl len fun cdv hcd A outer s H E hgd hr => ⟨w_law_draw, ?_, red⟩
  have hu := hr.units
  have hu5 := room65 hr
  have nd := (sc_law_draw).nd
  exact (zss_cons (zs_if (zt_cmp (or_eq hu) op2_eq (zo_v (ze_callB call_len opn_len (by rfl) g.b_len (by decide +kernel) (za_cons (zo_s 0) za_nil))) (zo_v ze_int) (nomark _))
     (zss_one (zs_ret ze_int))
     zss_nil)
     (zss_one (zs_ret (ze_op2 op_modN op2_mod (zo_v (ze_callTy call_int1 opn_int (by rfl) g.b_int (by decide +kernel) (za_cons (zo_v (ze_mut0 0 PySem.F.slot_list_pop PySem.F.type_list_pop mt_popAll mut_popAll)) za_nil))) (zo_s 1)))))
abbrev s_law_name : Stmt := topS 27
theorem sc_law_name : FnScope ["rows", "used", "letters", "base", "k", "name"] ["rows", "used"] (defScope s_law_name) := ⟨rfl, rfl, rfl, by decide +kernel, rfl, by decide +kernel, by decide +kernel⟩
theorem ok_law_name {f : Addr} {fd : FuncData} (Fn : Fun K "_law_name" "_law_name" s_law_name f fd) (g : Gx K mg) (k_law_draw : Cal P w K mg base "_law_draw" 1 ["rows", "size"] sp_law_draw) (len : ∀ ts P, sp_law_name ts P → ts.length = 2) (red : ∀ ts P, sp_law_name ts P → w_law_name (fin pm_law_name ts P) (Zl.entry 6 ts)) :
    FnG P w K mg base 2 f fd ["rows", "used"] (spOf K sp_law_name) := by
  refine z_funG pm_law_name Fn sc_law_name rfl len fun cdv hcd A outer s H E hgd hr => ⟨w_law_name, ?_, red⟩
  have hu := hr.units
  have hu5 := room65 hr
  have nd := (sc_law_name).nd
  exact (zss_cons (zs_set (i := 2) nd rfl (by first | exact Or.inl rfl | exact Or.inr rfl) (by decide) ze_str)
     (zss_cons (zs_set (i := 3) nd rfl (by first | exact Or.inl rfl | exact Or.inr rfl) (by decide) ze_str)
     (zss_cons (zs_for PassesOwn.never rfl (zi_rng1 (by rfl) g.b_range (za_cons (zo_v (ze_op2 or_add op2_add (zo_v ze_int) (zo_v (ze_callC k_law_draw hgd (hr.mono (by decide)) (by rfl) (za_cons (zo_s 0) (za_cons (zo_v ze_int) za_nil)))))) za_nil)) (zg_name (i := 4) nd rfl (by first | exact Or.inl rfl | exact Or.inr rfl) (by decide))
     (zss_one (zs_set (i := 3) nd rfl (by first | exact Or.inl rfl | exact Or.inr rfl) (by decide) (ze_op2 or_add op2_add (zo_s 3) (zo_v (ze_ix (ix_all hu) op2_ixAll (zo_s 2) (zo_v (ze_callC k_law_draw hgd (hr.mono (by decide)) (by rfl) (za_cons (zo_s 0) (za_cons (zo_v ze_int) za_nil)))) (fun _ _ => rfl)))))))
     (zss_cons (zs_set (i := 5) nd rfl (by first | exact Or.inl rfl | exact Or.inr rfl) (by decide) (ze_var 3))
     (zss_cons (zs_for PassesOwn.never rfl (zi_rng1 (by rfl) g.b_range (za_cons (zo_v ze_int) za_nil)) (zg_name (i := 4) nd rfl (by first | exact Or.inl rfl | exact Or.inr rfl) (by decide))
     (zss_one (zs_if (zt_w (zw_or (zt_cmp (or_inAll hu5) op2_inAll (zo_s 5) (zo_s 1) (by rfl)) (zw_or (zt_cmp (or_eq hu) op2_eq (zo_s 5) (zo_v ze_str) (nomark _)) (zw_or1 (zt_cmp (or_eq hu) op2_eq (zo_s 5) (zo_v ze_str) (nomark _))))))
     (zss_one (zs_set (i := 5) nd rfl (by first | exact Or.inl rfl | exact Or.inr rfl) (by decide) (ze_op2 or_add op2_add (zo_v (ze_ix (ix_all hu) op2_ixAll (zo_s 2) (zo_s 4) (fun _ _ => rfl))) (zo_v (ze_sl (zo_s 3) pz_none (pz_some (zo_v ze_int)))))))
     zss_nil)))
     (zss_cons (zs_expr (ze_mut 1 PySem.F.slot_list_append PySem.F.type_list_append mt_append mut_append (za_cons (zo_v (ze_var 5)) za_nil)))
     (zss_one (zs_ret (ze_mov 5)))))))))
abbrev s_law_response : Stmt := topS 28
theorem sc_law_response : FnScope ["task", "above", "blocked", "time", "ticks", "row", "count"] ["task", "above", "blocked"] (defScope s_law_response) := ⟨rfl, rfl, rfl, by decide +kernel, rfl, by decide +kernel, by decide +kernel⟩
theorem ok_law_response {f : Addr} {fd : FuncData} (Fn : Fun K "_law_response" "_law_response" s_law_response f fd) (g : Gx K mg)  (len : ∀ ts P, sp_law_response ts P → ts.length = 3) (red : ∀ ts P, sp_law_response ts P → w_law_response (fin pm_law_response ts P) (Zl.entry 7 ts)) :
    FnG P w K mg base 1 f fd ["task", "above", "blocked"] (spOf K sp_law_response) := by
  refine z_funG pm_law_response Fn sc_law_response rfl len fun cdv hcd A outer s H E hgd hr => ⟨w_law_response, ?_, red⟩
  have hu := hr.units
  have hu5 := room65 hr
  have nd := (sc_law_response).nd
  exact (zss_cons (zs_for PassesOwn.never rfl (zi_rng2 (by rfl) g.b_range (za_cons (zo_v ze_int) (za_cons (zo_v (ze_op2 or_add op2_add (zo_v (ze_ix (ix_all hu) op2_ixAll (zo_s 0) (zo_v ze_int) (fun _ _ => rfl))) (zo_v ze_int))) za_nil))) (zg_name (i := 3) nd rfl (by first | exact Or.inl rfl | exact Or.inr rfl) (by decide))
     (zss_cons (zs_set (i := 4) nd rfl (by first | exact Or.inl rfl | exact Or.inr rfl) (by decide) (ze_op2 or_add op2_add (zo_v (ze_ix (ix_all hu) op2_ixAll (zo_s 0) (zo_v ze_int) (fun _ _ => rfl))) (zo_s 2)))
     (zss_cons (zs_for PassesOwn.never rfl (zi_slot 1 (by decide)) (zg_name (i := 5) nd rfl (by first | exact Or.inl rfl | exact Or.inr rfl) (by decide))
     (zss_cons (zs_set (i := 6) nd rfl (by first | exact Or.inl rfl | exact Or.inr rfl) (by decide) (ze_op2 op_fdivN op2_div (zo_v (ze_callTy call_int1 opn_int (by rfl) g.b_int (by decide +kernel) (za_cons (zo_s 3) za_nil))) (zo_v (ze_ix (ix_all hu) op2_ixAll (zo_s 5) (zo_v ze_int) (fun _ _ => rfl)))))
     (zss_cons (zs_if (zt_cmp op_lt (op2_cmp _) (zo_v (ze_op2 or_mul op2_mul (zo_s 6) (zo_v (ze_ix (ix_all hu) op2_ixAll (zo_s 5) (zo_v ze_int) (fun _ _ => rfl))))) (zo_s 3) (nomark _))
     (zss_one (zs_set (i := 6) nd rfl (by first | exact Or.inl rfl | exact Or.inr rfl) (by decide) (ze_op2 or_add op2_add (zo_s 6) (zo_v ze_int))))
     zss_nil)
     (zss_one (zs_set (i := 4) nd rfl (by first | exact Or.inl rfl | exact Or.inr rfl) (by decide) (ze_op2 or_add op2_add (zo_s 4) (zo_v (ze_op2 or_mul op2_mul (zo_s 6) (zo_v (ze_ix (ix_all hu) op2_ixAll (zo_s 5) (zo_v ze_int) (fun _ _ => rfl)))))))))))
     (zss_one (zs_if (zt_cmp (or_eq hu) op2_eq (zo_s 4) (zo_s 3) (nomark _))
     (zss_one (zs_ret (ze_mov 3)))
     zss_nil)))))
     (zss_one (zs_ret ze_non)))
abbrev s_law_keeps : Stmt := topS 29
theorem sc_law_keeps : FnScope ["task", "above", "blocked", "least"] ["task", "above", "blocked"] (defScope s_law_keeps) := ⟨rfl, rfl, rfl, by decide +kernel, rfl, by decide +kernel, by decide +kernel⟩
theorem ok_law_keeps {f : Addr} {fd : FuncData} (Fn : Fun K "_law_keeps" "_law_keeps" s_law_keeps f fd) (g : Gx K mg) (k_law_response : Cal P w K mg base "_law_response" 1 ["task", "above", "blocked"] sp_law_response) (len : ∀ ts P, sp_law_keeps ts P → ts.length = 3) (red : ∀ ts P, sp_law_keeps ts P → w_law_keeps (fin pm_law_keeps ts P) (Zl.entry 4 ts)) :
    FnG P w K mg base 2 f fd ["task", "above", "blocked"] (spOf K sp_law_keeps) := by
  refine z_funG pm_law_keeps Fn sc_law_keeps rfl len fun cdv hcd A outer s H E hgd hr => ⟨w_law_keeps, ?_, red⟩
  have hu := hr.units
  have hu5 := room65 hr
  have nd := (sc_law_keeps).nd
  exact (zss_cons (zs_set (i := 3) nd rfl (by first | exact Or.inl rfl | exact Or.inr rfl) (by decide) (ze_callC k_law_response hgd (hr.mono (by decide)) (by rfl) (za_cons (zo_s 0) (za_cons (zo_s 1) (za_cons (zo_s 2) za_nil)))))
     (zss_one (zs_ret (ze_and (ze_cmp or_isnot op2_isnot (zo_s 3) (zo_v ze_non) (nomark _)) (ze_one (ze_cmp op_le (op2_cmp _) (zo_s 3) (zo_v (ze_ix (ix_all hu) op2_ixAll (zo_s 0) (zo_v ze_int) (fun _ _ => rfl))) (nomark _)))))))
abbrev s_law_row : Stmt := topS 30
theorem sc_law_row : FnScope ["rows", "used", "blocked", "tasks", "k", "name", "work", "gap", "least", "limit", "row", "task"] ["rows"] (defScope s_law_row) := ⟨rfl, rfl, rfl, by decide +kernel, rfl, by decide +kernel, by decide +kernel⟩
theorem ok_law_row {f : Addr} {fd : FuncData} (Fn : Fun K "_law_row" "_law_row" s_law_row f fd) (g : Gx K mg) (k_law_draw : Cal P w K mg base "_law_draw" 1 ["rows", "size"] sp_law_draw) (k_law_name : Cal P w K mg base "_law_name" 2 ["rows", "used"] sp_law_name) (k_law_response : Cal P w K mg base "_law_response" 1 ["task", "above", "blocked"] sp_law_response) (len : ∀ ts P, sp_law_row ts P → ts.length = 1) (red : ∀ ts P, sp_law_row ts P → w_law_row (fin pm_law_row ts P) (Zl.entry 12 ts)) :
    FnG P w K mg base 3 f fd ["rows"] (spOf K sp_law_row) := by
  refine z_funG pm_law_row Fn sc_law_row rfl len fun cdv hcd A outer s H E hgd hr => ⟨w_law_row, ?_, red⟩
  have hu := hr.units
  have hu5 := room65 hr
  have nd := (sc_law_row).nd
  exact (zss_cons (zs_set (i := 1) nd rfl (by first | exact Or.inl rfl | exact Or.inr rfl) (by decide) (ze_lst za_nil))
     (zss_cons (zs_set (i := 2) nd rfl (by first | exact Or.inl rfl | exact Or.inr rfl) (by decide) (ze_callC k_law_draw hgd (hr.mono (by decide)) (by rfl) (za_cons (zo_s 0) (za_cons (zo_v ze_int) za_nil))))
     (zss_cons (zs_if (zt_cmp (or_eq hu) op2_eq (zo_v (ze_callC k_law_draw hgd (hr.mono (by decide)) (by rfl) (za_cons (zo_s 0) (za_cons (zo_v ze_int) za_nil)))) (zo_v ze_int) (nomark _))
     (zss_one (zs_set (i := 2) nd rfl (by first | exact Or.inl rfl | exact Or.inr rfl) (by decide) (ze_callC k_law_draw hgd (hr.mono (by decide)) (by rfl) (za_cons (zo_s 0) (za_cons (zo_v ze_int) za_nil)))))
     zss_nil)
     (zss_cons (zs_set (i := 3) nd rfl (by first | exact Or.inl rfl | exact Or.inr rfl) (by decide) (ze_lst za_nil))
     (zss_cons (zs_for PassesOwn.never rfl (zi_rng1 (by rfl) g.b_range (za_cons (zo_v (ze_callC k_law_draw hgd (hr.mono (by decide)) (by rfl) (za_cons (zo_s 0) (za_cons (zo_v ze_int) za_nil)))) za_nil)) (zg_name (i := 4) nd rfl (by first | exact Or.inl rfl | exact Or.inr rfl) (by decide))
     (zss_cons (zs_set (i := 5) nd rfl (by first | exact Or.inl rfl | exact Or.inr rfl) (by decide) (ze_callC k_law_name hgd (hr.mono (by decide)) (by rfl) (za_cons (zo_s 0) (za_cons (zo_s 1) za_nil))))
     (zss_cons (zs_set (i := 6) nd rfl (by first | exact Or.inl rfl | exact Or.inr rfl) (by decide) (ze_op2 or_add op2_add (zo_v ze_int) (zo_v (ze_callC k_law_draw hgd (hr.mono (by decide)) (by rfl) (za_cons (zo_s 0) (za_cons (zo_v ze_int) za_nil))))))
     (zss_cons (zs_if (zt_cmp (or_eq hu) op2_eq (zo_v (ze_callC k_law_draw hgd (hr.mono (by decide)) (by rfl) (za_cons (zo_s 0) (za_cons (zo_v ze_int) za_nil)))) (zo_v ze_int) (nomark _))
     (zss_one (zs_set (i := 6) nd rfl (by first | exact Or.inl rfl | exact Or.inr rfl) (by decide) (ze_op2 or_add op2_add (zo_v ze_int) (zo_v (ze_callC k_law_draw hgd (hr.mono (by decide)) (by rfl) (za_cons (zo_s 0) (za_cons (zo_v ze_int) za_nil)))))))
     zss_nil)
     (zss_cons (zs_set (i := 7) nd rfl (by first | exact Or.inl rfl | exact Or.inr rfl) (by decide) (ze_op2 or_add op2_add (zo_v ze_int) (zo_v (ze_callC k_law_draw hgd (hr.mono (by decide)) (by rfl) (za_cons (zo_s 0) (za_cons (zo_v ze_int) za_nil))))))
     (zss_cons (zs_set (i := 8) nd rfl (by first | exact Or.inl rfl | exact Or.inr rfl) (by decide) (ze_callC k_law_response hgd (hr.mono (by decide)) (by rfl) (za_cons (zo_v (ze_tup (za_cons (zo_v (ze_var 5)) (za_cons (zo_v (ze_var 6)) (za_cons (zo_v ze_int) (za_cons (zo_v ze_int) za_nil)))))) (za_cons (zo_s 3) (za_cons (zo_s 2) za_nil)))))
     (zss_cons (zs_if (zt_w (zw_and (zt_cmp or_isnot op2_isnot (zo_s 8) (zo_v ze_non) (nomark _)) (zw_and1 (zt_cmp op_gt (op2_cmp _) (zo_v (ze_callC k_law_draw hgd (hr.mono (by decide)) (by rfl) (za_cons (zo_s 0) (za_cons (zo_v ze_int) za_nil)))) (zo_v ze_int) (nomark _)))))
     (zss_one (zs_set (i := 7) nd rfl (by first | exact Or.inl rfl | exact Or.inr rfl) (by decide) (ze_callB (cr_min rfl) opn_min (by rfl) g.b_min (by decide +kernel) (za_cons (zo_v ze_int) (za_cons (zo_v (ze_op2 or_add op2_add (zo_s 8) (zo_v (ze_callC k_law_draw hgd (hr.mono (by decide)) (by rfl) (za_cons (zo_s 0) (za_cons (zo_v ze_int) za_nil)))))) za_nil)))))
     zss_nil)
     (zss_cons (zs_set (i := 9) nd rfl (by first | exact Or.inl rfl | exact Or.inr rfl) (by decide) (ze_op2 or_add op2_add (zo_v ze_int) (zo_v (ze_callC k_law_draw hgd (hr.mono (by decide)) (by rfl) (za_cons (zo_s 0) (za_cons (zo_s 7) za_nil))))))
     (zss_cons (zs_if (zt_w (zw_and (zt_cmp or_isnot op2_isnot (zo_s 8) (zo_v ze_non) (nomark _)) (zw_and1 (zt_cmp op_gt (op2_cmp _) (zo_v (ze_callC k_law_draw hgd (hr.mono (by decide)) (by rfl) (za_cons (zo_s 0) (za_cons (zo_v ze_int) za_nil)))) (zo_v ze_int) (nomark _)))))
     (zss_one (zs_set (i := 9) nd rfl (by first | exact Or.inl rfl | exact Or.inr rfl) (by decide) (ze_callB (call_max2 rfl) opn_max (by rfl) g.b_max (by decide +kernel) (za_cons (zo_v ze_int) (za_cons (zo_v (ze_callB (cr_min rfl) opn_min (by rfl) g.b_min (by decide +kernel) (za_cons (zo_s 7) (za_cons (zo_v (ze_op2 or_add op2_add (zo_v (ze_op2 op_sub op2_sub (zo_s 8) (zo_v ze_int))) (zo_v (ze_callC k_law_draw hgd (hr.mono (by decide)) (by rfl) (za_cons (zo_s 0) (za_cons (zo_v ze_int) za_nil)))))) za_nil)))) za_nil)))))
     zss_nil)
     (zss_cons (zs_if (zt_w (zw_and (zt_cmp op_gt (op2_cmp _) (zo_s 4) (zo_v ze_int) (nomark _)) (zw_and1 (zt_cmp (or_eq hu) op2_eq (zo_v (ze_callC k_law_draw hgd (hr.mono (by decide)) (by rfl) (za_cons (zo_s 0) (za_cons (zo_v ze_int) za_nil)))) (zo_v ze_int) (nomark _)))))
     (zss_one (zs_set (i := 9) nd rfl (by first | exact Or.inl rfl | exact Or.inr rfl) (by decide) (ze_callB (cr_min rfl) opn_min (by rfl) g.b_min (by decide +kernel) (za_cons (zo_s 7) (za_cons (zo_v (ze_ix (ix_all hu) op2_ixAll (zo_v (ze_ix (ix_all hu) op2_ixAll (zo_s 3) (zo_v (ze_un un_neg op1_neg (zo_v ze_int))) (fun _ _ => rfl))) (zo_v ze_int) (fun _ _ => rfl))) za_nil)))))
     zss_nil)
     (zss_one (zs_expr (ze_mut 3 PySem.F.slot_list_append PySem.F.type_list_append mt_append mut_append (za_cons (zo_v (ze_tup (za_cons (zo_v (ze_var 5)) (za_cons (zo_v (ze_var 6)) (za_cons (zo_v (ze_var 7)) (za_cons (zo_v (ze_var 9)) za_nil)))))) za_nil))))))))))))))
     (zss_cons (zs_set (i := 10) nd rfl (by first | exact Or.inl rfl | exact Or.inr rfl) (by decide) (ze_lst za_nil))
     (zss_cons (zs_pin 3 (zs_for PassesOwn.never rfl (zi_slot 3 (by decide)) (zg_name (i := 11) nd rfl (by first | exact Or.inl rfl | exact Or.inr rfl) (by decide))
     (zss_one (zs_expr (ze_mut 10 PySem.F.slot_list_insert PySem.F.type_list_insert mt_insert mut_insert (za_cons (zo_v (ze_callC k_law_draw hgd (hr.mono (by decide)) (by rfl) (za_cons (zo_s 0) (za_cons (zo_v (ze_op2 or_add op2_add (zo_v (ze_callB call_len opn_len (by rfl) g.b_len (by decide +kernel) (za_cons (zo_s 10) za_nil))) (zo_v ze_int))) za_nil)))) (za_cons (zo_v (ze_var 11)) za_nil)))))))
     (zss_one (zs_ret (ze_tup (za_cons (zo_v (ze_var 10)) (za_cons (zo_v (ze_var 2)) za_nil))))))))))))
abbrev s_law_all : Stmt := topS 31
theorem sc_law_all : FnScope ["tasks", "orders", "row", "grown", "order", "at"] ["tasks"] (defScope s_law_all) := ⟨rfl, rfl, rfl, by decide +kernel, rfl, by decide +kernel, by decide +kernel⟩
theorem ok_law_all {f : Addr} {fd : FuncData} (Fn : Fun K "_law_all" "_law_all" s_law_all f fd) (g : Gx K mg)  (len : ∀ ts P, sp_law_all ts P → ts.length = 1) (red : ∀ ts P, sp_law_all ts P → w_law_all (fin pm_law_all ts P) (Zl.entry 6 ts)) :
    FnG P w K mg base 1 f fd ["tasks"] (spOf K sp_law_all) := by
  refine z_funG pm_law_all Fn sc_law_all rfl len fun cdv hcd A outer s H E hgd hr => ⟨w_law_all, ?_, red⟩
  have hu := hr.units
  have hu5 := room65 hr
  have nd := (sc_law_all).nd
  exact (zss_cons (zs_set (i := 1) nd rfl (by first | exact Or.inl rfl | exact Or.inr rfl) (by decide) (ze_lst (za_cons (zo_v (ze_lst za_nil)) za_nil)))
     (zss_cons (zs_for PassesOwn.never rfl (zi_slot 0 (by decide)) (zg_name (i := 2) nd rfl (by first | exact Or.inl rfl | exact Or.inr rfl) (by decide))
     (zss_cons (zs_set (i := 3) nd rfl (by first | exact Or.inl rfl | exact Or.inr rfl) (by decide) (ze_lst za_nil))
     (zss_cons (zs_pin 1 (zs_for PassesOwn.never rfl (zi_slot 1 (by decide)) (zg_name (i := 4) nd rfl (by first | exact Or.inl rfl | exact Or.inr rfl) (by decide))
     (zss_one (zs_for PassesOwn.never rfl (zi_rng1 (by rfl) g.b_range (za_cons (zo_v (ze_op2 or_add op2_add (zo_v (ze_callB call_len opn_len (by rfl) g.b_len (by decide +kernel) (za_cons (zo_s 4) za_nil))) (zo_v ze_int))) za_nil)) (zg_name (i := 5) nd rfl (by first | exact Or.inl rfl | exact Or.inr rfl) (by decide))
     (zss_one (zs_expr (ze_mut 3 PySem.F.slot_list_append PySem.F.type_list_append mt_append mut_append (za_cons (zo_v (ze_op2 or_add op2_add (zo_v (ze_op2 or_add op2_add (zo_v (ze_sl (zo_s 4) pz_none (pz_some (zo_s 5)))) (zo_v (ze_lst (za_cons (zo_v (ze_var 2)) za_nil))))) (zo_v (ze_sl (zo_s 4) (pz_some (zo_s 5)) pz_none)))) za_nil))))))))
     (zss_one (zs_set (i := 1) nd rfl (by first | exact Or.inl rfl | exact Or.inr rfl) (by decide) (ze_mov 3))))))
     (zss_one (zs_ret (ze_mov 1)))))
abbrev s_law_late : Stmt := topS 32
theorem sc_law_late : FnScope ["order", "blocked", "k"] ["order", "blocked"] (defScope s_law_late) := ⟨rfl, rfl, rfl, by decide +kernel, rfl, by decide +kernel, by decide +kernel⟩
theorem ok_law_late {f : Addr} {fd : FuncData} (Fn : Fun K "_law_late" "_law_late" s_law_late f fd) (g : Gx K mg) (k_law_keeps : Cal P w K mg base "_law_keeps" 2 ["task", "above", "blocked"] sp_law_keeps) (len : ∀ ts P, sp_law_late ts P → ts.length = 2) (red : ∀ ts P, sp_law_late ts P → w_law_late (fin pm_law_late ts P) (Zl.entry 3 ts)) :
    FnG P w K mg base 3 f fd ["order", "blocked"] (spOf K sp_law_late) := by
  refine z_funG pm_law_late Fn sc_law_late rfl len fun cdv hcd A outer s H E hgd hr => ⟨w_law_late, ?_, red⟩
  have hu := hr.units
  have hu5 := room65 hr
  have nd := (sc_law_late).nd
  exact (zss_cons (zs_for PassesOwn.never rfl (zi_rng1 (by rfl) g.b_range (za_cons (zo_v (ze_callB call_len opn_len (by rfl) g.b_len (by decide +kernel) (za_cons (zo_s 0) za_nil))) za_nil)) (zg_name (i := 2) nd rfl (by first | exact Or.inl rfl | exact Or.inr rfl) (by decide))
     (zss_one (zs_if (zt_not (zt_val (ze_callC k_law_keeps hgd (hr.mono (by decide)) (by rfl) (za_cons (zo_v (ze_ix (ix_all hu) op2_ixAll (zo_s 0) (zo_s 2) (fun _ _ => rfl))) (za_cons (zo_v (ze_sl (zo_s 0) pz_none (pz_some (zo_s 2)))) (za_cons (zo_s 1) za_nil))))))
     (zss_one (zs_ret (ze_mov 2)))
     zss_nil)))
     (zss_one (zs_ret (ze_un un_neg op1_neg (zo_v ze_int)))))
abbrev s_law_by_limits : Stmt := topS 33
theorem sc_law_by_limits : FnScope ["tasks", "found", "limit", "row"] ["tasks"] (defScope s_law_by_limits) := ⟨rfl, rfl, rfl, by decide +kernel, rfl, by decide +kernel, by decide +kernel⟩
theorem ok_law_by_limits {f : Addr} {fd : FuncData} (Fn : Fun K "_law_by_limits" "_law_by_limits" s_law_by_limits f fd) (g : Gx K mg)  (len : ∀ ts P, sp_law_by_limits ts P → ts.length = 1) (red : ∀ ts P, sp_law_by_limits ts P → w_law_by_limits (fin pm_law_by_limits ts P) (Zl.entry 4 ts)) :
    FnG P w K mg base 1 f fd ["tasks"] (spOf K sp_law_by_limits) := by
  refine z_funG pm_law_by_limits Fn sc_law_by_limits rfl len fun cdv hcd A outer s H E hgd hr => ⟨w_law_by_limits, ?_, red⟩
  have hu := hr.units
  have hu5 := room65 hr
  have nd := (sc_law_by_limits).nd
  exact (zss_cons (zs_set (i := 1) nd rfl (by first | exact Or.inl rfl | exact Or.inr rfl) (by decide) (ze_lst za_nil))
     (zss_cons (zs_for PassesOwn.never rfl (zi_rng2 (by rfl) g.b_range (za_cons (zo_v ze_int) (za_cons (zo_v ze_int) za_nil))) (zg_name (i := 2) nd rfl (by first | exact Or.inl rfl | exact Or.inr rfl) (by decide))
     (zss_one (zs_set (i := 1) nd rfl (by first | exact Or.inl rfl | exact Or.inr rfl) (by decide) (ze_op2 or_add op2_add (zo_s 1) (zo_v (ze_lc (own := [("row", 3)]) rfl nd (zi_slot 0 (by decide)) (blkOk_by (by rfl)) (fun _ _ _ _ _ => (zg_name (i := 3) nd rfl (by first | exact Or.inl rfl | exact Or.inr rfl) (by decide))) (fun _ _ _ _ _ => (zts_one (zt_cmp (or_eq hu) op2_eq (zo_v (ze_ix (ix_all hu) op2_ixAll (zo_s 3) (zo_v ze_int) (fun _ _ => rfl))) (zo_s 2) (nomark _)))) (fun _ _ _ _ _ => (ze_var 3)) (by decide) (by decide)))))))
     (zss_one (zs_ret (ze_mov 1)))))
abbrev s_law_lowest : Stmt := topS 34
theorem sc_law_lowest : FnScope ["tasks", "blocked", "left", "found", "turn", "chosen", "k"] ["tasks", "blocked"] (defScope s_law_lowest) := ⟨rfl, rfl, rfl, by decide +kernel, rfl, by decide +kernel, by decide +kernel⟩
theorem ok_law_lowest {f : Addr} {fd : FuncData} (Fn : Fun K "_law_lowest" "_law_lowest" s_law_lowest f fd) (g : Gx K mg) (k_law_keeps : Cal P w K mg base "_law_keeps" 2 ["task", "above", "blocked"] sp_law_keeps) (len : ∀ ts P, sp_law_lowest ts P → ts.length = 2) (red : ∀ ts P, sp_law_lowest ts P → w_law_lowest (fin pm_law_lowest ts P) (Zl.entry 7 ts)) :
    FnG P w K mg base 3 f fd ["tasks", "blocked"] (spOf K sp_law_lowest) := by
  refine z_funG pm_law_lowest Fn sc_law_lowest rfl len fun cdv hcd A outer s H E hgd hr => ⟨w_law_lowest, ?_, red⟩
  have hu := hr.units
  have hu5 := room65 hr
  have nd := (sc_law_lowest).nd
  exact (zss_cons (zs_set (i := 2) nd rfl (by first | exact Or.inl rfl | exact Or.inr rfl) (by decide) (ze_callTy call_list_of opn_list (by rfl) g.b_list (by decide +kernel) (za_cons (zo_s 0) za_nil)))
     (zss_cons (zs_set (i := 3) nd rfl (by first | exact Or.inl rfl | exact Or.inr rfl) (by decide) (ze_lst za_nil))
     (zss_cons (zs_for PassesOwn.never rfl (zi_rng1 (by rfl) g.b_range (za_cons (zo_v (ze_callB call_len opn_len (by rfl) g.b_len (by decide +kernel) (za_cons (zo_s 0) za_nil))) za_nil)) (zg_name (i := 4) nd rfl (by first | exact Or.inl rfl | exact Or.inr rfl) (by decide))
     (zss_cons (zs_set (i := 5) nd rfl (by first | exact Or.inl rfl | exact Or.inr rfl) (by decide) (ze_un un_neg op1_neg (zo_v ze_int)))
     (zss_cons (zs_for PassesOwn.never rfl (zi_rng1 (by rfl) g.b_range (za_cons (zo_v (ze_callB call_len opn_len (by rfl) g.b_len (by decide +kernel) (za_cons (zo_s 2) za_nil))) za_nil)) (zg_name (i := 6) nd rfl (by first | exact Or.inl rfl | exact Or.inr rfl) (by decide))
     (zss_one (zs_if (zt_val (ze_callC k_law_keeps hgd (hr.mono (by decide)) (by rfl) (za_cons (zo_v (ze_ix (ix_all hu) op2_ixAll (zo_s 2) (zo_s 6) (fun _ _ => rfl))) (za_cons (zo_v (ze_op2 or_add op2_add (zo_v (ze_sl (zo_s 2) pz_none (pz_some (zo_s 6)))) (zo_v (ze_sl (zo_s 2) (pz_some (zo_v (ze_op2 or_add op2_add (zo_s 6) (zo_v ze_int)))) pz_none)))) (za_cons (zo_s 1) za_nil)))))
     (zss_one (zs_set (i := 5) nd rfl (by first | exact Or.inl rfl | exact Or.inr rfl) (by decide) (ze_var 6)))
     zss_nil)))
     (zss_cons (zs_if (zt_cmp op_lt (op2_cmp _) (zo_s 5) (zo_v ze_int) (nomark _))
     (zss_one (zs_ret ze_non))
     zss_nil)
     (zss_cons (zs_set (i := 3) nd rfl (by first | exact Or.inl rfl | exact Or.inr rfl) (by decide) (ze_op2 or_add op2_add (zo_v (ze_lst (za_cons (zo_v (ze_ix (ix_all hu) op2_ixAll (zo_s 2) (zo_s 5) (fun _ _ => rfl))) za_nil))) (zo_s 3)))
     (zss_one (zs_set (i := 2) nd rfl (by first | exact Or.inl rfl | exact Or.inr rfl) (by decide) (ze_op2 or_add op2_add (zo_v (ze_sl (zo_s 2) pz_none (pz_some (zo_s 5)))) (zo_v (ze_sl (zo_s 2) (pz_some (zo_v (ze_op2 or_add op2_add (zo_s 5) (zo_v ze_int)))) pz_none))))))))))
     (zss_one (zs_ret (ze_mov 3))))))
abbrev s_law_dues : Stmt := topS 35
theorem sc_law_dues : FnScope ["tasks", "blocked", "row", "kept", "order", "lowest", "late", "best", "first"] ["tasks", "blocked"] (defScope s_law_dues) := ⟨rfl, rfl, rfl, by decide +kernel, rfl, by decide +kernel, by decide +kernel⟩
theorem ok_law_dues {f : Addr} {fd : FuncData} (Fn : Fun K "_law_dues" "_law_dues" s_law_dues f fd) (g : Gx K mg) (k_law_by_limits : Cal P w K mg base "_law_by_limits" 1 ["tasks"] sp_law_by_limits) (k_law_all : Cal P w K mg base "_law_all" 1 ["tasks"] sp_law_all) (k_law_late : Cal P w K mg base "_law_late" 3 ["order", "blocked"] sp_law_late) (k_law_lowest : Cal P w K mg base "_law_lowest" 3 ["tasks", "blocked"] sp_law_lowest) (len : ∀ ts P, sp_law_dues ts P → ts.length = 2) (red : ∀ ts P, sp_law_dues ts P → w_law_dues (fin pm_law_dues ts P) (Zl.entry 9 ts)) :
    FnG P w K mg base 4 f fd ["tasks", "blocked"] (spOf K sp_law_dues) := by
  refine z_funG pm_law_dues Fn sc_law_dues rfl len fun cdv hcd A outer s H E hgd hr => ⟨w_law_dues, ?_, red⟩
  have hu := hr.units
  have hu5 := room65 hr
  have nd := (sc_law_dues).nd
  exact (zss_cons (zs_set (i := 2) nd rfl (by first | exact Or.inl rfl | exact Or.inr rfl) (by decide) (ze_lk (ze_callC k_law_by_limits hgd (hr.mono (by decide)) (by rfl) (za_cons (zo_s 0) za_nil))))
     (zss_cons (zs_setLc (own := [("order", 4)]) (i := 3) rfl nd rfl rfl (by decide) (sw_true rfl rfl rfl (by decide +kernel)) (zi_val (ze_callC k_law_all hgd (hr.mono (by decide)) (by rfl) (za_cons (zo_s 0) za_nil))) (blkOk_by (by rfl)) (fun _ _ _ _ _ => (zg_name (i := 4) nd rfl (by first | exact Or.inl rfl | exact Or.inr rfl) (by decide))) (fun _ _ _ _ _ => (zts_one (zt_cmp op_lt (op2_cmp _) (zo_v (ze_callC k_law_late hgd (hr.mono (by decide)) (by rfl) (za_cons (zo_s 4) (za_cons (zo_s 1) za_nil)))) (zo_v ze_int) (nomark _)))) (fun _ _ _ _ _ => (ze_var 4)) (by decide) (by decide))
     (zss_cons (zs_set (i := 5) nd rfl (by first | exact Or.inl rfl | exact Or.inr rfl) (by decide) (ze_callC k_law_lowest hgd (hr.mono (by decide)) (by rfl) (za_cons (zo_s 0) (za_cons (zo_s 1) za_nil))))
     (zss_cons (zs_if (zt_cmp (or_ne hu) op2_ne (zo_v (ze_cmp op_gt (op2_cmp _) (zo_v (ze_callB call_len opn_len (by rfl) g.b_len (by decide +kernel) (za_cons (zo_s 3) za_nil))) (zo_v ze_int) (nomark _))) (zo_v (ze_cmp or_isnot op2_isnot (zo_s 5) (zo_v ze_non) (nomark _))) (nomark _))
     (zss_one (zs_ret ze_non))
     zss_nil)
     (zss_cons (zs_set (i := 6) nd rfl (by first | exact Or.inl rfl | exact Or.inr rfl) (by decide) (ze_callC k_law_late hgd (hr.mono (by decide)) (by rfl) (za_cons (zo_s 2) (za_cons (zo_s 1) za_nil))))
     (zss_cons (zs_set (i := 7) nd rfl (by first | exact Or.inl rfl | exact Or.inr rfl) (by decide) (ze_var 2))
     (zss_cons (zs_set (i := 8) nd rfl (by first | exact Or.inl rfl | exact Or.inr rfl) (by decide) ze_non)
     (zss_cons (zs_if (zt_cmp (or_eq hu) op2_eq (zo_v (ze_callB call_len opn_len (by rfl) g.b_len (by decide +kernel) (za_cons (zo_s 3) za_nil))) (zo_v ze_int) (nomark _))
     (zss_one (zs_set (i := 7) nd rfl (by first | exact Or.inl rfl | exact Or.inr rfl) (by decide) ze_non))
     zss_nil)
     (zss_cons (zs_if (zt_cmp op_ge (op2_cmp _) (zo_s 6) (zo_v ze_int) (nomark _))
     (zss_one (zs_set (i := 8) nd rfl (by first | exact Or.inl rfl | exact Or.inr rfl) (by decide) (ze_ix (ix_all hu) op2_ixAll (zo_v (ze_ix (ix_all hu) op2_ixAll (zo_s 2) (zo_s 6) (fun _ _ => rfl))) (zo_v ze_int) (fun _ _ => rfl))))
     zss_nil)
     (zss_one (zs_ret (ze_lst (za_cons (zo_v (ze_var 2)) (za_cons (zo_v (ze_cmp op_lt (op2_cmp _) (zo_v (ze_callC k_law_late hgd (hr.mono (by decide)) (by rfl) (za_cons (zo_s 0) (za_cons (zo_s 1) za_nil)))) (zo_v ze_int) (nomark _))) (za_cons (zo_v (ze_var 7)) (za_cons (zo_v (ze_var 8)) (za_cons (zo_v (ze_var 5)) za_nil)))))))))))))))))
abbrev s_law_asked : Stmt := topS 36
theorem sc_law_asked : FnScope ["way", "tasks", "blocked"] ["way", "tasks", "blocked"] (defScope s_law_asked) := ⟨rfl, rfl, rfl, by decide +kernel, rfl, by decide +kernel, by decide +kernel⟩
theorem ok_law_asked {f : Addr} {fd : FuncData} (Fn : Fun K "_law_asked" "_law_asked" s_law_asked f fd) (g : Gx K mg) (k_by_limits : Cal P w K mg base "by_limits" 3 ["tasks"] sp_by_limits) (k_keeps_limits : Cal P w K mg base "keeps_limits" 5 ["tasks", "blocked"] sp_keeps_limits) (k_best_order : Cal P w K mg base "best_order" 5 ["tasks", "blocked"] sp_best_order) (k_breaking : Cal P w K mg base "breaking" 5 ["tasks", "blocked"] sp_breaking) (k_lowest_first : Cal P w K mg base "lowest_first" 5 ["tasks", "blocked"] sp_lowest_first) (len : ∀ ts P, sp_law_asked ts P → ts.length = 3) (red : ∀ ts P, sp_law_asked ts P → w_law_asked (fin pm_law_asked ts P) (Zl.entry 3 ts)) :
    FnG P w K mg base 6 f fd ["way", "tasks", "blocked"] (spOf K sp_law_asked) := by
  refine z_funG pm_law_asked Fn sc_law_asked rfl len fun cdv hcd A outer s H E hgd hr => ⟨w_law_asked, ?_, red⟩
  have hu := hr.units
  have hu5 := room65 hr
  have nd := (sc_law_asked).nd
  exact (zss_cons (zs_if (zt_cmp (or_eq hu) op2_eq (zo_s 0) (zo_v ze_int) (nomark _))
     (zss_one (zs_ret (ze_callC k_by_limits hgd (hr.mono (by decide)) (by rfl) (za_cons (zo_s 1) za_nil))))
     zss_nil)
     (zss_cons (zs_if (zt_cmp (or_eq hu) op2_eq (zo_s 0) (zo_v ze_int) (nomark _))
     (zss_one (zs_ret (ze_callC k_keeps_limits hgd (hr.mono (by decide)) (by rfl) (za_cons (zo_s 1) (za_cons (zo_s 2) za_nil)))))
     zss_nil)
     (zss_cons (zs_if (zt_cmp (or_eq hu) op2_eq (zo_s 0) (zo_v ze_int) (nomark _))
     (zss_one (zs_ret (ze_callC k_best_order hgd (hr.mono (by decide)) (by rfl) (za_cons (zo_s 1) (za_cons (zo_s 2) za_nil)))))
     zss_nil)
     (zss_cons (zs_if (zt_cmp (or_eq hu) op2_eq (zo_s 0) (zo_v ze_int) (nomark _))
     (zss_one (zs_ret (ze_callC k_breaking hgd (hr.mono (by decide)) (by rfl) (za_cons (zo_s 1) (za_cons (zo_s 2) za_nil)))))
     zss_nil)
     (zss_one (zs_ret (ze_callC k_lowest_first hgd (hr.mono (by decide)) (by rfl) (za_cons (zo_s 1) (za_cons (zo_s 2) za_nil)))))))))
abbrev s_law : Stmt := topS 37
theorem sc_law : FnScope ["script", "rows", "start", "tasks", "blocked", "dues", "turn", "way", "handed", "told"] ["script"] (defScope s_law) := ⟨rfl, rfl, rfl, by decide +kernel, rfl, by decide +kernel, by decide +kernel⟩
theorem ok_law {f : Addr} {fd : FuncData} (Fn : Fun K "law" "law" s_law f fd) (g : Gx K mg) (k_law_tape : Cal P w K mg base "_law_tape" 1 ["script"] sp_law_tape) (k_law_draw : Cal P w K mg base "_law_draw" 1 ["rows", "size"] sp_law_draw) (k_law_row : Cal P w K mg base "_law_row" 3 ["rows"] sp_law_row) (k_law_dues : Cal P w K mg base "_law_dues" 4 ["tasks", "blocked"] sp_law_dues) (k_law_asked : Cal P w K mg base "_law_asked" 6 ["way", "tasks", "blocked"] sp_law_asked) (k_keeps_limits : Cal P w K mg base "keeps_limits" 5 ["tasks", "blocked"] sp_keeps_limits) (len : ∀ ts P, sp_law ts P → ts.length = 1) (red : ∀ ts P, sp_law ts P → w_law (fin pm_law ts P) (Zl.entry 10 ts)) :
    FnG P w K mg base 7 f fd ["script"] (spOf K sp_law) := by
  refine z_funG pm_law Fn sc_law rfl len fun cdv hcd A outer s H E hgd hr => ⟨w_law, ?_, red⟩
  have hu := hr.units
  have hu5 := room65 hr
  have nd := (sc_law).nd
  exact (zss_cons (zs_set (i := 1) nd rfl (by first | exact Or.inl rfl | exact Or.inr rfl) (by decide) (ze_callC k_law_tape hgd (hr.mono (by decide)) (by rfl) (za_cons (zo_s 0) za_nil)))
     (zss_cons (zs_set (i := 2) nd rfl (by first | exact Or.inl rfl | exact Or.inr rfl) (by decide) (ze_callC k_law_draw hgd (hr.mono (by decide)) (by rfl) (za_cons (zo_s 1) (za_cons (zo_v ze_int) za_nil))))
     (zss_cons (zs_asg (ze_callC k_law_row hgd (hr.mono (by decide)) (by rfl) (za_cons (zo_s 1) za_nil)) (zg_tup (n := 2) rfl (zgs_cons (zg_name (i := 3) nd rfl (by first | exact Or.inl rfl | exact Or.inr rfl) (by decide)) (zgs_cons (zg_name (i := 4) nd rfl (by first | exact Or.inl rfl | exact Or.inr rfl) (by decide)) zgs_nil)) (zgn_len (zgn_len zgn_nil))))
     (zss_cons (zs_set (i := 5) nd rfl (by first | exact Or.inl rfl | exact Or.inr rfl) (by decide) (ze_callC k_law_dues hgd (hr.mono (by decide)) (by rfl) (za_cons (zo_s 3) (za_cons (zo_s 4) za_nil))))
     (zss_cons (zs_if (zt_cmp or_is op2_is (zo_s 5) (zo_v ze_non) (nomark _))
     (zss_one (zs_ret ze_bl))
     zss_nil)
     (zss_cons (zs_for PassesOwn.never rfl (zi_rng1 (by rfl) g.b_range (za_cons (zo_v ze_int) za_nil)) (zg_name (i := 6) nd rfl (by first | exact Or.inl rfl | exact Or.inr rfl) (by decide))
     (zss_cons (zs_set (i := 7) nd rfl (by first | exact Or.inl rfl | exact Or.inr rfl) (by decide) (ze_op2 op_modN op2_mod (zo_v (ze_callTy call_int1 opn_int (by rfl) g.b_int (by decide +kernel) (za_cons (zo_v (ze_op2 or_add op2_add (zo_s 2) (zo_v (ze_op2 or_mul op2_mul (zo_v ze_int) (zo_s 6))))) za_nil))) (zo_v ze_int)))
     (zss_cons (zs_set (i := 8) nd rfl (by first | exact Or.inl rfl | exact Or.inr rfl) (by decide) (ze_callTy call_list_of opn_list (by rfl) g.b_list (by decide +kernel) (za_cons (zo_s 3) za_nil)))
     (zss_cons (zs_set (i := 9) nd rfl (by first | exact Or.inl rfl | exact Or.inr rfl) (by decide) (ze_callC k_law_asked hgd (hr.mono (by decide)) (by rfl) (za_cons (zo_s 7) (za_cons (zo_s 8) (za_cons (zo_s 4) za_nil)))))
     (zss_cons (zs_if (zt_w (zw_or (zt_cmp (or_ne hu) op2_ne (zo_v (ze_callB (cr_repr hgd hu) opn_repr (by rfl) g.b_repr (by decide +kernel) (za_cons (zo_s 9) za_nil))) (zo_v (ze_callB (cr_repr hgd hu) opn_repr (by rfl) g.b_repr (by decide +kernel) (za_cons (zo_v (ze_ix (ix_all hu) op2_ixAll (zo_s 5) (zo_s 7) (fun _ _ => rfl))) za_nil))) (nomark _)) (zw_or1 (zt_cmp (or_ne hu) op2_ne (zo_v (ze_callB (cr_repr hgd hu) opn_repr (by rfl) g.b_repr (by decide +kernel) (za_cons (zo_s 8) za_nil))) (zo_v (ze_callB (cr_repr hgd hu) opn_repr (by rfl) g.b_repr (by decide +kernel) (za_cons (zo_s 3) za_nil))) (nomark _)))))
     (zss_one (zs_ret ze_bl))
     zss_nil)
     (zss_cons (zs_if (zt_val (ze_callB call_isi opn_isi (by rfl) g.b_isinstance (by decide +kernel) (za_cons (zo_s 9) (za_cons (zo_v (ze_ty (by rfl) g.b_list (by decide +kernel))) za_nil))))
     (zss_cons (zs_if (zt_w (zw_and (zt_cmp op_gt (op2_cmp _) (zo_s 7) (zo_v ze_int) (nomark _)) (zw_and1 (zt_cmp or_isnot op2_isnot (zo_v (ze_callC k_keeps_limits hgd (hr.mono (by decide)) (by rfl) (za_cons (zo_v (ze_callTy call_list_of opn_list (by rfl) g.b_list (by decide +kernel) (za_cons (zo_s 9) za_nil))) (za_cons (zo_s 4) za_nil)))) (zo_v ze_bl) (nomark _)))))
     (zss_one (zs_ret ze_bl))
     zss_nil)
     (zss_one (zs_expr (ze_mut 9 PySem.F.slot_list_append PySem.F.type_list_append mt_append mut_append (za_cons (zo_v (ze_tup (za_cons (zo_v ze_str) (za_cons (zo_v ze_int) (za_cons (zo_v ze_int) (za_cons (zo_v ze_int) za_nil)))))) za_nil)))))
     zss_nil)
     (zss_one (zs_expr (ze_mut 8 PySem.F.slot_list_insert PySem.F.type_list_insert mt_insert mut_insert (za_cons (zo_v ze_int) (za_cons (zo_v (ze_tup (za_cons (zo_v ze_str) (za_cons (zo_v ze_int) (za_cons (zo_v ze_int) (za_cons (zo_v ze_int) za_nil)))))) za_nil)))))))))))
     (zss_one (zs_ret ze_bl))))))))
end

theorem len_is_name : ∀ ts P, sp_is_name ts P → ts.length = 1 := by intro ts P h; first | (obtain ⟨_, rfl, _⟩ := h; rfl) | (obtain ⟨_, _, rfl, _⟩ := h; rfl) | (obtain ⟨_, _, _, rfl, _⟩ := h; rfl) | (obtain ⟨_, _, _, _, rfl, _⟩ := h; rfl) | (obtain ⟨_, _, _, _, _, rfl, _⟩ := h; rfl) | (obtain ⟨_, _, _, _, _, _, rfl, _⟩ := h; rfl) | (obtain ⟨_, _, _, _, _, _, _, rfl, _⟩ := h; rfl) | (obtain ⟨_, _, _, _, _, _, _, _, rfl, _⟩ := h; rfl) | (obtain ⟨_, _, _, _, _, _, _, _, _, rfl, _⟩ := h; rfl) | (obtain ⟨_, _, _, _, _, _, _, _, _, _, rfl, _⟩ := h; rfl) | (obtain ⟨_, _, _, _, _, _, _, _, _, _, _, rfl, _⟩ := h; rfl) | (obtain ⟨_, _, _, _, _, _, _, _, _, _, _, _, rfl, _⟩ := h; rfl) | (obtain ⟨_, _, _, _, _, _, _, _, _, _, _, _, _, rfl, _⟩ := h; rfl)
theorem len_numbers_fit : ∀ ts P, sp_numbers_fit ts P → ts.length = 3 := by intro ts P h; first | (obtain ⟨_, rfl, _⟩ := h; rfl) | (obtain ⟨_, _, rfl, _⟩ := h; rfl) | (obtain ⟨_, _, _, rfl, _⟩ := h; rfl) | (obtain ⟨_, _, _, _, rfl, _⟩ := h; rfl) | (obtain ⟨_, _, _, _, _, rfl, _⟩ := h; rfl) | (obtain ⟨_, _, _, _, _, _, rfl, _⟩ := h; rfl) | (obtain ⟨_, _, _, _, _, _, _, rfl, _⟩ := h; rfl) | (obtain ⟨_, _, _, _, _, _, _, _, rfl, _⟩ := h; rfl) | (obtain ⟨_, _, _, _, _, _, _, _, _, rfl, _⟩ := h; rfl) | (obtain ⟨_, _, _, _, _, _, _, _, _, _, rfl, _⟩ := h; rfl) | (obtain ⟨_, _, _, _, _, _, _, _, _, _, _, rfl, _⟩ := h; rfl) | (obtain ⟨_, _, _, _, _, _, _, _, _, _, _, _, rfl, _⟩ := h; rfl) | (obtain ⟨_, _, _, _, _, _, _, _, _, _, _, _, _, rfl, _⟩ := h; rfl)
theorem len_needed : ∀ ts P, sp_needed ts P → ts.length = 4 := by intro ts P h; first | (obtain ⟨_, rfl, _⟩ := h; rfl) | (obtain ⟨_, _, rfl, _⟩ := h; rfl) | (obtain ⟨_, _, _, rfl, _⟩ := h; rfl) | (obtain ⟨_, _, _, _, rfl, _⟩ := h; rfl) | (obtain ⟨_, _, _, _, _, rfl, _⟩ := h; rfl) | (obtain ⟨_, _, _, _, _, _, rfl, _⟩ := h; rfl) | (obtain ⟨_, _, _, _, _, _, _, rfl, _⟩ := h; rfl) | (obtain ⟨_, _, _, _, _, _, _, _, rfl, _⟩ := h; rfl) | (obtain ⟨_, _, _, _, _, _, _, _, _, rfl, _⟩ := h; rfl) | (obtain ⟨_, _, _, _, _, _, _, _, _, _, rfl, _⟩ := h; rfl) | (obtain ⟨_, _, _, _, _, _, _, _, _, _, _, rfl, _⟩ := h; rfl) | (obtain ⟨_, _, _, _, _, _, _, _, _, _, _, _, rfl, _⟩ := h; rfl) | (obtain ⟨_, _, _, _, _, _, _, _, _, _, _, _, _, rfl, _⟩ := h; rfl)
theorem len_law_tape : ∀ ts P, sp_law_tape ts P → ts.length = 1 := by intro ts P h; first | (obtain ⟨_, rfl, _⟩ := h; rfl) | (obtain ⟨_, _, rfl, _⟩ := h; rfl) | (obtain ⟨_, _, _, rfl, _⟩ := h; rfl) | (obtain ⟨_, _, _, _, rfl, _⟩ := h; rfl) | (obtain ⟨_, _, _, _, _, rfl, _⟩ := h; rfl) | (obtain ⟨_, _, _, _, _, _, rfl, _⟩ := h; rfl) | (obtain ⟨_, _, _, _, _, _, _, rfl, _⟩ := h; rfl) | (obtain ⟨_, _, _, _, _, _, _, _, rfl, _⟩ := h; rfl) | (obtain ⟨_, _, _, _, _, _, _, _, _, rfl, _⟩ := h; rfl) | (obtain ⟨_, _, _, _, _, _, _, _, _, _, rfl, _⟩ := h; rfl) | (obtain ⟨_, _, _, _, _, _, _, _, _, _, _, rfl, _⟩ := h; rfl) | (obtain ⟨_, _, _, _, _, _, _, _, _, _, _, _, rfl, _⟩ := h; rfl) | (obtain ⟨_, _, _, _, _, _, _, _, _, _, _, _, _, rfl, _⟩ := h; rfl)
theorem len_law_draw : ∀ ts P, sp_law_draw ts P → ts.length = 2 := by intro ts P h; first | (obtain ⟨_, rfl, _⟩ := h; rfl) | (obtain ⟨_, _, rfl, _⟩ := h; rfl) | (obtain ⟨_, _, _, rfl, _⟩ := h; rfl) | (obtain ⟨_, _, _, _, rfl, _⟩ := h; rfl) | (obtain ⟨_, _, _, _, _, rfl, _⟩ := h; rfl) | (obtain ⟨_, _, _, _, _, _, rfl, _⟩ := h; rfl) | (obtain ⟨_, _, _, _, _, _, _, rfl, _⟩ := h; rfl) | (obtain ⟨_, _, _, _, _, _, _, _, rfl, _⟩ := h; rfl) | (obtain ⟨_, _, _, _, _, _, _, _, _, rfl, _⟩ := h; rfl) | (obtain ⟨_, _, _, _, _, _, _, _, _, _, rfl, _⟩ := h; rfl) | (obtain ⟨_, _, _, _, _, _, _, _, _, _, _, rfl, _⟩ := h; rfl) | (obtain ⟨_, _, _, _, _, _, _, _, _, _, _, _, rfl, _⟩ := h; rfl) | (obtain ⟨_, _, _, _, _, _, _, _, _, _, _, _, _, rfl, _⟩ := h; rfl)
theorem len_law_response : ∀ ts P, sp_law_response ts P → ts.length = 3 := by intro ts P h; first | (obtain ⟨_, rfl, _⟩ := h; rfl) | (obtain ⟨_, _, rfl, _⟩ := h; rfl) | (obtain ⟨_, _, _, rfl, _⟩ := h; rfl) | (obtain ⟨_, _, _, _, rfl, _⟩ := h; rfl) | (obtain ⟨_, _, _, _, _, rfl, _⟩ := h; rfl) | (obtain ⟨_, _, _, _, _, _, rfl, _⟩ := h; rfl) | (obtain ⟨_, _, _, _, _, _, _, rfl, _⟩ := h; rfl) | (obtain ⟨_, _, _, _, _, _, _, _, rfl, _⟩ := h; rfl) | (obtain ⟨_, _, _, _, _, _, _, _, _, rfl, _⟩ := h; rfl) | (obtain ⟨_, _, _, _, _, _, _, _, _, _, rfl, _⟩ := h; rfl) | (obtain ⟨_, _, _, _, _, _, _, _, _, _, _, rfl, _⟩ := h; rfl) | (obtain ⟨_, _, _, _, _, _, _, _, _, _, _, _, rfl, _⟩ := h; rfl) | (obtain ⟨_, _, _, _, _, _, _, _, _, _, _, _, _, rfl, _⟩ := h; rfl)
theorem len_law_all : ∀ ts P, sp_law_all ts P → ts.length = 1 := by intro ts P h; first | (obtain ⟨_, rfl, _⟩ := h; rfl) | (obtain ⟨_, _, rfl, _⟩ := h; rfl) | (obtain ⟨_, _, _, rfl, _⟩ := h; rfl) | (obtain ⟨_, _, _, _, rfl, _⟩ := h; rfl) | (obtain ⟨_, _, _, _, _, rfl, _⟩ := h; rfl) | (obtain ⟨_, _, _, _, _, _, rfl, _⟩ := h; rfl) | (obtain ⟨_, _, _, _, _, _, _, rfl, _⟩ := h; rfl) | (obtain ⟨_, _, _, _, _, _, _, _, rfl, _⟩ := h; rfl) | (obtain ⟨_, _, _, _, _, _, _, _, _, rfl, _⟩ := h; rfl) | (obtain ⟨_, _, _, _, _, _, _, _, _, _, rfl, _⟩ := h; rfl) | (obtain ⟨_, _, _, _, _, _, _, _, _, _, _, rfl, _⟩ := h; rfl) | (obtain ⟨_, _, _, _, _, _, _, _, _, _, _, _, rfl, _⟩ := h; rfl) | (obtain ⟨_, _, _, _, _, _, _, _, _, _, _, _, _, rfl, _⟩ := h; rfl)
theorem len_law_by_limits : ∀ ts P, sp_law_by_limits ts P → ts.length = 1 := by intro ts P h; first | (obtain ⟨_, rfl, _⟩ := h; rfl) | (obtain ⟨_, _, rfl, _⟩ := h; rfl) | (obtain ⟨_, _, _, rfl, _⟩ := h; rfl) | (obtain ⟨_, _, _, _, rfl, _⟩ := h; rfl) | (obtain ⟨_, _, _, _, _, rfl, _⟩ := h; rfl) | (obtain ⟨_, _, _, _, _, _, rfl, _⟩ := h; rfl) | (obtain ⟨_, _, _, _, _, _, _, rfl, _⟩ := h; rfl) | (obtain ⟨_, _, _, _, _, _, _, _, rfl, _⟩ := h; rfl) | (obtain ⟨_, _, _, _, _, _, _, _, _, rfl, _⟩ := h; rfl) | (obtain ⟨_, _, _, _, _, _, _, _, _, _, rfl, _⟩ := h; rfl) | (obtain ⟨_, _, _, _, _, _, _, _, _, _, _, rfl, _⟩ := h; rfl) | (obtain ⟨_, _, _, _, _, _, _, _, _, _, _, _, rfl, _⟩ := h; rfl) | (obtain ⟨_, _, _, _, _, _, _, _, _, _, _, _, _, rfl, _⟩ := h; rfl)
theorem len_check_tasks : ∀ ts P, sp_check_tasks ts P → ts.length = 2 := by intro ts P h; first | (obtain ⟨_, rfl, _⟩ := h; rfl) | (obtain ⟨_, _, rfl, _⟩ := h; rfl) | (obtain ⟨_, _, _, rfl, _⟩ := h; rfl) | (obtain ⟨_, _, _, _, rfl, _⟩ := h; rfl) | (obtain ⟨_, _, _, _, _, rfl, _⟩ := h; rfl) | (obtain ⟨_, _, _, _, _, _, rfl, _⟩ := h; rfl) | (obtain ⟨_, _, _, _, _, _, _, rfl, _⟩ := h; rfl) | (obtain ⟨_, _, _, _, _, _, _, _, rfl, _⟩ := h; rfl) | (obtain ⟨_, _, _, _, _, _, _, _, _, rfl, _⟩ := h; rfl) | (obtain ⟨_, _, _, _, _, _, _, _, _, _, rfl, _⟩ := h; rfl) | (obtain ⟨_, _, _, _, _, _, _, _, _, _, _, rfl, _⟩ := h; rfl) | (obtain ⟨_, _, _, _, _, _, _, _, _, _, _, _, rfl, _⟩ := h; rfl) | (obtain ⟨_, _, _, _, _, _, _, _, _, _, _, _, _, rfl, _⟩ := h; rfl)
theorem len_least_time : ∀ ts P, sp_least_time ts P → ts.length = 3 := by intro ts P h; first | (obtain ⟨_, rfl, _⟩ := h; rfl) | (obtain ⟨_, _, rfl, _⟩ := h; rfl) | (obtain ⟨_, _, _, rfl, _⟩ := h; rfl) | (obtain ⟨_, _, _, _, rfl, _⟩ := h; rfl) | (obtain ⟨_, _, _, _, _, rfl, _⟩ := h; rfl) | (obtain ⟨_, _, _, _, _, _, rfl, _⟩ := h; rfl) | (obtain ⟨_, _, _, _, _, _, _, rfl, _⟩ := h; rfl) | (obtain ⟨_, _, _, _, _, _, _, _, rfl, _⟩ := h; rfl) | (obtain ⟨_, _, _, _, _, _, _, _, _, rfl, _⟩ := h; rfl) | (obtain ⟨_, _, _, _, _, _, _, _, _, _, rfl, _⟩ := h; rfl) | (obtain ⟨_, _, _, _, _, _, _, _, _, _, _, rfl, _⟩ := h; rfl) | (obtain ⟨_, _, _, _, _, _, _, _, _, _, _, _, rfl, _⟩ := h; rfl) | (obtain ⟨_, _, _, _, _, _, _, _, _, _, _, _, _, rfl, _⟩ := h; rfl)
theorem len_law_name : ∀ ts P, sp_law_name ts P → ts.length = 2 := by intro ts P h; first | (obtain ⟨_, rfl, _⟩ := h; rfl) | (obtain ⟨_, _, rfl, _⟩ := h; rfl) | (obtain ⟨_, _, _, rfl, _⟩ := h; rfl) | (obtain ⟨_, _, _, _, rfl, _⟩ := h; rfl) | (obtain ⟨_, _, _, _, _, rfl, _⟩ := h; rfl) | (obtain ⟨_, _, _, _, _, _, rfl, _⟩ := h; rfl) | (obtain ⟨_, _, _, _, _, _, _, rfl, _⟩ := h; rfl) | (obtain ⟨_, _, _, _, _, _, _, _, rfl, _⟩ := h; rfl) | (obtain ⟨_, _, _, _, _, _, _, _, _, rfl, _⟩ := h; rfl) | (obtain ⟨_, _, _, _, _, _, _, _, _, _, rfl, _⟩ := h; rfl) | (obtain ⟨_, _, _, _, _, _, _, _, _, _, _, rfl, _⟩ := h; rfl) | (obtain ⟨_, _, _, _, _, _, _, _, _, _, _, _, rfl, _⟩ := h; rfl) | (obtain ⟨_, _, _, _, _, _, _, _, _, _, _, _, _, rfl, _⟩ := h; rfl)
theorem len_law_keeps : ∀ ts P, sp_law_keeps ts P → ts.length = 3 := by intro ts P h; first | (obtain ⟨_, rfl, _⟩ := h; rfl) | (obtain ⟨_, _, rfl, _⟩ := h; rfl) | (obtain ⟨_, _, _, rfl, _⟩ := h; rfl) | (obtain ⟨_, _, _, _, rfl, _⟩ := h; rfl) | (obtain ⟨_, _, _, _, _, rfl, _⟩ := h; rfl) | (obtain ⟨_, _, _, _, _, _, rfl, _⟩ := h; rfl) | (obtain ⟨_, _, _, _, _, _, _, rfl, _⟩ := h; rfl) | (obtain ⟨_, _, _, _, _, _, _, _, rfl, _⟩ := h; rfl) | (obtain ⟨_, _, _, _, _, _, _, _, _, rfl, _⟩ := h; rfl) | (obtain ⟨_, _, _, _, _, _, _, _, _, _, rfl, _⟩ := h; rfl) | (obtain ⟨_, _, _, _, _, _, _, _, _, _, _, rfl, _⟩ := h; rfl) | (obtain ⟨_, _, _, _, _, _, _, _, _, _, _, _, rfl, _⟩ := h; rfl) | (obtain ⟨_, _, _, _, _, _, _, _, _, _, _, _, _, rfl, _⟩ := h; rfl)
theorem len_within_limit : ∀ ts P, sp_within_limit ts P → ts.length = 3 := by intro ts P h; first | (obtain ⟨_, rfl, _⟩ := h; rfl) | (obtain ⟨_, _, rfl, _⟩ := h; rfl) | (obtain ⟨_, _, _, rfl, _⟩ := h; rfl) | (obtain ⟨_, _, _, _, rfl, _⟩ := h; rfl) | (obtain ⟨_, _, _, _, _, rfl, _⟩ := h; rfl) | (obtain ⟨_, _, _, _, _, _, rfl, _⟩ := h; rfl) | (obtain ⟨_, _, _, _, _, _, _, rfl, _⟩ := h; rfl) | (obtain ⟨_, _, _, _, _, _, _, _, rfl, _⟩ := h; rfl) | (obtain ⟨_, _, _, _, _, _, _, _, _, rfl, _⟩ := h; rfl) | (obtain ⟨_, _, _, _, _, _, _, _, _, _, rfl, _⟩ := h; rfl) | (obtain ⟨_, _, _, _, _, _, _, _, _, _, _, rfl, _⟩ := h; rfl) | (obtain ⟨_, _, _, _, _, _, _, _, _, _, _, _, rfl, _⟩ := h; rfl) | (obtain ⟨_, _, _, _, _, _, _, _, _, _, _, _, _, rfl, _⟩ := h; rfl)
theorem len_by_limits : ∀ ts P, sp_by_limits ts P → ts.length = 1 := by intro ts P h; first | (obtain ⟨_, rfl, _⟩ := h; rfl) | (obtain ⟨_, _, rfl, _⟩ := h; rfl) | (obtain ⟨_, _, _, rfl, _⟩ := h; rfl) | (obtain ⟨_, _, _, _, rfl, _⟩ := h; rfl) | (obtain ⟨_, _, _, _, _, rfl, _⟩ := h; rfl) | (obtain ⟨_, _, _, _, _, _, rfl, _⟩ := h; rfl) | (obtain ⟨_, _, _, _, _, _, _, rfl, _⟩ := h; rfl) | (obtain ⟨_, _, _, _, _, _, _, _, rfl, _⟩ := h; rfl) | (obtain ⟨_, _, _, _, _, _, _, _, _, rfl, _⟩ := h; rfl) | (obtain ⟨_, _, _, _, _, _, _, _, _, _, rfl, _⟩ := h; rfl) | (obtain ⟨_, _, _, _, _, _, _, _, _, _, _, rfl, _⟩ := h; rfl) | (obtain ⟨_, _, _, _, _, _, _, _, _, _, _, _, rfl, _⟩ := h; rfl) | (obtain ⟨_, _, _, _, _, _, _, _, _, _, _, _, _, rfl, _⟩ := h; rfl)
theorem len_law_row : ∀ ts P, sp_law_row ts P → ts.length = 1 := by intro ts P h; first | (obtain ⟨_, rfl, _⟩ := h; rfl) | (obtain ⟨_, _, rfl, _⟩ := h; rfl) | (obtain ⟨_, _, _, rfl, _⟩ := h; rfl) | (obtain ⟨_, _, _, _, rfl, _⟩ := h; rfl) | (obtain ⟨_, _, _, _, _, rfl, _⟩ := h; rfl) | (obtain ⟨_, _, _, _, _, _, rfl, _⟩ := h; rfl) | (obtain ⟨_, _, _, _, _, _, _, rfl, _⟩ := h; rfl) | (obtain ⟨_, _, _, _, _, _, _, _, rfl, _⟩ := h; rfl) | (obtain ⟨_, _, _, _, _, _, _, _, _, rfl, _⟩ := h; rfl) | (obtain ⟨_, _, _, _, _, _, _, _, _, _, rfl, _⟩ := h; rfl) | (obtain ⟨_, _, _, _, _, _, _, _, _, _, _, rfl, _⟩ := h; rfl) | (obtain ⟨_, _, _, _, _, _, _, _, _, _, _, _, rfl, _⟩ := h; rfl) | (obtain ⟨_, _, _, _, _, _, _, _, _, _, _, _, _, rfl, _⟩ := h; rfl)
theorem len_law_late : ∀ ts P, sp_law_late ts P → ts.length = 2 := by intro ts P h; first | (obtain ⟨_, rfl, _⟩ := h; rfl) | (obtain ⟨_, _, rfl, _⟩ := h; rfl) | (obtain ⟨_, _, _, rfl, _⟩ := h; rfl) | (obtain ⟨_, _, _, _, rfl, _⟩ := h; rfl) | (obtain ⟨_, _, _, _, _, rfl, _⟩ := h; rfl) | (obtain ⟨_, _, _, _, _, _, rfl, _⟩ := h; rfl) | (obtain ⟨_, _, _, _, _, _, _, rfl, _⟩ := h; rfl) | (obtain ⟨_, _, _, _, _, _, _, _, rfl, _⟩ := h; rfl) | (obtain ⟨_, _, _, _, _, _, _, _, _, rfl, _⟩ := h; rfl) | (obtain ⟨_, _, _, _, _, _, _, _, _, _, rfl, _⟩ := h; rfl) | (obtain ⟨_, _, _, _, _, _, _, _, _, _, _, rfl, _⟩ := h; rfl) | (obtain ⟨_, _, _, _, _, _, _, _, _, _, _, _, rfl, _⟩ := h; rfl) | (obtain ⟨_, _, _, _, _, _, _, _, _, _, _, _, _, rfl, _⟩ := h; rfl)
theorem len_law_lowest : ∀ ts P, sp_law_lowest ts P → ts.length = 2 := by intro ts P h; first | (obtain ⟨_, rfl, _⟩ := h; rfl) | (obtain ⟨_, _, rfl, _⟩ := h; rfl) | (obtain ⟨_, _, _, rfl, _⟩ := h; rfl) | (obtain ⟨_, _, _, _, rfl, _⟩ := h; rfl) | (obtain ⟨_, _, _, _, _, rfl, _⟩ := h; rfl) | (obtain ⟨_, _, _, _, _, _, rfl, _⟩ := h; rfl) | (obtain ⟨_, _, _, _, _, _, _, rfl, _⟩ := h; rfl) | (obtain ⟨_, _, _, _, _, _, _, _, rfl, _⟩ := h; rfl) | (obtain ⟨_, _, _, _, _, _, _, _, _, rfl, _⟩ := h; rfl) | (obtain ⟨_, _, _, _, _, _, _, _, _, _, rfl, _⟩ := h; rfl) | (obtain ⟨_, _, _, _, _, _, _, _, _, _, _, rfl, _⟩ := h; rfl) | (obtain ⟨_, _, _, _, _, _, _, _, _, _, _, _, rfl, _⟩ := h; rfl) | (obtain ⟨_, _, _, _, _, _, _, _, _, _, _, _, _, rfl, _⟩ := h; rfl)
theorem len_first_late : ∀ ts P, sp_first_late ts P → ts.length = 2 := by intro ts P h; first | (obtain ⟨_, rfl, _⟩ := h; rfl) | (obtain ⟨_, _, rfl, _⟩ := h; rfl) | (obtain ⟨_, _, _, rfl, _⟩ := h; rfl) | (obtain ⟨_, _, _, _, rfl, _⟩ := h; rfl) | (obtain ⟨_, _, _, _, _, rfl, _⟩ := h; rfl) | (obtain ⟨_, _, _, _, _, _, rfl, _⟩ := h; rfl) | (obtain ⟨_, _, _, _, _, _, _, rfl, _⟩ := h; rfl) | (obtain ⟨_, _, _, _, _, _, _, _, rfl, _⟩ := h; rfl) | (obtain ⟨_, _, _, _, _, _, _, _, _, rfl, _⟩ := h; rfl) | (obtain ⟨_, _, _, _, _, _, _, _, _, _, rfl, _⟩ := h; rfl) | (obtain ⟨_, _, _, _, _, _, _, _, _, _, _, rfl, _⟩ := h; rfl) | (obtain ⟨_, _, _, _, _, _, _, _, _, _, _, _, rfl, _⟩ := h; rfl) | (obtain ⟨_, _, _, _, _, _, _, _, _, _, _, _, _, rfl, _⟩ := h; rfl)
theorem len_last_fit : ∀ ts P, sp_last_fit ts P → ts.length = 2 := by intro ts P h; first | (obtain ⟨_, rfl, _⟩ := h; rfl) | (obtain ⟨_, _, rfl, _⟩ := h; rfl) | (obtain ⟨_, _, _, rfl, _⟩ := h; rfl) | (obtain ⟨_, _, _, _, rfl, _⟩ := h; rfl) | (obtain ⟨_, _, _, _, _, rfl, _⟩ := h; rfl) | (obtain ⟨_, _, _, _, _, _, rfl, _⟩ := h; rfl) | (obtain ⟨_, _, _, _, _, _, _, rfl, _⟩ := h; rfl) | (obtain ⟨_, _, _, _, _, _, _, _, rfl, _⟩ := h; rfl) | (obtain ⟨_, _, _, _, _, _, _, _, _, rfl, _⟩ := h; rfl) | (obtain ⟨_, _, _, _, _, _, _, _, _, _, rfl, _⟩ := h; rfl) | (obtain ⟨_, _, _, _, _, _, _, _, _, _, _, rfl, _⟩ := h; rfl) | (obtain ⟨_, _, _, _, _, _, _, _, _, _, _, _, rfl, _⟩ := h; rfl) | (obtain ⟨_, _, _, _, _, _, _, _, _, _, _, _, _, rfl, _⟩ := h; rfl)
theorem len_law_dues : ∀ ts P, sp_law_dues ts P → ts.length = 2 := by intro ts P h; first | (obtain ⟨_, rfl, _⟩ := h; rfl) | (obtain ⟨_, _, rfl, _⟩ := h; rfl) | (obtain ⟨_, _, _, rfl, _⟩ := h; rfl) | (obtain ⟨_, _, _, _, rfl, _⟩ := h; rfl) | (obtain ⟨_, _, _, _, _, rfl, _⟩ := h; rfl) | (obtain ⟨_, _, _, _, _, _, rfl, _⟩ := h; rfl) | (obtain ⟨_, _, _, _, _, _, _, rfl, _⟩ := h; rfl) | (obtain ⟨_, _, _, _, _, _, _, _, rfl, _⟩ := h; rfl) | (obtain ⟨_, _, _, _, _, _, _, _, _, rfl, _⟩ := h; rfl) | (obtain ⟨_, _, _, _, _, _, _, _, _, _, rfl, _⟩ := h; rfl) | (obtain ⟨_, _, _, _, _, _, _, _, _, _, _, rfl, _⟩ := h; rfl) | (obtain ⟨_, _, _, _, _, _, _, _, _, _, _, _, rfl, _⟩ := h; rfl) | (obtain ⟨_, _, _, _, _, _, _, _, _, _, _, _, _, rfl, _⟩ := h; rfl)
theorem len_keeps_limits : ∀ ts P, sp_keeps_limits ts P → ts.length = 2 := by intro ts P h; first | (obtain ⟨_, rfl, _⟩ := h; rfl) | (obtain ⟨_, _, rfl, _⟩ := h; rfl) | (obtain ⟨_, _, _, rfl, _⟩ := h; rfl) | (obtain ⟨_, _, _, _, rfl, _⟩ := h; rfl) | (obtain ⟨_, _, _, _, _, rfl, _⟩ := h; rfl) | (obtain ⟨_, _, _, _, _, _, rfl, _⟩ := h; rfl) | (obtain ⟨_, _, _, _, _, _, _, rfl, _⟩ := h; rfl) | (obtain ⟨_, _, _, _, _, _, _, _, rfl, _⟩ := h; rfl) | (obtain ⟨_, _, _, _, _, _, _, _, _, rfl, _⟩ := h; rfl) | (obtain ⟨_, _, _, _, _, _, _, _, _, _, rfl, _⟩ := h; rfl) | (obtain ⟨_, _, _, _, _, _, _, _, _, _, _, rfl, _⟩ := h; rfl) | (obtain ⟨_, _, _, _, _, _, _, _, _, _, _, _, rfl, _⟩ := h; rfl) | (obtain ⟨_, _, _, _, _, _, _, _, _, _, _, _, _, rfl, _⟩ := h; rfl)
theorem len_best_order : ∀ ts P, sp_best_order ts P → ts.length = 2 := by intro ts P h; first | (obtain ⟨_, rfl, _⟩ := h; rfl) | (obtain ⟨_, _, rfl, _⟩ := h; rfl) | (obtain ⟨_, _, _, rfl, _⟩ := h; rfl) | (obtain ⟨_, _, _, _, rfl, _⟩ := h; rfl) | (obtain ⟨_, _, _, _, _, rfl, _⟩ := h; rfl) | (obtain ⟨_, _, _, _, _, _, rfl, _⟩ := h; rfl) | (obtain ⟨_, _, _, _, _, _, _, rfl, _⟩ := h; rfl) | (obtain ⟨_, _, _, _, _, _, _, _, rfl, _⟩ := h; rfl) | (obtain ⟨_, _, _, _, _, _, _, _, _, rfl, _⟩ := h; rfl) | (obtain ⟨_, _, _, _, _, _, _, _, _, _, rfl, _⟩ := h; rfl) | (obtain ⟨_, _, _, _, _, _, _, _, _, _, _, rfl, _⟩ := h; rfl) | (obtain ⟨_, _, _, _, _, _, _, _, _, _, _, _, rfl, _⟩ := h; rfl) | (obtain ⟨_, _, _, _, _, _, _, _, _, _, _, _, _, rfl, _⟩ := h; rfl)
theorem len_breaking : ∀ ts P, sp_breaking ts P → ts.length = 2 := by intro ts P h; first | (obtain ⟨_, rfl, _⟩ := h; rfl) | (obtain ⟨_, _, rfl, _⟩ := h; rfl) | (obtain ⟨_, _, _, rfl, _⟩ := h; rfl) | (obtain ⟨_, _, _, _, rfl, _⟩ := h; rfl) | (obtain ⟨_, _, _, _, _, rfl, _⟩ := h; rfl) | (obtain ⟨_, _, _, _, _, _, rfl, _⟩ := h; rfl) | (obtain ⟨_, _, _, _, _, _, _, rfl, _⟩ := h; rfl) | (obtain ⟨_, _, _, _, _, _, _, _, rfl, _⟩ := h; rfl) | (obtain ⟨_, _, _, _, _, _, _, _, _, rfl, _⟩ := h; rfl) | (obtain ⟨_, _, _, _, _, _, _, _, _, _, rfl, _⟩ := h; rfl) | (obtain ⟨_, _, _, _, _, _, _, _, _, _, _, rfl, _⟩ := h; rfl) | (obtain ⟨_, _, _, _, _, _, _, _, _, _, _, _, rfl, _⟩ := h; rfl) | (obtain ⟨_, _, _, _, _, _, _, _, _, _, _, _, _, rfl, _⟩ := h; rfl)
theorem len_lowest_first : ∀ ts P, sp_lowest_first ts P → ts.length = 2 := by intro ts P h; first | (obtain ⟨_, rfl, _⟩ := h; rfl) | (obtain ⟨_, _, rfl, _⟩ := h; rfl) | (obtain ⟨_, _, _, rfl, _⟩ := h; rfl) | (obtain ⟨_, _, _, _, rfl, _⟩ := h; rfl) | (obtain ⟨_, _, _, _, _, rfl, _⟩ := h; rfl) | (obtain ⟨_, _, _, _, _, _, rfl, _⟩ := h; rfl) | (obtain ⟨_, _, _, _, _, _, _, rfl, _⟩ := h; rfl) | (obtain ⟨_, _, _, _, _, _, _, _, rfl, _⟩ := h; rfl) | (obtain ⟨_, _, _, _, _, _, _, _, _, rfl, _⟩ := h; rfl) | (obtain ⟨_, _, _, _, _, _, _, _, _, _, rfl, _⟩ := h; rfl) | (obtain ⟨_, _, _, _, _, _, _, _, _, _, _, rfl, _⟩ := h; rfl) | (obtain ⟨_, _, _, _, _, _, _, _, _, _, _, _, rfl, _⟩ := h; rfl) | (obtain ⟨_, _, _, _, _, _, _, _, _, _, _, _, _, rfl, _⟩ := h; rfl)
theorem len_law_asked : ∀ ts P, sp_law_asked ts P → ts.length = 3 := by intro ts P h; first | (obtain ⟨_, rfl, _⟩ := h; rfl) | (obtain ⟨_, _, rfl, _⟩ := h; rfl) | (obtain ⟨_, _, _, rfl, _⟩ := h; rfl) | (obtain ⟨_, _, _, _, rfl, _⟩ := h; rfl) | (obtain ⟨_, _, _, _, _, rfl, _⟩ := h; rfl) | (obtain ⟨_, _, _, _, _, _, rfl, _⟩ := h; rfl) | (obtain ⟨_, _, _, _, _, _, _, rfl, _⟩ := h; rfl) | (obtain ⟨_, _, _, _, _, _, _, _, rfl, _⟩ := h; rfl) | (obtain ⟨_, _, _, _, _, _, _, _, _, rfl, _⟩ := h; rfl) | (obtain ⟨_, _, _, _, _, _, _, _, _, _, rfl, _⟩ := h; rfl) | (obtain ⟨_, _, _, _, _, _, _, _, _, _, _, rfl, _⟩ := h; rfl) | (obtain ⟨_, _, _, _, _, _, _, _, _, _, _, _, rfl, _⟩ := h; rfl) | (obtain ⟨_, _, _, _, _, _, _, _, _, _, _, _, _, rfl, _⟩ := h; rfl)
theorem len_law : ∀ ts P, sp_law ts P → ts.length = 1 := by intro ts P h; first | (obtain ⟨_, rfl, _⟩ := h; rfl) | (obtain ⟨_, _, rfl, _⟩ := h; rfl) | (obtain ⟨_, _, _, rfl, _⟩ := h; rfl) | (obtain ⟨_, _, _, _, rfl, _⟩ := h; rfl) | (obtain ⟨_, _, _, _, _, rfl, _⟩ := h; rfl) | (obtain ⟨_, _, _, _, _, _, rfl, _⟩ := h; rfl) | (obtain ⟨_, _, _, _, _, _, _, rfl, _⟩ := h; rfl) | (obtain ⟨_, _, _, _, _, _, _, _, rfl, _⟩ := h; rfl) | (obtain ⟨_, _, _, _, _, _, _, _, _, rfl, _⟩ := h; rfl) | (obtain ⟨_, _, _, _, _, _, _, _, _, _, rfl, _⟩ := h; rfl) | (obtain ⟨_, _, _, _, _, _, _, _, _, _, _, rfl, _⟩ := h; rfl) | (obtain ⟨_, _, _, _, _, _, _, _, _, _, _, _, rfl, _⟩ := h; rfl) | (obtain ⟨_, _, _, _, _, _, _, _, _, _, _, _, _, rfl, _⟩ := h; rfl)
theorem ok_all {P : Program} {w : World} {K : PySem.W.Frag} {mg : Str → Option Value} {base : Heap} (g : Gx K mg)
    {f_is_name : Addr} {fd_is_name : FuncData} (F_is_name : Fun K "is_name" "is_name" s_is_name f_is_name fd_is_name)
    (m_is_name : mg "is_name" = some (.ref f_is_name))
    {f_numbers_fit : Addr} {fd_numbers_fit : FuncData} (F_numbers_fit : Fun K "numbers_fit" "numbers_fit" s_numbers_fit f_numbers_fit fd_numbers_fit)
    (m_numbers_fit : mg "numbers_fit" = some (.ref f_numbers_fit))
    {f_needed : Addr} {fd_needed : FuncData} (F_needed : Fun K "needed" "needed" s_needed f_needed fd_needed)
    (m_needed : mg "needed" = some (.ref f_needed))
    {f_law_tape : Addr} {fd_law_tape : FuncData} (F_law_tape : Fun K "_law_tape" "_law_tape" s_law_tape f_law_tape fd_law_tape)
    (m_law_tape : mg "_law_tape" = some (.ref f_law_tape))
    {f_law_draw : Addr} {fd_law_draw : FuncData} (F_law_draw : Fun K "_law_draw" "_law_draw" s_law_draw f_law_draw fd_law_draw)
    (m_law_draw : mg "_law_draw" = some (.ref f_law_draw))
    {f_law_response : Addr} {fd_law_response : FuncData} (F_law_response : Fun K "_law_response" "_law_response" s_law_response f_law_response fd_law_response)
    (m_law_response : mg "_law_response" = some (.ref f_law_response))
    {f_law_all : Addr} {fd_law_all : FuncData} (F_law_all : Fun K "_law_all" "_law_all" s_law_all f_law_all fd_law_all)
    (m_law_all : mg "_law_all" = some (.ref f_law_all))
    {f_law_by_limits : Addr} {fd_law_by_limits : FuncData} (F_law_by_limits : Fun K "_law_by_limits" "_law_by_limits" s_law_by_limits f_law_by_limits fd_law_by_limits)
    (m_law_by_limits : mg "_law_by_limits" = some (.ref f_law_by_limits))
    {f_check_tasks : Addr} {fd_check_tasks : FuncData} (F_check_tasks : Fun K "check_tasks" "check_tasks" s_check_tasks f_check_tasks fd_check_tasks)
    (m_check_tasks : mg "check_tasks" = some (.ref f_check_tasks))
    {f_least_time : Addr} {fd_least_time : FuncData} (F_least_time : Fun K "least_time" "least_time" s_least_time f_least_time fd_least_time)
    (m_least_time : mg "least_time" = some (.ref f_least_time))
    {f_law_name : Addr} {fd_law_name : FuncData} (F_law_name : Fun K "_law_name" "_law_name" s_law_name f_law_name fd_law_name)
    (m_law_name : mg "_law_name" = some (.ref f_law_name))
    {f_law_keeps : Addr} {fd_law_keeps : FuncData} (F_law_keeps : Fun K "_law_keeps" "_law_keeps" s_law_keeps f_law_keeps fd_law_keeps)
    (m_law_keeps : mg "_law_keeps" = some (.ref f_law_keeps))
    {f_within_limit : Addr} {fd_within_limit : FuncData} (F_within_limit : Fun K "within_limit" "within_limit" s_within_limit f_within_limit fd_within_limit)
    (m_within_limit : mg "within_limit" = some (.ref f_within_limit))
    {f_by_limits : Addr} {fd_by_limits : FuncData} (F_by_limits : Fun K "by_limits" "by_limits" s_by_limits f_by_limits fd_by_limits)
    (m_by_limits : mg "by_limits" = some (.ref f_by_limits))
    {f_law_row : Addr} {fd_law_row : FuncData} (F_law_row : Fun K "_law_row" "_law_row" s_law_row f_law_row fd_law_row)
    (m_law_row : mg "_law_row" = some (.ref f_law_row))
    {f_law_late : Addr} {fd_law_late : FuncData} (F_law_late : Fun K "_law_late" "_law_late" s_law_late f_law_late fd_law_late)
    (m_law_late : mg "_law_late" = some (.ref f_law_late))
    {f_law_lowest : Addr} {fd_law_lowest : FuncData} (F_law_lowest : Fun K "_law_lowest" "_law_lowest" s_law_lowest f_law_lowest fd_law_lowest)
    (m_law_lowest : mg "_law_lowest" = some (.ref f_law_lowest))
    {f_first_late : Addr} {fd_first_late : FuncData} (F_first_late : Fun K "first_late" "first_late" s_first_late f_first_late fd_first_late)
    (m_first_late : mg "first_late" = some (.ref f_first_late))
    {f_last_fit : Addr} {fd_last_fit : FuncData} (F_last_fit : Fun K "last_fit" "last_fit" s_last_fit f_last_fit fd_last_fit)
    (m_last_fit : mg "last_fit" = some (.ref f_last_fit))
    {f_law_dues : Addr} {fd_law_dues : FuncData} (F_law_dues : Fun K "_law_dues" "_law_dues" s_law_dues f_law_dues fd_law_dues)
    (m_law_dues : mg "_law_dues" = some (.ref f_law_dues))
    {f_keeps_limits : Addr} {fd_keeps_limits : FuncData} (F_keeps_limits : Fun K "keeps_limits" "keeps_limits" s_keeps_limits f_keeps_limits fd_keeps_limits)
    (m_keeps_limits : mg "keeps_limits" = some (.ref f_keeps_limits))
    {f_best_order : Addr} {fd_best_order : FuncData} (F_best_order : Fun K "best_order" "best_order" s_best_order f_best_order fd_best_order)
    (m_best_order : mg "best_order" = some (.ref f_best_order))
    {f_breaking : Addr} {fd_breaking : FuncData} (F_breaking : Fun K "breaking" "breaking" s_breaking f_breaking fd_breaking)
    (m_breaking : mg "breaking" = some (.ref f_breaking))
    {f_lowest_first : Addr} {fd_lowest_first : FuncData} (F_lowest_first : Fun K "lowest_first" "lowest_first" s_lowest_first f_lowest_first fd_lowest_first)
    (m_lowest_first : mg "lowest_first" = some (.ref f_lowest_first))
    {f_law_asked : Addr} {fd_law_asked : FuncData} (F_law_asked : Fun K "_law_asked" "_law_asked" s_law_asked f_law_asked fd_law_asked)
    (m_law_asked : mg "_law_asked" = some (.ref f_law_asked))
    {f_law : Addr} {fd_law : FuncData} (F_law : Fun K "law" "law" s_law f_law fd_law)
    {aC : Addr} (TB : LamX.TabB base mg aC lamT) (hcd0 : fd_by_limits.code = .ref aC)
    : FnG P w K mg base 7 f_law fd_law ["script"] (spOf K sp_law) := by
  have o_is_name := ok_is_name (P := P) (w := w) (base := base) F_is_name g  (len_is_name) red_is_name
  have b_is_name := F_is_name.binds (ps := ["text"]) fun _ _ _ _ _ _ us hl => match us, hl with | [_], _ => rfl
  have k_is_name : Cal P w K mg base "is_name" 1 ["text"] sp_is_name := ⟨⟨_, _, o_is_name, m_is_name, F_is_name.kp, b_is_name⟩⟩
  have o_numbers_fit := ok_numbers_fit (P := P) (w := w) (base := base) F_numbers_fit g  (len_numbers_fit) red_numbers_fit
  have b_numbers_fit := F_numbers_fit.binds (ps := ["work", "gap", "limit"]) fun _ _ _ _ _ _ us hl => match us, hl with | [_, _, _], _ => rfl
  have k_numbers_fit : Cal P w K mg base "numbers_fit" 1 ["work", "gap", "limit"] sp_numbers_fit := ⟨⟨_, _, o_numbers_fit, m_numbers_fit, F_numbers_fit.kp, b_numbers_fit⟩⟩
  have o_needed := ok_needed (P := P) (w := w) (base := base) F_needed g  (len_needed) red_needed
  have b_needed := F_needed.binds (ps := ["tasks", "index", "blocked", "time"]) fun _ _ _ _ _ _ us hl => match us, hl with | [_, _, _, _], _ => rfl
  have k_needed : Cal P w K mg base "needed" 1 ["tasks", "index", "blocked", "time"] sp_needed := ⟨⟨_, _, o_needed, m_needed, F_needed.kp, b_needed⟩⟩
  have o_law_tape := ok_law_tape (P := P) (w := w) (base := base) F_law_tape g  (len_law_tape) red_law_tape
  have b_law_tape := F_law_tape.binds (ps := ["script"]) fun _ _ _ _ _ _ us hl => match us, hl with | [_], _ => rfl
  have k_law_tape : Cal P w K mg base "_law_tape" 1 ["script"] sp_law_tape := ⟨⟨_, _, o_law_tape, m_law_tape, F_law_tape.kp, b_law_tape⟩⟩
  have o_law_draw := ok_law_draw (P := P) (w := w) (base := base) F_law_draw g  (len_law_draw) red_law_draw
  have b_law_draw := F_law_draw.binds (ps := ["rows", "size"]) fun _ _ _ _ _ _ us hl => match us, hl with | [_, _], _ => rfl
  have k_law_draw : Cal P w K mg base "_law_draw" 1 ["rows", "size"] sp_law_draw := ⟨⟨_, _, o_law_draw, m_law_draw, F_law_draw.kp, b_law_draw⟩⟩
  have o_law_response := ok_law_response (P := P) (w := w) (base := base) F_law_response g  (len_law_response) red_law_response
  have b_law_response := F_law_response.binds (ps := ["task", "above", "blocked"]) fun _ _ _ _ _ _ us hl => match us, hl with | [_, _, _], _ => rfl
  have k_law_response : Cal P w K mg base "_law_response" 1 ["task", "above", "blocked"] sp_law_response := ⟨⟨_, _, o_law_response, m_law_response, F_law_response.kp, b_law_response⟩⟩
  have o_law_all := ok_law_all (P := P) (w := w) (base := base) F_law_all g  (len_law_all) red_law_all
  have b_law_all := F_law_all.binds (ps := ["tasks"]) fun _ _ _ _ _ _ us hl => match us, hl with | [_], _ => rfl
  have k_law_all : Cal P w K mg base "_law_all" 1 ["tasks"] sp_law_all := ⟨⟨_, _, o_law_all, m_law_all, F_law_all.kp, b_law_all⟩⟩
  have o_law_by_limits := ok_law_by_limits (P := P) (w := w) (base := base) F_law_by_limits g  (len_law_by_limits) red_law_by_limits
  have b_law_by_limits := F_law_by_limits.binds (ps := ["tasks"]) fun _ _ _ _ _ _ us hl => match us, hl with | [_], _ => rfl
  have k_law_by_limits : Cal P w K mg base "_law_by_limits" 1 ["tasks"] sp_law_by_limits := ⟨⟨_, _, o_law_by_limits, m_law_by_limits, F_law_by_limits.kp, b_law_by_limits⟩⟩
  have o_check_tasks := ok_check_tasks (P := P) (w := w) (base := base) F_check_tasks g k_is_name k_numbers_fit (len_check_tasks) red_check_tasks
  have b_check_tasks := F_check_tasks.binds (ps := ["tasks", "blocked"]) fun _ _ _ _ _ _ us hl => match us, hl with | [_, _], _ => rfl
  have k_check_tasks : Cal P w K mg base "check_tasks" 2 ["tasks", "blocked"] sp_check_tasks := ⟨⟨_, _, o_check_tasks, m_check_tasks, F_check_tasks.kp, b_check_tasks⟩⟩
  have o_least_time := ok_least_time (P := P) (w := w) (base := base) F_least_time g k_needed (len_least_time) red_least_time
  have b_least_time := F_least_time.binds (ps := ["tasks", "index", "blocked"]) fun _ _ _ _ _ _ us hl => match us, hl with | [_, _, _], _ => rfl
  have k_least_time : Cal P w K mg base "least_time" 2 ["tasks", "index", "blocked"] sp_least_time := ⟨⟨_, _, o_least_time, m_least_time, F_least_time.kp, b_least_time⟩⟩
  have o_law_name := ok_law_name (P := P) (w := w) (base := base) F_law_name g k_law_draw (len_law_name) red_law_name
  have b_law_name := F_law_name.binds (ps := ["rows", "used"]) fun _ _ _ _ _ _ us hl => match us, hl with | [_, _], _ => rfl
  have k_law_name : Cal P w K mg base "_law_name" 2 ["rows", "used"] sp_law_name := ⟨⟨_, _, o_law_name, m_law_name, F_law_name.kp, b_law_name⟩⟩
  have o_law_keeps := ok_law_keeps (P := P) (w := w) (base := base) F_law_keeps g k_law_response (len_law_keeps) red_law_keeps
  have b_law_keeps := F_law_keeps.binds (ps := ["task", "above", "blocked"]) fun _ _ _ _ _ _ us hl => match us, hl with | [_, _, _], _ => rfl
  have k_law_keeps : Cal P w K mg base "_law_keeps" 2 ["task", "above", "blocked"] sp_law_keeps := ⟨⟨_, _, o_law_keeps, m_law_keeps, F_law_keeps.kp, b_law_keeps⟩⟩
  have o_within_limit := ok_within_limit (P := P) (w := w) (base := base) F_within_limit g k_least_time (len_within_limit) red_within_limit
  have b_within_limit := F_within_limit.binds (ps := ["tasks", "index", "blocked"]) fun _ _ _ _ _ _ us hl => match us, hl with | [_, _, _], _ => rfl
  have k_within_limit : Cal P w K mg base "within_limit" 3 ["tasks", "index", "blocked"] sp_within_limit := ⟨⟨_, _, o_within_limit, m_within_limit, F_within_limit.kp, b_within_limit⟩⟩
  have o_by_limits := ok_by_limits (P := P) (w := w) (base := base) F_by_limits TB hcd0 g k_check_tasks (len_by_limits) red_by_limits
  have b_by_limits := F_by_limits.binds (ps := ["tasks"]) fun _ _ _ _ _ _ us hl => match us, hl with | [_], _ => rfl
  have k_by_limits : Cal P w K mg base "by_limits" 3 ["tasks"] sp_by_limits := ⟨⟨_, _, o_by_limits, m_by_limits, F_by_limits.kp, b_by_limits⟩⟩
  have o_law_row := ok_law_row (P := P) (w := w) (base := base) F_law_row g k_law_draw k_law_name k_law_response (len_law_row) red_law_row
  have b_law_row := F_law_row.binds (ps := ["rows"]) fun _ _ _ _ _ _ us hl => match us, hl with | [_], _ => rfl
  have k_law_row : Cal P w K mg base "_law_row" 3 ["rows"] sp_law_row := ⟨⟨_, _, o_law_row, m_law_row, F_law_row.kp, b_law_row⟩⟩
  have o_law_late := ok_law_late (P := P) (w := w) (base := base) F_law_late g k_law_keeps (len_law_late) red_law_late
  have b_law_late := F_law_late.binds (ps := ["order", "blocked"]) fun _ _ _ _ _ _ us hl => match us, hl with | [_, _], _ => rfl
  have k_law_late : Cal P w K mg base "_law_late" 3 ["order", "blocked"] sp_law_late := ⟨⟨_, _, o_law_late, m_law_late, F_law_late.kp, b_law_late⟩⟩
  have o_law_lowest := ok_law_lowest (P := P) (w := w) (base := base) F_law_lowest g k_law_keeps (len_law_lowest) red_law_lowest
  have b_law_lowest := F_law_lowest.binds (ps := ["tasks", "blocked"]) fun _ _ _ _ _ _ us hl => match us, hl with | [_, _], _ => rfl
  have k_law_lowest : Cal P w K mg base "_law_lowest" 3 ["tasks", "blocked"] sp_law_lowest := ⟨⟨_, _, o_law_lowest, m_law_lowest, F_law_lowest.kp, b_law_lowest⟩⟩
  have o_first_late := ok_first_late (P := P) (w := w) (base := base) F_first_late g k_within_limit (len_first_late) red_first_late
  have b_first_late := F_first_late.binds (ps := ["tasks", "blocked"]) fun _ _ _ _ _ _ us hl => match us, hl with | [_, _], _ => rfl
  have k_first_late : Cal P w K mg base "first_late" 4 ["tasks", "blocked"] sp_first_late := ⟨⟨_, _, o_first_late, m_first_late, F_first_late.kp, b_first_late⟩⟩
  have o_last_fit := ok_last_fit (P := P) (w := w) (base := base) F_last_fit g k_within_limit (len_last_fit) red_last_fit
  have b_last_fit := F_last_fit.binds (ps := ["tasks", "blocked"]) fun _ _ _ _ _ _ us hl => match us, hl with | [_, _], _ => rfl
  have k_last_fit : Cal P w K mg base "last_fit" 4 ["tasks", "blocked"] sp_last_fit := ⟨⟨_, _, o_last_fit, m_last_fit, F_last_fit.kp, b_last_fit⟩⟩
  have o_law_dues := ok_law_dues (P := P) (w := w) (base := base) F_law_dues g k_law_by_limits k_law_all k_law_late k_law_lowest (len_law_dues) red_law_dues
  have b_law_dues := F_law_dues.binds (ps := ["tasks", "blocked"]) fun _ _ _ _ _ _ us hl => match us, hl with | [_, _], _ => rfl
  have k_law_dues : Cal P w K mg base "_law_dues" 4 ["tasks", "blocked"] sp_law_dues := ⟨⟨_, _, o_law_dues, m_law_dues, F_law_dues.kp, b_law_dues⟩⟩
  have o_keeps_limits := ok_keeps_limits (P := P) (w := w) (base := base) F_keeps_limits g k_check_tasks k_first_late (len_keeps_limits) red_keeps_limits
  have b_keeps_limits := F_keeps_limits.binds (ps := ["tasks", "blocked"]) fun _ _ _ _ _ _ us hl => match us, hl with | [_, _], _ => rfl
  have k_keeps_limits : Cal P w K mg base "keeps_limits" 5 ["tasks", "blocked"] sp_keeps_limits := ⟨⟨_, _, o_keeps_limits, m_keeps_limits, F_keeps_limits.kp, b_keeps_limits⟩⟩
  have o_best_order := ok_best_order (P := P) (w := w) (base := base) F_best_order g k_check_tasks k_by_limits k_first_late (len_best_order) red_best_order
  have b_best_order := F_best_order.binds (ps := ["tasks", "blocked"]) fun _ _ _ _ _ _ us hl => match us, hl with | [_, _], _ => rfl
  have k_best_order : Cal P w K mg base "best_order" 5 ["tasks", "blocked"] sp_best_order := ⟨⟨_, _, o_best_order, m_best_order, F_best_order.kp, b_best_order⟩⟩
  have o_breaking := ok_breaking (P := P) (w := w) (base := base) F_breaking g k_check_tasks k_by_limits k_first_late (len_breaking) red_breaking
  have b_breaking := F_breaking.binds (ps := ["tasks", "blocked"]) fun _ _ _ _ _ _ us hl => match us, hl with | [_, _], _ => rfl
  have k_breaking : Cal P w K mg base "breaking" 5 ["tasks", "blocked"] sp_breaking := ⟨⟨_, _, o_breaking, m_breaking, F_breaking.kp, b_breaking⟩⟩
  have o_lowest_first := ok_lowest_first (P := P) (w := w) (base := base) F_lowest_first g k_check_tasks k_last_fit (len_lowest_first) red_lowest_first
  have b_lowest_first := F_lowest_first.binds (ps := ["tasks", "blocked"]) fun _ _ _ _ _ _ us hl => match us, hl with | [_, _], _ => rfl
  have k_lowest_first : Cal P w K mg base "lowest_first" 5 ["tasks", "blocked"] sp_lowest_first := ⟨⟨_, _, o_lowest_first, m_lowest_first, F_lowest_first.kp, b_lowest_first⟩⟩
  have o_law_asked := ok_law_asked (P := P) (w := w) (base := base) F_law_asked g k_by_limits k_keeps_limits k_best_order k_breaking k_lowest_first (len_law_asked) red_law_asked
  have b_law_asked := F_law_asked.binds (ps := ["way", "tasks", "blocked"]) fun _ _ _ _ _ _ us hl => match us, hl with | [_, _, _], _ => rfl
  have k_law_asked : Cal P w K mg base "_law_asked" 6 ["way", "tasks", "blocked"] sp_law_asked := ⟨⟨_, _, o_law_asked, m_law_asked, F_law_asked.kp, b_law_asked⟩⟩
  have o_law := ok_law (P := P) (w := w) (base := base) F_law g k_law_tape k_law_draw k_law_row k_law_dues k_law_asked k_keeps_limits (len_law) red_law
  exact o_law
theorem all_mk {l : PySem.W.OpenLaw} {w : World} {K : PySem.W.Frag} {h : Heap} {mg : Str → Option Value} {fa f_is_name f_numbers_fit f_needed f_law_tape f_law_draw f_law_response f_law_all f_law_by_limits f_check_tasks f_least_time f_law_name f_law_keeps f_within_limit f_by_limits f_law_row f_law_late f_law_lowest f_first_late f_last_fit f_law_dues f_keeps_limits f_best_order f_breaking f_lowest_first f_law_asked f_law : Addr} (X : K.In h) (G : h.Ns mainGlobals mg) (hfa : mg "law" = some (.ref fa))
    {od_is_name an_is_name : Option Addr} {sl_is_name : Array (Option Value)} {oc_is_name kV_is_name dc_is_name pm_is_name cd_is_name ct_is_name : Value}
    {od_numbers_fit an_numbers_fit : Option Addr} {sl_numbers_fit : Array (Option Value)} {oc_numbers_fit kV_numbers_fit dc_numbers_fit pm_numbers_fit cd_numbers_fit ct_numbers_fit : Value}
    {od_needed an_needed : Option Addr} {sl_needed : Array (Option Value)} {oc_needed kV_needed dc_needed pm_needed cd_needed ct_needed : Value}
    {od_law_tape an_law_tape : Option Addr} {sl_law_tape : Array (Option Value)} {oc_law_tape kV_law_tape dc_law_tape pm_law_tape cd_law_tape ct_law_tape : Value}
    {od_law_draw an_law_draw : Option Addr} {sl_law_draw : Array (Option Value)} {oc_law_draw kV_law_draw dc_law_draw pm_law_draw cd_law_draw ct_law_draw : Value}
    {od_law_response an_law_response : Option Addr} {sl_law_response : Array (Option Value)} {oc_law_response kV_law_response dc_law_response pm_law_response cd_law_response ct_law_response : Value}
    {od_law_all an_law_all : Option Addr} {sl_law_all : Array (Option Value)} {oc_law_all kV_law_all dc_law_all pm_law_all cd_law_all ct_law_all : Value}
    {od_law_by_limits an_law_by_limits : Option Addr} {sl_law_by_limits : Array (Option Value)} {oc_law_by_limits kV_law_by_limits dc_law_by_limits pm_law_by_limits cd_law_by_limits ct_law_by_limits : Value}
    {od_check_tasks an_check_tasks : Option Addr} {sl_check_tasks : Array (Option Value)} {oc_check_tasks kV_check_tasks dc_check_tasks pm_check_tasks cd_check_tasks ct_check_tasks : Value}
    {od_least_time an_least_time : Option Addr} {sl_least_time : Array (Option Value)} {oc_least_time kV_least_time dc_least_time pm_least_time cd_least_time ct_least_time : Value}
    {od_law_name an_law_name : Option Addr} {sl_law_name : Array (Option Value)} {oc_law_name kV_law_name dc_law_name pm_law_name cd_law_name ct_law_name : Value}
    {od_law_keeps an_law_keeps : Option Addr} {sl_law_keeps : Array (Option Value)} {oc_law_keeps kV_law_keeps dc_law_keeps pm_law_keeps cd_law_keeps ct_law_keeps : Value}
    {od_within_limit an_within_limit : Option Addr} {sl_within_limit : Array (Option Value)} {oc_within_limit kV_within_limit dc_within_limit pm_within_limit cd_within_limit ct_within_limit : Value}
    {od_by_limits an_by_limits : Option Addr} {sl_by_limits : Array (Option Value)} {oc_by_limits kV_by_limits dc_by_limits pm_by_limits cd_by_limits ct_by_limits : Value}
    {od_law_row an_law_row : Option Addr} {sl_law_row : Array (Option Value)} {oc_law_row kV_law_row dc_law_row pm_law_row cd_law_row ct_law_row : Value}
    {od_law_late an_law_late : Option Addr} {sl_law_late : Array (Option Value)} {oc_law_late kV_law_late dc_law_late pm_law_late cd_law_late ct_law_late : Value}
    {od_law_lowest an_law_lowest : Option Addr} {sl_law_lowest : Array (Option Value)} {oc_law_lowest kV_law_lowest dc_law_lowest pm_law_lowest cd_law_lowest ct_law_lowest : Value}
    {od_first_late an_first_late : Option Addr} {sl_first_late : Array (Option Value)} {oc_first_late kV_first_late dc_first_late pm_first_late cd_first_late ct_first_late : Value}
    {od_last_fit an_last_fit : Option Addr} {sl_last_fit : Array (Option Value)} {oc_last_fit kV_last_fit dc_last_fit pm_last_fit cd_last_fit ct_last_fit : Value}
    {od_law_dues an_law_dues : Option Addr} {sl_law_dues : Array (Option Value)} {oc_law_dues kV_law_dues dc_law_dues pm_law_dues cd_law_dues ct_law_dues : Value}
    {od_keeps_limits an_keeps_limits : Option Addr} {sl_keeps_limits : Array (Option Value)} {oc_keeps_limits kV_keeps_limits dc_keeps_limits pm_keeps_limits cd_keeps_limits ct_keeps_limits : Value}
    {od_best_order an_best_order : Option Addr} {sl_best_order : Array (Option Value)} {oc_best_order kV_best_order dc_best_order pm_best_order cd_best_order ct_best_order : Value}
    {od_breaking an_breaking : Option Addr} {sl_breaking : Array (Option Value)} {oc_breaking kV_breaking dc_breaking pm_breaking cd_breaking ct_breaking : Value}
    {od_lowest_first an_lowest_first : Option Addr} {sl_lowest_first : Array (Option Value)} {oc_lowest_first kV_lowest_first dc_lowest_first pm_lowest_first cd_lowest_first ct_lowest_first : Value}
    {od_law_asked an_law_asked : Option Addr} {sl_law_asked : Array (Option Value)} {oc_law_asked kV_law_asked dc_law_asked pm_law_asked cd_law_asked ct_law_asked : Value}
    {od_law an_law : Option Addr} {sl_law : Array (Option Value)} {oc_law kV_law dc_law pm_law cd_law ct_law : Value}
    {t_LETTERS : Tok}
    {t_MOST_TASKS : Tok}
    (a_is_name : PySem.W.nsIn K mainGlobals "is_name" = some (some (.ref f_is_name)))
    (l_is_name : K.lookup f_is_name = some ⟨oc_is_name, od_is_name, .func (PySem.W.fnOf "is_name" "is_name" (defArgs s_is_name) (defBody s_is_name) (defScope s_is_name) .none kV_is_name dc_is_name pm_is_name an_is_name cd_is_name ct_is_name), sl_is_name⟩)
    (c_is_name : PySem.W.codeIn K cd_is_name "is_name" = true)
    (k_is_name : PySem.W.keepIn K (.ref f_is_name) = true)
    (a_numbers_fit : PySem.W.nsIn K mainGlobals "numbers_fit" = some (some (.ref f_numbers_fit)))
    (l_numbers_fit : K.lookup f_numbers_fit = some ⟨oc_numbers_fit, od_numbers_fit, .func (PySem.W.fnOf "numbers_fit" "numbers_fit" (defArgs s_numbers_fit) (defBody s_numbers_fit) (defScope s_numbers_fit) .none kV_numbers_fit dc_numbers_fit pm_numbers_fit an_numbers_fit cd_numbers_fit ct_numbers_fit), sl_numbers_fit⟩)
    (c_numbers_fit : PySem.W.codeIn K cd_numbers_fit "numbers_fit" = true)
    (k_numbers_fit : PySem.W.keepIn K (.ref f_numbers_fit) = true)
    (a_needed : PySem.W.nsIn K mainGlobals "needed" = some (some (.ref f_needed)))
    (l_needed : K.lookup f_needed = some ⟨oc_needed, od_needed, .func (PySem.W.fnOf "needed" "needed" (defArgs s_needed) (defBody s_needed) (defScope s_needed) .none kV_needed dc_needed pm_needed an_needed cd_needed ct_needed), sl_needed⟩)
    (c_needed : PySem.W.codeIn K cd_needed "needed" = true)
    (k_needed : PySem.W.keepIn K (.ref f_needed) = true)
    (a_law_tape : PySem.W.nsIn K mainGlobals "_law_tape" = some (some (.ref f_law_tape)))
    (l_law_tape : K.lookup f_law_tape = some ⟨oc_law_tape, od_law_tape, .func (PySem.W.fnOf "_law_tape" "_law_tape" (defArgs s_law_tape) (defBody s_law_tape) (defScope s_law_tape) .none kV_law_tape dc_law_tape pm_law_tape an_law_tape cd_law_tape ct_law_tape), sl_law_tape⟩)
    (c_law_tape : PySem.W.codeIn K cd_law_tape "_law_tape" = true)
    (k_law_tape : PySem.W.keepIn K (.ref f_law_tape) = true)
    (a_law_draw : PySem.W.nsIn K mainGlobals "_law_draw" = some (some (.ref f_law_draw)))
    (l_law_draw : K.lookup f_law_draw = some ⟨oc_law_draw, od_law_draw, .func (PySem.W.fnOf "_law_draw" "_law_draw" (defArgs s_law_draw) (defBody s_law_draw) (defScope s_law_draw) .none kV_law_draw dc_law_draw pm_law_draw an_law_draw cd_law_draw ct_law_draw), sl_law_draw⟩)
    (c_law_draw : PySem.W.codeIn K cd_law_draw "_law_draw" = true)
    (k_law_draw : PySem.W.keepIn K (.ref f_law_draw) = true)
    (a_law_response : PySem.W.nsIn K mainGlobals "_law_response" = some (some (.ref f_law_response)))
    (l_law_response : K.lookup f_law_response = some ⟨oc_law_response, od_law_response, .func (PySem.W.fnOf "_law_response" "_law_response" (defArgs s_law_response) (defBody s_law_response) (defScope s_law_response) .none kV_law_response dc_law_response pm_law_response an_law_response cd_law_response ct_law_response), sl_law_response⟩)
    (c_law_response : PySem.W.codeIn K cd_law_response "_law_response" = true)
    (k_law_response : PySem.W.keepIn K (.ref f_law_response) = true)
    (a_law_all : PySem.W.nsIn K mainGlobals "_law_all" = some (some (.ref f_law_all)))
    (l_law_all : K.lookup f_law_all = some ⟨oc_law_all, od_law_all, .func (PySem.W.fnOf "_law_all" "_law_all" (defArgs s_law_all) (defBody s_law_all) (defScope s_law_all) .none kV_law_all dc_law_all pm_law_all an_law_all cd_law_all ct_law_all), sl_law_all⟩)
    (c_law_all : PySem.W.codeIn K cd_law_all "_law_all" = true)
    (k_law_all : PySem.W.keepIn K (.ref f_law_all) = true)
    (a_law_by_limits : PySem.W.nsIn K mainGlobals "_law_by_limits" = some (some (.ref f_law_by_limits)))
    (l_law_by_limits : K.lookup f_law_by_limits = some ⟨oc_law_by_limits, od_law_by_limits, .func (PySem.W.fnOf "_law_by_limits" "_law_by_limits" (defArgs s_law_by_limits) (defBody s_law_by_limits) (defScope s_law_by_limits) .none kV_law_by_limits dc_law_by_limits pm_law_by_limits an_law_by_limits cd_law_by_limits ct_law_by_limits), sl_law_by_limits⟩)
    (c_law_by_limits : PySem.W.codeIn K cd_law_by_limits "_law_by_limits" = true)
    (k_law_by_limits : PySem.W.keepIn K (.ref f_law_by_limits) = true)
    (a_check_tasks : PySem.W.nsIn K mainGlobals "check_tasks" = some (some (.ref f_check_tasks)))
    (l_check_tasks : K.lookup f_check_tasks = some ⟨oc_check_tasks, od_check_tasks, .func (PySem.W.fnOf "check_tasks" "check_tasks" (defArgs s_check_tasks) (defBody s_check_tasks) (defScope s_check_tasks) .none kV_check_tasks dc_check_tasks pm_check_tasks an_check_tasks cd_check_tasks ct_check_tasks), sl_check_tasks⟩)
    (c_check_tasks : PySem.W.codeIn K cd_check_tasks "check_tasks" = true)
    (k_check_tasks : PySem.W.keepIn K (.ref f_check_tasks) = true)
    (a_least_time : PySem.W.nsIn K mainGlobals "least_time" = some (some (.ref f_least_time)))
    (l_least_time : K.lookup f_least_time = some ⟨oc_least_time, od_least_time, .func (PySem.W.fnOf "least_time" "least_time" (defArgs s_least_time) (defBody s_least_time) (defScope s_least_time) .none kV_least_time dc_least_time pm_least_time an_least_time cd_least_time ct_least_time), sl_least_time⟩)
    (c_least_time : PySem.W.codeIn K cd_least_time "least_time" = true)
    (k_least_time : PySem.W.keepIn K (.ref f_least_time) = true)
    (a_law_name : PySem.W.nsIn K mainGlobals "_law_name" = some (some (.ref f_law_name)))
    (l_law_name : K.lookup f_law_name = some ⟨oc_law_name, od_law_name, .func (PySem.W.fnOf "_law_name" "_law_name" (defArgs s_law_name) (defBody s_law_name) (defScope s_law_name) .none kV_law_name dc_law_name pm_law_name an_law_name cd_law_name ct_law_name), sl_law_name⟩)
    (c_law_name : PySem.W.codeIn K cd_law_name "_law_name" = true)
    (k_law_name : PySem.W.keepIn K (.ref f_law_name) = true)
    (a_law_keeps : PySem.W.nsIn K mainGlobals "_law_keeps" = some (some (.ref f_law_keeps)))
    (l_law_keeps : K.lookup f_law_keeps = some ⟨oc_law_keeps, od_law_keeps, .func (PySem.W.fnOf "_law_keeps" "_law_keeps" (defArgs s_law_keeps) (defBody s_law_keeps) (defScope s_law_keeps) .none kV_law_keeps dc_law_keeps pm_law_keeps an_law_keeps cd_law_keeps ct_law_keeps), sl_law_keeps⟩)
    (c_law_keeps : PySem.W.codeIn K cd_law_keeps "_law_keeps" = true)
    (k_law_keeps : PySem.W.keepIn K (.ref f_law_keeps) = true)
    (a_within_limit : PySem.W.nsIn K mainGlobals "within_limit" = some (some (.ref f_within_limit)))
    (l_within_limit : K.lookup f_within_limit = some ⟨oc_within_limit, od_within_limit, .func (PySem.W.fnOf "within_limit" "within_limit" (defArgs s_within_limit) (defBody s_within_limit) (defScope s_within_limit) .none kV_within_limit dc_within_limit pm_within_limit an_within_limit cd_within_limit ct_within_limit), sl_within_limit⟩)
    (c_within_limit : PySem.W.codeIn K cd_within_limit "within_limit" = true)
    (k_within_limit : PySem.W.keepIn K (.ref f_within_limit) = true)
    (a_by_limits : PySem.W.nsIn K mainGlobals "by_limits" = some (some (.ref f_by_limits)))
    (l_by_limits : K.lookup f_by_limits = some ⟨oc_by_limits, od_by_limits, .func (PySem.W.fnOf "by_limits" "by_limits" (defArgs s_by_limits) (defBody s_by_limits) (defScope s_by_limits) .none kV_by_limits dc_by_limits pm_by_limits an_by_limits cd_by_limits ct_by_limits), sl_by_limits⟩)
    (c_by_limits : PySem.W.codeIn K cd_by_limits "by_limits" = true)
    (k_by_limits : PySem.W.keepIn K (.ref f_by_limits) = true)
    (a_law_row : PySem.W.nsIn K mainGlobals "_law_row" = some (some (.ref f_law_row)))
    (l_law_row : K.lookup f_law_row = some ⟨oc_law_row, od_law_row, .func (PySem.W.fnOf "_law_row" "_law_row" (defArgs s_law_row) (defBody s_law_row) (defScope s_law_row) .none kV_law_row dc_law_row pm_law_row an_law_row cd_law_row ct_law_row), sl_law_row⟩)
    (c_law_row : PySem.W.codeIn K cd_law_row "_law_row" = true)
    (k_law_row : PySem.W.keepIn K (.ref f_law_row) = true)
    (a_law_late : PySem.W.nsIn K mainGlobals "_law_late" = some (some (.ref f_law_late)))
    (l_law_late : K.lookup f_law_late = some ⟨oc_law_late, od_law_late, .func (PySem.W.fnOf "_law_late" "_law_late" (defArgs s_law_late) (defBody s_law_late) (defScope s_law_late) .none kV_law_late dc_law_late pm_law_late an_law_late cd_law_late ct_law_late), sl_law_late⟩)
    (c_law_late : PySem.W.codeIn K cd_law_late "_law_late" = true)
    (k_law_late : PySem.W.keepIn K (.ref f_law_late) = true)
    (a_law_lowest : PySem.W.nsIn K mainGlobals "_law_lowest" = some (some (.ref f_law_lowest)))
    (l_law_lowest : K.lookup f_law_lowest = some ⟨oc_law_lowest, od_law_lowest, .func (PySem.W.fnOf "_law_lowest" "_law_lowest" (defArgs s_law_lowest) (defBody s_law_lowest) (defScope s_law_lowest) .none kV_law_lowest dc_law_lowest pm_law_lowest an_law_lowest cd_law_lowest ct_law_lowest), sl_law_lowest⟩)
    (c_law_lowest : PySem.W.codeIn K cd_law_lowest "_law_lowest" = true)
    (k_law_lowest : PySem.W.keepIn K (.ref f_law_lowest) = true)
    (a_first_late : PySem.W.nsIn K mainGlobals "first_late" = some (some (.ref f_first_late)))
    (l_first_late : K.lookup f_first_late = some ⟨oc_first_late, od_first_late, .func (PySem.W.fnOf "first_late" "first_late" (defArgs s_first_late) (defBody s_first_late) (defScope s_first_late) .none kV_first_late dc_first_late pm_first_late an_first_late cd_first_late ct_first_late), sl_first_late⟩)
    (c_first_late : PySem.W.codeIn K cd_first_late "first_late" = true)
    (k_first_late : PySem.W.keepIn K (.ref f_first_late) = true)
    (a_last_fit : PySem.W.nsIn K mainGlobals "last_fit" = some (some (.ref f_last_fit)))
    (l_last_fit : K.lookup f_last_fit = some ⟨oc_last_fit, od_last_fit, .func (PySem.W.fnOf "last_fit" "last_fit" (defArgs s_last_fit) (defBody s_last_fit) (defScope s_last_fit) .none kV_last_fit dc_last_fit pm_last_fit an_last_fit cd_last_fit ct_last_fit), sl_last_fit⟩)
    (c_last_fit : PySem.W.codeIn K cd_last_fit "last_fit" = true)
    (k_last_fit : PySem.W.keepIn K (.ref f_last_fit) = true)
    (a_law_dues : PySem.W.nsIn K mainGlobals "_law_dues" = some (some (.ref f_law_dues)))
    (l_law_dues : K.lookup f_law_dues = some ⟨oc_law_dues, od_law_dues, .func (PySem.W.fnOf "_law_dues" "_law_dues" (defArgs s_law_dues) (defBody s_law_dues) (defScope s_law_dues) .none kV_law_dues dc_law_dues pm_law_dues an_law_dues cd_law_dues ct_law_dues), sl_law_dues⟩)
    (c_law_dues : PySem.W.codeIn K cd_law_dues "_law_dues" = true)
    (k_law_dues : PySem.W.keepIn K (.ref f_law_dues) = true)
    (a_keeps_limits : PySem.W.nsIn K mainGlobals "keeps_limits" = some (some (.ref f_keeps_limits)))
    (l_keeps_limits : K.lookup f_keeps_limits = some ⟨oc_keeps_limits, od_keeps_limits, .func (PySem.W.fnOf "keeps_limits" "keeps_limits" (defArgs s_keeps_limits) (defBody s_keeps_limits) (defScope s_keeps_limits) .none kV_keeps_limits dc_keeps_limits pm_keeps_limits an_keeps_limits cd_keeps_limits ct_keeps_limits), sl_keeps_limits⟩)
    (c_keeps_limits : PySem.W.codeIn K cd_keeps_limits "keeps_limits" = true)
    (k_keeps_limits : PySem.W.keepIn K (.ref f_keeps_limits) = true)
    (a_best_order : PySem.W.nsIn K mainGlobals "best_order" = some (some (.ref f_best_order)))
    (l_best_order : K.lookup f_best_order = some ⟨oc_best_order, od_best_order, .func (PySem.W.fnOf "best_order" "best_order" (defArgs s_best_order) (defBody s_best_order) (defScope s_best_order) .none kV_best_order dc_best_order pm_best_order an_best_order cd_best_order ct_best_order), sl_best_order⟩)
    (c_best_order : PySem.W.codeIn K cd_best_order "best_order" = true)
    (k_best_order : PySem.W.keepIn K (.ref f_best_order) = true)
    (a_breaking : PySem.W.nsIn K mainGlobals "breaking" = some (some (.ref f_breaking)))
    (l_breaking : K.lookup f_breaking = some ⟨oc_breaking, od_breaking, .func (PySem.W.fnOf "breaking" "breaking" (defArgs s_breaking) (defBody s_breaking) (defScope s_breaking) .none kV_breaking dc_breaking pm_breaking an_breaking cd_breaking ct_breaking), sl_breaking⟩)
    (c_breaking : PySem.W.codeIn K cd_breaking "breaking" = true)
    (k_breaking : PySem.W.keepIn K (.ref f_breaking) = true)
    (a_lowest_first : PySem.W.nsIn K mainGlobals "lowest_first" = some (some (.ref f_lowest_first)))
    (l_lowest_first : K.lookup f_lowest_first = some ⟨oc_lowest_first, od_lowest_first, .func (PySem.W.fnOf "lowest_first" "lowest_first" (defArgs s_lowest_first) (defBody s_lowest_first) (defScope s_lowest_first) .none kV_lowest_first dc_lowest_first pm_lowest_first an_lowest_first cd_lowest_first ct_lowest_first), sl_lowest_first⟩)
    (c_lowest_first : PySem.W.codeIn K cd_lowest_first "lowest_first" = true)
    (k_lowest_first : PySem.W.keepIn K (.ref f_lowest_first) = true)
    (a_law_asked : PySem.W.nsIn K mainGlobals "_law_asked" = some (some (.ref f_law_asked)))
    (l_law_asked : K.lookup f_law_asked = some ⟨oc_law_asked, od_law_asked, .func (PySem.W.fnOf "_law_asked" "_law_asked" (defArgs s_law_asked) (defBody s_law_asked) (defScope s_law_asked) .none kV_law_asked dc_law_asked pm_law_asked an_law_asked cd_law_asked ct_law_asked), sl_law_asked⟩)
    (c_law_asked : PySem.W.codeIn K cd_law_asked "_law_asked" = true)
    (k_law_asked : PySem.W.keepIn K (.ref f_law_asked) = true)
    (a_law : PySem.W.nsIn K mainGlobals "law" = some (some (.ref f_law)))
    (l_law : K.lookup f_law = some ⟨oc_law, od_law, .func (PySem.W.fnOf "law" "law" (defArgs s_law) (defBody s_law) (defScope s_law) .none kV_law dc_law pm_law an_law cd_law ct_law), sl_law⟩)
    (c_law : PySem.W.codeIn K cd_law "law" = true)
    (k_law : PySem.W.keepIn K (.ref f_law) = true)
    (v_LETTERS : PySem.W.nsIn K mainGlobals "LETTERS" = some (some (.str "abcdefghijklmnopqrstuvwxyz" t_LETTERS)))
    (v_MOST_TASKS : PySem.W.nsIn K mainGlobals "MOST_TASKS" = some (some (.int (4) t_MOST_TASKS)))
    (z_len : PySem.W.nsIn K mainGlobals "len" = some none)
    (z_range : PySem.W.nsIn K mainGlobals "range" = some none)
    (z_tuple : PySem.W.nsIn K mainGlobals "tuple" = some none)
    (z_sorted : PySem.W.nsIn K mainGlobals "sorted" = some none)
    (z_int : PySem.W.nsIn K mainGlobals "int" = some none)
    (z_min : PySem.W.nsIn K mainGlobals "min" = some none)
    (z_max : PySem.W.nsIn K mainGlobals "max" = some none)
    (z_list : PySem.W.nsIn K mainGlobals "list" = some none)
    (z_repr : PySem.W.nsIn K mainGlobals "repr" = some none)
    (z_isinstance : PySem.W.nsIn K mainGlobals "isinstance" = some none)
    (x_none : K.lookup lamT = none)
    (x_tab : codeTab K cd_by_limits = some lamT)
    {fb c : Addr} {ob : Obj} {fdb : FuncData} (hb1 : mg "by_limits" = some (.ref fb)) (hb2 : h.get? fb = some ob) (hb3 : ob.data = .func fdb) (hb4 : fdb.code = .ref c)
    : K.lookup lamT = none ∧ (∃ oc vs, h.get? c = some oc ∧ oc.data = .fields vs ∧ vs[11]? = some (.ref lamT)) ∧ ∃ fd : FuncData, (∀ (s : Shared) (v : Value), BindsTo s fd ⟨[v], []⟩ [("script", v)]) ∧ ∀ base : Heap, K.In base → base.Ns mainGlobals mg → LamX.TabB base mg c lamT → FnG l.prog w K mg base 7 fa fd ["script"] (spOf K sp_law) := by
  have e := hfa.symm.trans (PySem.W.mg_of X G a_law)
  cases e
  have g : Gx K mg := ⟨PySem.W.mg_none_of X G z_len, PySem.W.mg_none_of X G z_range, PySem.W.mg_none_of X G z_tuple, PySem.W.mg_none_of X G z_sorted, PySem.W.mg_none_of X G z_int, PySem.W.mg_none_of X G z_min, PySem.W.mg_none_of X G z_max, PySem.W.mg_none_of X G z_list, PySem.W.mg_none_of X G z_repr, PySem.W.mg_none_of X G z_isinstance, ⟨⟨_, PySem.W.mg_of X G v_LETTERS, ⟨_, rfl⟩⟩⟩, ⟨⟨_, PySem.W.mg_of X G v_MOST_TASKS, ⟨_, rfl⟩⟩⟩⟩
  have F_is_name := fun_mk (st := s_is_name) l_is_name c_is_name k_is_name
  have F_numbers_fit := fun_mk (st := s_numbers_fit) l_numbers_fit c_numbers_fit k_numbers_fit
  have F_needed := fun_mk (st := s_needed) l_needed c_needed k_needed
  have F_law_tape := fun_mk (st := s_law_tape) l_law_tape c_law_tape k_law_tape
  have F_law_draw := fun_mk (st := s_law_draw) l_law_draw c_law_draw k_law_draw
  have F_law_response := fun_mk (st := s_law_response) l_law_response c_law_response k_law_response
  have F_law_all := fun_mk (st := s_law_all) l_law_all c_law_all k_law_all
  have F_law_by_limits := fun_mk (st := s_law_by_limits) l_law_by_limits c_law_by_limits k_law_by_limits
  have F_check_tasks := fun_mk (st := s_check_tasks) l_check_tasks c_check_tasks k_check_tasks
  have F_least_time := fun_mk (st := s_least_time) l_least_time c_least_time k_least_time
  have F_law_name := fun_mk (st := s_law_name) l_law_name c_law_name k_law_name
  have F_law_keeps := fun_mk (st := s_law_keeps) l_law_keeps c_law_keeps k_law_keeps
  have F_within_limit := fun_mk (st := s_within_limit) l_within_limit c_within_limit k_within_limit
  have F_by_limits := fun_mk (st := s_by_limits) l_by_limits c_by_limits k_by_limits
  have F_law_row := fun_mk (st := s_law_row) l_law_row c_law_row k_law_row
  have F_law_late := fun_mk (st := s_law_late) l_law_late c_law_late k_law_late
  have F_law_lowest := fun_mk (st := s_law_lowest) l_law_lowest c_law_lowest k_law_lowest
  have F_first_late := fun_mk (st := s_first_late) l_first_late c_first_late k_first_late
  have F_last_fit := fun_mk (st := s_last_fit) l_last_fit c_last_fit k_last_fit
  have F_law_dues := fun_mk (st := s_law_dues) l_law_dues c_law_dues k_law_dues
  have F_keeps_limits := fun_mk (st := s_keeps_limits) l_keeps_limits c_keeps_limits k_keeps_limits
  have F_best_order := fun_mk (st := s_best_order) l_best_order c_best_order k_best_order
  have F_breaking := fun_mk (st := s_breaking) l_breaking c_breaking k_breaking
  have F_lowest_first := fun_mk (st := s_lowest_first) l_lowest_first c_lowest_first k_lowest_first
  have F_law_asked := fun_mk (st := s_law_asked) l_law_asked c_law_asked k_law_asked
  have F_law := fun_mk (st := s_law) l_law c_law k_law
  have eb := hb1.symm.trans (PySem.W.mg_of X G a_by_limits)
  cases eb
  have lb := X _ _ l_by_limits
  rw [hb2] at lb
  cases lb
  cases hb3
  have hcd : cd_by_limits = .ref c := hb4
  refine ⟨x_none, codeTab_is X x_tab hcd, PySem.W.fnOf "law" "law" (defArgs s_law) (defBody s_law) (defScope s_law) .none kV_law dc_law pm_law an_law cd_law ct_law, fun s v => .of_eq rfl, fun base _ _ TB => ok_all g F_is_name (PySem.W.mg_of X G a_is_name) F_numbers_fit (PySem.W.mg_of X G a_numbers_fit) F_needed (PySem.W.mg_of X G a_needed) F_law_tape (PySem.W.mg_of X G a_law_tape) F_law_draw (PySem.W.mg_of X G a_law_draw) F_law_response (PySem.W.mg_of X G a_law_response) F_law_all (PySem.W.mg_of X G a_law_all) F_law_by_limits (PySem.W.mg_of X G a_law_by_limits) F_check_tasks (PySem.W.mg_of X G a_check_tasks) F_least_time (PySem.W.mg_of X G a_least_time) F_law_name (PySem.W.mg_of X G a_law_name) F_law_keeps (PySem.W.mg_of X G a_law_keeps) F_within_limit (PySem.W.mg_of X G a_within_limit) F_by_limits (PySem.W.mg_of X G a_by_limits) F_law_row (PySem.W.mg_of X G a_law_row) F_law_late (PySem.W.mg_of X G a_law_late) F_law_lowest (PySem.W.mg_of X G a_law_lowest) F_first_late (PySem.W.mg_of X G a_first_late) F_last_fit (PySem.W.mg_of X G a_last_fit) F_law_dues (PySem.W.mg_of X G a_law_dues) F_keeps_limits (PySem.W.mg_of X G a_keeps_limits) F_best_order (PySem.W.mg_of X G a_best_order) F_breaking (PySem.W.mg_of X G a_breaking) F_lowest_first (PySem.W.mg_of X G a_lowest_first) F_law_asked (PySem.W.mg_of X G a_law_asked) F_law TB hcd⟩
/-- the script, read alone -/
theorem sp_start {K : PySem.W.Frag} {H : Hp} {a : Addr} {ns : List Int} {E : XK} (hl : ns.length ≤ 63) (hT : H lamT = some (.tbl #[])) (hU : ∀ b xs, H b ≠ some (.tup xs)) (hS : SqL K H a (ns.map V.int)) : spOf K sp_law [.ref a] H (fun v _ => v = .bl true) E := by
  have off_ : ∀ b, b ≠ lamT → (if b = lamT then none else H b) = H b := fun b z => if_neg z
  have sF : SqL K (fun b => if b = lamT then none else H b) a (ns.map V.int) := by
    rcases hS with (h | ⟨o, h⟩) | h
    · exact .inl (.inl ((off_ a fun z => by rw [z, hT] at h; cases h).trans h))
    · exact .inl (.inr ⟨o, (off_ a fun z => by rw [z, hT] at h; cases h).trans h⟩)
    · exact .inr h
  refine ⟨fun b => if b = lamT then none else H b, fun _ => Rg0, [.fz (.rol (ns.map D.int))], fun r _ => r = .fz (.bl true), ⟨fun b o h => ?_, rfl, fun i t h => ?_, fun i j a h => h.elim, fun i a h => h.elim, fun i a h => h.elim, fun i v h => by simp at h, fun b xs h => absurd h (hU b xs), fun p e => ?_⟩, ⟨ns, rfl, hl, rfl⟩, ?_⟩
  · by_cases z : b = lamT
    · have h : (if b = lamT then none else H b) = some o := h
      rw [if_pos z] at h; cases h
    · exact (off_ b z).symm.trans h
  · cases i with
    | zero => cases h; exact ⟨_, rfl, .fz (.rol sF (IsDs.of_ints ns))⟩
    | succ i => simp at h
  · rw [lam_only e]
    refine ⟨if_pos rfl, #[], hT, True.intro, fun pos cv z => ?_⟩
    have z : codeAmong pos [] = some cv := z
    simp [codeAmong] at z
  · rintro r ts' rfl F' H' B' R v s r o
    cases o.is with
    | fz h => cases h; rfl
end Zl
open PySem PySem.W PyProof.Rows
set_option maxRecDepth 100000 in
set_option maxHeartbeats 0 in
theorem PySem.Challenge.cw_betweenanytwosteps_k59_orders_of_levels_holds : PySem.Challenge.rw_betweenanytwosteps_k59_orders_of_levels.Holds := by
  w_on; o_law; k_head; (case hw => w_witness2)
  k_fill
  refine Zl.walk_ofGT (l := PySem.Challenge.rw_betweenanytwosteps_k59_orders_of_levels) (n := 63) (k := 7) (x := "script") (by_ := "by_limits") (T := Zl.lamT) (sp := fun w => Zl.spOf _ Zl.sp_law) rfl (by decide) rfl ⟨rfl, by decide, by decide⟩ (fun w h Y => PySem.W.km_in_of Y) (by decide +kernel) ?F (fun _ _ a ns hl hT hU hS => Zl.sp_start hl hT hU hS)
  case F =>
    intro w mg fa fb c o fdb h KX G hmg hb1 hb2 hb3 hb4
    refine' Zl.all_mk KX G hmg ?a_is_name ?l_is_name ?c_is_name ?k_is_name ?a_numbers_fit ?l_numbers_fit ?c_numbers_fit ?k_numbers_fit ?a_needed ?l_needed ?c_needed ?k_needed ?a_law_tape ?l_law_tape ?c_law_tape ?k_law_tape ?a_law_draw ?l_law_draw ?c_law_draw ?k_law_draw ?a_law_response ?l_law_response ?c_law_response ?k_law_response ?a_law_all ?l_law_all ?c_law_all ?k_law_all ?a_law_by_limits ?l_law_by_limits ?c_law_by_limits ?k_law_by_limits ?a_check_tasks ?l_check_tasks ?c_check_tasks ?k_check_tasks ?a_least_time ?l_least_time ?c_least_time ?k_least_time ?a_law_name ?l_law_name ?c_law_name ?k_law_name ?a_law_keeps ?l_law_keeps ?c_law_keeps ?k_law_keeps ?a_within_limit ?l_within_limit ?c_within_limit ?k_within_limit ?a_by_limits ?l_by_limits ?c_by_limits ?k_by_limits ?a_law_row ?l_law_row ?c_law_row ?k_law_row ?a_law_late ?l_law_late ?c_law_late ?k_law_late ?a_law_lowest ?l_law_lowest ?c_law_lowest ?k_law_lowest ?a_first_late ?l_first_late ?c_first_late ?k_first_late ?a_last_fit ?l_last_fit ?c_last_fit ?k_last_fit ?a_law_dues ?l_law_dues ?c_law_dues ?k_law_dues ?a_keeps_limits ?l_keeps_limits ?c_keeps_limits ?k_keeps_limits ?a_best_order ?l_best_order ?c_best_order ?k_best_order ?a_breaking ?l_breaking ?c_breaking ?k_breaking ?a_lowest_first ?l_lowest_first ?c_lowest_first ?k_lowest_first ?a_law_asked ?l_law_asked ?c_law_asked ?k_law_asked ?a_law ?l_law ?c_law ?k_law ?v_LETTERS ?v_MOST_TASKS ?z_len ?z_range ?z_tuple ?z_sorted ?z_int ?z_min ?z_max ?z_list ?z_repr ?z_isinstance ?x_none ?x_tab hb1 hb2 hb3 hb4
    (case a_is_name => k_is); (case l_is_name => k_is); (case c_is_name => k_is); (case k_is_name => k_is); (case a_numbers_fit => k_is); (case l_numbers_fit => k_is); (case c_numbers_fit => k_is); (case k_numbers_fit => k_is)
    (case a_needed => k_is); (case l_needed => k_is); (case c_needed => k_is); (case k_needed => k_is); (case a_law_tape => k_is); (case l_law_tape => k_is); (case c_law_tape => k_is); (case k_law_tape => k_is)
    (case a_law_draw => k_is); (case l_law_draw => k_is); (case c_law_draw => k_is); (case k_law_draw => k_is); (case a_law_response => k_is); (case l_law_response => k_is); (case c_law_response => k_is); (case k_law_response => k_is)
    (case a_law_all => k_is); (case l_law_all => k_is); (case c_law_all => k_is); (case k_law_all => k_is); (case a_law_by_limits => k_is); (case l_law_by_limits => k_is); (case c_law_by_limits => k_is); (case k_law_by_limits => k_is)
    (case a_check_tasks => k_is); (case l_check_tasks => k_is); (case c_check_tasks => k_is); (case k_check_tasks => k_is); (case a_least_time => k_is); (case l_least_time => k_is); (case c_least_time => k_is); (case k_least_time => k_is)
    (case a_law_name => k_is); (case l_law_name => k_is); (case c_law_name => k_is); (case k_law_name => k_is); (case a_law_keeps => k_is); (case l_law_keeps => k_is); (case c_law_keeps => k_is); (case k_law_keeps => k_is)
    (case a_within_limit => k_is); (case l_within_limit => k_is); (case c_within_limit => k_is); (case k_within_limit => k_is); (case a_by_limits => k_is); (case l_by_limits => k_is); (case c_by_limits => k_is); (case k_by_limits => k_is)
    (case a_law_row => k_is); (case l_law_row => k_is); (case c_law_row => k_is); (case k_law_row => k_is); (case a_law_late => k_is); (case l_law_late => k_is); (case c_law_late => k_is); (case k_law_late => k_is)
    (case a_law_lowest => k_is); (case l_law_lowest => k_is); (case c_law_lowest => k_is); (case k_law_lowest => k_is); (case a_first_late => k_is); (case l_first_late => k_is); (case c_first_late => k_is); (case k_first_late => k_is)
    (case a_last_fit => k_is); (case l_last_fit => k_is); (case c_last_fit => k_is); (case k_last_fit => k_is); (case a_law_dues => k_is); (case l_law_dues => k_is); (case c_law_dues => k_is); (case k_law_dues => k_is)
    (case a_keeps_limits => k_is); (case l_keeps_limits => k_is); (case c_keeps_limits => k_is); (case k_keeps_limits => k_is); (case a_best_order => k_is); (case l_best_order => k_is); (case c_best_order => k_is); (case k_best_order => k_is)
    (case a_breaking => k_is); (case l_breaking => k_is); (case c_breaking => k_is); (case k_breaking => k_is); (case a_lowest_first => k_is); (case l_lowest_first => k_is); (case c_lowest_first => k_is); (case k_lowest_first => k_is)
    (case a_law_asked => k_is); (case l_law_asked => k_is); (case c_law_asked => k_is); (case k_law_asked => k_is); (case a_law => k_is); (case l_law => k_is); (case c_law => k_is); (case k_law => k_is)
    (case v_LETTERS => k_is); (case v_MOST_TASKS => k_is); (case z_len => k_is); (case z_range => k_is); (case z_tuple => k_is); (case z_sorted => k_is); (case z_int => k_is); (case z_min => k_is)
    (case z_max => k_is); (case z_list => k_is); (case z_repr => k_is); (case z_isinstance => k_is); (case x_none => first | kernel_rfl | rfl); (case x_tab => first | kernel_rfl | rfl)
