import PyProof.Rows.All
import Wide.All
import OpenK.AllK
import Wide.FinOn
import HandS.ForMost
import HandS.ForExc
import HandS.Walk
import HandS.Conv
import HandS.Style
import HandS.IsInst
import HandS.Zip
import HandS.Wide
import HandS.Deep
import HandS.SortInts
import KE.SortData
import HandS.More
import PySem.Challenge.RW_ordersapart_k80_whole_one_writing_each
set_option Elab.async false
set_option linter.all false
set_option maxRecDepth 100000
namespace DL
open PySem PySem.Spec L2

abbrev KF := PySem.W.Frag

/-! ### data -/
inductive D where
  | non | bl (b : Bool) | int (i : Int) | str (x : Str)
  | lst (xs : List D) | tup (xs : List D) | scr (ns : List Int)
  | dK (ks : List Key) (xs : List D) | dT (ks : List (List Key)) (xs : List D)
  | exc (c : Str)
  deriving Inhabited

mutual
/-- the value v holds the data d, all of it in F -/
inductive Rep (K : KF) (F : Hp) : D → V → Prop
  | non : Rep K F .non .non
  | bl (b : Bool) : Rep K F (.bl b) (.bl b)
  | int (i : Int) : Rep K F (.int i) (.int i)
  | str (x : Str) : Rep K F (.str x) (.str x)
  | lst {a : Addr} {vs : List V} {ds : List D} : F a = some (.lst vs) → Reps K F ds vs → Rep K F (.lst ds) (.ref a)
  | tup {a : Addr} {vs : List V} {ds : List D} : SqT K F a vs → Reps K F ds vs → Rep K F (.tup ds) (.ref a)
  | scr {a : Addr} {ns : List Int} : SqL K F a (ns.map V.int) → Rep K F (.scr ns) (.ref a)
  | dK {a : Addr} {ks : List Key} {vs : List V} {ds : List D} : F a = some (.dK (ks.zip vs)) → ks.length = vs.length → Reps K F ds vs → Rep K F (.dK ks ds) (.ref a)
  | dT {a : Addr} {ks : List (List Key)} {vs : List V} {ds : List D} : F a = some (.dT (ks.zip vs)) → ks.length = vs.length → Reps K F ds vs → Rep K F (.dT ks ds) (.ref a)
inductive Reps (K : KF) (F : Hp) : List D → List V → Prop
  | nil : Reps K F [] []
  | cons {d : D} {v : V} {ds : List D} {vs : List V} : Rep K F d v → Reps K F ds vs → Reps K F (d :: ds) (v :: vs)
end

theorem SqT_mono {K : KF} {F F' : Hp} {a : Addr} {xs : List V} (e : Same F F') (h : SqT K F a xs) : SqT K F' a xs := by
  rcases h with (h | ⟨o, h⟩) | h
  · exact .inl (.inl (e _ _ h))
  · exact .inl (.inr ⟨o, e _ _ h⟩)
  · exact .inr h

mutual
theorem Rep.mono {K : KF} {F F' : Hp} (e : Same F F') : ∀ {d : D} {v : V}, Rep K F d v → Rep K F' d v
  | _, _, .non => .non
  | _, _, .bl b => .bl b
  | _, _, .int i => .int i
  | _, _, .str x => .str x
  | _, _, .lst h r => .lst (e _ _ h) (Reps.mono e r)
  | _, _, .tup h r => .tup (SqT_mono e h) (Reps.mono e r)
  | _, _, .scr h => .scr (e.seq h)
  | _, _, .dK h l r => .dK (e _ _ h) l (Reps.mono e r)
  | _, _, .dT h l r => .dT (e _ _ h) l (Reps.mono e r)
theorem Reps.mono {K : KF} {F F' : Hp} (e : Same F F') : ∀ {ds : List D} {vs : List V}, Reps K F ds vs → Reps K F' ds vs
  | _, _, .nil => .nil
  | _, _, .cons r rs => .cons (Rep.mono e r) (Reps.mono e rs)
end

section
variable {K : KF} {F : Hp}
theorem Reps.length : ∀ {ds : List D} {vs : List V}, Reps K F ds vs → ds.length = vs.length
  | _, _, .nil => rfl
  | _, _, .cons _ t => congrArg Nat.succ (Reps.length t)
theorem Reps.get : ∀ {ds : List D} {vs : List V} {i : Nat} {d : D}, Reps K F ds vs → ds[i]? = some d → ∃ v, vs[i]? = some v ∧ Rep K F d v
  | _, _, _, _, .nil, e => by simp at e
  | _, _, 0, _, .cons r _, e => by simp at e; subst e; exact ⟨_, rfl, r⟩
  | _, _, i + 1, _, .cons _ t, e => by
    obtain ⟨u, h1, h2⟩ := Reps.get (i := i) t (by simpa using e)
    exact ⟨u, by simpa using h1, h2⟩
theorem Reps.getV : ∀ {ds : List D} {vs : List V} {i : Nat} {v : V}, Reps K F ds vs → vs[i]? = some v → ∃ d, ds[i]? = some d ∧ Rep K F d v
  | _, _, _, _, .nil, e => by simp at e
  | _, _, 0, _, .cons r _, e => by simp at e; subst e; exact ⟨_, rfl, r⟩
  | _, _, i + 1, _, .cons _ t, e => by
    obtain ⟨u, h1, h2⟩ := Reps.getV (i := i) t (by simpa using e)
    exact ⟨u, by simpa using h1, h2⟩
theorem Reps.append : ∀ {ds es : List D} {vs ws : List V}, Reps K F ds vs → Reps K F es ws → Reps K F (ds ++ es) (vs ++ ws)
  | _, _, _, _, .nil, s => s
  | _, _, _, _, .cons r t, s => .cons r (Reps.append t s)
theorem Reps.take : ∀ {ds : List D} {vs : List V} (n : Nat), Reps K F ds vs → Reps K F (ds.take n) (vs.take n)
  | _, _, 0, _ => .nil
  | _, _, _ + 1, .nil => .nil
  | _, _, n + 1, .cons r t => .cons r (Reps.take n t)
theorem Reps.drop : ∀ {ds : List D} {vs : List V} (n : Nat), Reps K F ds vs → Reps K F (ds.drop n) (vs.drop n)
  | _, _, 0, r => r
  | _, _, _ + 1, .nil => .nil
  | _, _, n + 1, .cons _ t => Reps.drop n t
theorem Reps.set {d : D} {v : V} (r : Rep K F d v) : ∀ {ds : List D} {vs : List V} (i : Nat), Reps K F ds vs → Reps K F (ds.set i d) (vs.set i v)
  | _, _, _, .nil => .nil
  | _, _, 0, .cons _ t => .cons r t
  | _, _, i + 1, .cons q t => .cons q (Reps.set r i t)
theorem Reps.eraseIdx : ∀ {ds : List D} {vs : List V} (i : Nat), Reps K F ds vs → Reps K F (ds.eraseIdx i) (vs.eraseIdx i)
  | _, _, _, .nil => .nil
  | _, _, 0, .cons _ t => t
  | _, _, i + 1, .cons q t => .cons q (Reps.eraseIdx i t)
theorem Reps.reverse {ds : List D} {vs : List V} (h : Reps K F ds vs) : Reps K F ds.reverse vs.reverse := by
  induction h using Reps.rec (motive_1 := fun _ _ _ => True) with
  | nil => exact .nil
  | cons r t _ ih => rw [List.reverse_cons, List.reverse_cons]; exact Reps.append ih (.cons r .nil)
  | _ => trivial
theorem Reps.dropLast {ds : List D} {vs : List V} (h : Reps K F ds vs) : Reps K F ds.dropLast vs.dropLast := by
  rw [List.dropLast_eq_take, List.dropLast_eq_take, h.length]
  exact h.take _
theorem Reps.replicate {d : D} {v : V} (r : Rep K F d v) : ∀ n, Reps K F (List.replicate n d) (List.replicate n v)
  | 0 => .nil
  | n + 1 => by rw [List.replicate_succ, List.replicate_succ]; exact .cons r (Reps.replicate r n)
theorem Reps.rep {ds : List D} {vs : List V} (h : Reps K F ds vs) : ∀ k : Nat, Reps K F (List.replicate k ds).flatten (List.replicate k vs).flatten
  | 0 => .nil
  | k + 1 => by
    rw [List.replicate_succ, List.replicate_succ, List.flatten_cons, List.flatten_cons]
    exact h.append (Reps.rep h k)
theorem Reps.ints : ∀ ns : List Int, Reps K F (ns.map D.int) (ns.map V.int)
  | [] => .nil
  | n :: ns => .cons (.int n) (Reps.ints ns)
theorem Reps.of_ints : ∀ {ns : List Int} {vs : List V}, Reps K F (ns.map D.int) vs → vs = ns.map V.int
  | [], _, h => by cases h; rfl
  | n :: ns, _, h => by
    cases h with
    | cons r t => cases r; rw [Reps.of_ints t]; rfl
theorem Reps.of_strs : ∀ {ns : List Str} {vs : List V}, Reps K F (ns.map D.str) vs → vs = ns.map V.str
  | [], _, h => by cases h; rfl
  | n :: ns, _, h => by
    cases h with
    | cons r t => cases r; rw [Reps.of_strs t]; rfl
theorem Reps.strs : ∀ ns : List Str, Reps K F (ns.map D.str) (ns.map V.str)
  | [] => .nil
  | n :: ns => .cons (.str n) (Reps.strs ns)
theorem Reps.of_bls : ∀ {ns : List Bool} {vs : List V}, Reps K F (ns.map D.bl) vs → vs = ns.map V.bl
  | [], _, h => by cases h; rfl
  | n :: ns, _, h => by
    cases h with
    | cons r t => cases r; rw [Reps.of_bls t]; rfl
end

/-! ### what a slot holds -/
inductive T where
  | dead | fz (d : D) | ol (ds : List D) | oK (ks : List Key) (ds : List D) | oT (ks : List (List Key)) (ds : List D)
  | o2 (dss : List (List D))
  deriving Inhabited
/-- the rows of an owned list of owned lists -/
inductive Rows (K : KF) (F H : Hp) : List (List D) → List Addr → Prop
  | nil : Rows K F H [] []
  | cons {b : Addr} {vs : List V} {ds : List D} {dss : List (List D)} {as : List Addr} : H b = some (.lst vs) → Reps K F ds vs → Rows K F H dss as → Rows K F H (ds :: dss) (b :: as)
inductive RepT (K : KF) (F H : Hp) : T → V → List Addr → Prop
  | fz {d : D} {v : V} : Rep K F d v → RepT K F H (.fz d) v []
  | ol {a : Addr} {vs : List V} {ds : List D} : H a = some (.lst vs) → Reps K F ds vs → RepT K F H (.ol ds) (.ref a) [a]
  | oK {a : Addr} {ks : List Key} {vs : List V} {ds : List D} : H a = some (.dK (ks.zip vs)) → ks.length = vs.length → Reps K F ds vs → RepT K F H (.oK ks ds) (.ref a) [a]
  | oT {a : Addr} {ks : List (List Key)} {vs : List V} {ds : List D} : H a = some (.dT (ks.zip vs)) → ks.length = vs.length → Reps K F ds vs → RepT K F H (.oT ks ds) (.ref a) [a]
  | o2 {a : Addr} {as : List Addr} {dss : List (List D)} : H a = some (.lst (as.map V.ref)) → Rows K F H dss as → RepT K F H (.o2 dss) (.ref a) (a :: as)

section
variable {K : KF} {F F' H H' : Hp}
theorem Rows.frame (e : Same F F') : ∀ {dss : List (List D)} {as : List Addr}, Rows K F H dss as → (∀ a ∈ as, ∀ o, H a = some o → H' a = some o) → Rows K F' H' dss as
  | _, _, .nil, _ => .nil
  | _, _, .cons h r t, k => .cons (k _ (by simp) _ h) (r.mono e) (Rows.frame e t fun a ha => k a (by simp [ha]))
theorem Rows.dom : ∀ {dss : List (List D)} {as : List Addr}, Rows K F H dss as → ∀ a ∈ as, H a ≠ none
  | _, _, .nil, _, ha => by cases ha
  | _, _, .cons h r t, a, ha => by
    rcases List.mem_cons.mp ha with rfl | ha
    · rw [h]; exact fun z => nomatch z
    · exact Rows.dom t a ha
theorem RepT.frame {t : T} {v : V} {fp : List Addr} (r : RepT K F H t v fp) (e : Same F F') (k : ∀ a ∈ fp, ∀ o, H a = some o → H' a = some o) : RepT K F' H' t v fp := by
  cases r with
  | fz r => exact .fz (r.mono e)
  | ol h r => exact .ol (k _ (by simp) _ h) (r.mono e)
  | oK h l r => exact .oK (k _ (by simp) _ h) l (r.mono e)
  | oT h l r => exact .oT (k _ (by simp) _ h) l (r.mono e)
  | o2 h r => exact .o2 (k _ (by simp) _ h) (r.frame e fun a ha => k a (by simp [ha]))
theorem RepT.dom {t : T} {v : V} {fp : List Addr} (r : RepT K F H t v fp) : ∀ a ∈ fp, H a ≠ none := by
  intro a ha
  cases r with
  | fz r => cases ha
  | ol h r => simp at ha; subst ha; rw [h]; exact fun z => nomatch z
  | oK h l r => simp at ha; subst ha; rw [h]; exact fun z => nomatch z
  | oT h l r => simp at ha; subst ha; rw [h]; exact fun z => nomatch z
  | o2 h r =>
    rcases List.mem_cons.mp ha with rfl | ha
    · rw [h]; exact fun z => nomatch z
    · exact r.dom a ha
end

/-- its data -/
@[simp] def T.d : T → Option D
  | .fz d => some d
  | .ol ds => some (.lst ds)
  | .oK ks ds => some (.dK ks ds)
  | .oT ks ds => some (.dT ks ds)
  | .o2 dss => some (.lst (dss.map D.lst))
  | .dead => none
/-- .. of one level -/
@[simp] def T.d1 : T → Option D
  | .fz d => some d
  | .ol ds => some (.lst ds)
  | .oK ks ds => some (.dK ks ds)
  | .oT ks ds => some (.dT ks ds)
  | .o2 _ => none
  | .dead => none

/-- data that may be read now: its first level may be an owned one -/
inductive Vw (K : KF) (F H : Hp) : D → V → Prop
  | fz {d : D} {v : V} : Rep K F d v → Vw K F H d v
  | ol {a : Addr} {vs : List V} {ds : List D} : H a = some (.lst vs) → Reps K F ds vs → Vw K F H (.lst ds) (.ref a)
  | oK {a : Addr} {ks : List Key} {vs : List V} {ds : List D} : H a = some (.dK (ks.zip vs)) → ks.length = vs.length → Reps K F ds vs → Vw K F H (.dK ks ds) (.ref a)
  | oT {a : Addr} {ks : List (List Key)} {vs : List V} {ds : List D} : H a = some (.dT (ks.zip vs)) → ks.length = vs.length → Reps K F ds vs → Vw K F H (.dT ks ds) (.ref a)
inductive Vws (K : KF) (F H : Hp) : List D → List V → Prop
  | nil : Vws K F H [] []
  | cons {d : D} {v : V} {ds : List D} {vs : List V} : Vw K F H d v → Vws K F H ds vs → Vws K F H (d :: ds) (v :: vs)
section
variable {K : KF} {F F' H H' : Hp}
theorem RepT.vw {t : T} {v : V} {fp : List Addr} (r : RepT K F H t v fp) {d : D} (e : t.d1 = some d) : Vw K F H d v := by
  cases r with
  | fz r => cases e; exact .fz r
  | ol h r => cases e; exact .ol h r
  | oK h l r => cases e; exact .oK h l r
  | oT h l r => cases e; exact .oT h l r
  | o2 h r => cases e
theorem Vw.lst {ds : List D} {v : V} (s : Same F H) (r : Vw K F H (.lst ds) v) : ∃ a vs, v = .ref a ∧ H a = some (.lst vs) ∧ Reps K F ds vs := by
  cases r with
  | fz r => cases r with | lst h r => exact ⟨_, _, rfl, s _ _ h, r⟩
  | ol h r => exact ⟨_, _, rfl, h, r⟩
theorem Vw.rep {d : D} {v : V} (s : Same F H) (r : Vw K F H d v) : Rep K H d v := by
  cases r with
  | fz r => exact r.mono s
  | ol h r => exact .lst h (r.mono s)
  | oK h l r => exact .dK h l (r.mono s)
  | oT h l r => exact .dT h l (r.mono s)
theorem Vws.reps (s : Same F H) : ∀ {ds : List D} {vs : List V}, Vws K F H ds vs → Reps K H ds vs
  | _, _, .nil => .nil
  | _, _, .cons r t => .cons (r.rep s) (Vws.reps s t)
theorem Vw.int {i : Int} {v : V} (r : Vw K F H (.int i) v) : v = .int i := by
  cases r with | fz r => cases r; rfl
theorem Vw.str {i : Str} {v : V} (r : Vw K F H (.str i) v) : v = .str i := by
  cases r with | fz r => cases r; rfl
theorem Vw.bl {i : Bool} {v : V} (r : Vw K F H (.bl i) v) : v = .bl i := by
  cases r with | fz r => cases r; rfl
theorem Vw.non {v : V} (r : Vw K F H .non v) : v = .non := by
  cases r with | fz r => cases r; rfl
theorem Vw.tup {ds : List D} {v : V} (r : Vw K F H (.tup ds) v) : ∃ a vs, v = .ref a ∧ SqT K F a vs ∧ Reps K F ds vs := by
  cases r with | fz r => cases r with | tup h r => exact ⟨_, _, rfl, h, r⟩
theorem Vw.scr {ns : List Int} {v : V} (r : Vw K F H (.scr ns) v) : ∃ a, v = .ref a ∧ SqL K F a (ns.map V.int) := by
  cases r with | fz r => cases r with | scr h => exact ⟨_, rfl, h⟩
theorem Vw.dK {ks : List Key} {ds : List D} {v : V} (s : Same F H) (r : Vw K F H (.dK ks ds) v) : ∃ a vs, v = .ref a ∧ H a = some (.dK (ks.zip vs)) ∧ ks.length = vs.length ∧ Reps K F ds vs := by
  cases r with
  | fz r => cases r with | dK h l r => exact ⟨_, _, rfl, s _ _ h, l, r⟩
  | oK h l r => exact ⟨_, _, rfl, h, l, r⟩
theorem Vw.dT {ks : List (List Key)} {ds : List D} {v : V} (s : Same F H) (r : Vw K F H (.dT ks ds) v) : ∃ a vs, v = .ref a ∧ H a = some (.dT (ks.zip vs)) ∧ ks.length = vs.length ∧ Reps K F ds vs := by
  cases r with
  | fz r => cases r with | dT h l r => exact ⟨_, _, rfl, s _ _ h, l, r⟩
  | oT h l r => exact ⟨_, _, rfl, h, l, r⟩
theorem Rows.reps (s : Same F H) : ∀ {dss : List (List D)} {as : List Addr}, Rows K F H dss as → Reps K H (dss.map D.lst) (as.map V.ref)
  | _, _, .nil => .nil
  | _, _, .cons h r t => .cons (.lst h (r.mono s)) (Rows.reps s t)
/-- all of it, as it stands in H -/
theorem RepT.rep {t : T} {v : V} {fp : List Addr} (s : Same F H) (r : RepT K F H t v fp) {d : D} (e : t.d = some d) : Rep K H d v := by
  cases r with
  | fz r => cases e; exact r.mono s
  | ol h r => cases e; exact .lst h (r.mono s)
  | oK h l r => cases e; exact .dK h l (r.mono s)
  | oT h l r => cases e; exact .dT h l (r.mono s)
  | o2 h r => cases e; exact .lst h (r.reps s)
end
end DL

set_option Elab.async false
set_option linter.all false
set_option maxRecDepth 100000
namespace DL
open PySem PySem.Spec L2

/-! ### freezing -/
def glue (F H : Hp) (fp : List Addr) : Hp := fun a => if a ∈ fp then H a else F a
section
variable {K : KF} {F H : Hp} {fp : List Addr}
theorem glue_in {a : Addr} (h : a ∈ fp) : glue F H fp a = H a := by unfold glue; rw [if_pos h]
theorem glue_out {a : Addr} (h : a ∉ fp) : glue F H fp a = F a := by unfold glue; rw [if_neg h]
theorem glue_same (o : ∀ a ∈ fp, F a = none) : Same F (glue F H fp) := fun a u e => by
  by_cases h : a ∈ fp
  · rw [o a h] at e; cases e
  · rw [glue_out h]; exact e
theorem glue_sub (s : Same F H) : Same (glue F H fp) H := fun a u e => by
  by_cases h : a ∈ fp
  · rw [glue_in h] at e; exact e
  · rw [glue_out h] at e; exact s a u e
theorem glue_dom {a : Addr} (h : glue F H fp a ≠ none) : F a ≠ none ∨ a ∈ fp := by
  by_cases m : a ∈ fp
  · exact .inr m
  · rw [glue_out m] at h; exact .inl h
theorem Rows.glue {dss : List (List D)} {as : List Addr} (r : Rows K F H dss as) : ∀ (F' : Hp), Same F F' → (∀ a ∈ as, F' a = H a) → Reps K F' (dss.map D.lst) (as.map V.ref) := by
  induction r with
  | nil => intro _ _ _; exact .nil
  | cons h r t ih => intro F' s k; exact .cons (.lst ((k _ (by simp)).trans h) (r.mono s)) (ih F' s fun a ha => k a (by simp [ha]))
theorem RepT.freeze {t : T} {v : V} (r : RepT K F H t v fp) {d : D} (e : t.d = some d) (o : ∀ a ∈ fp, F a = none) : Rep K (glue F H fp) d v := by
  have s := glue_same (H := H) o
  cases r with
  | fz r => cases e; exact r.mono s
  | ol h r => cases e; exact .lst ((glue_in (by simp)).trans h) (r.mono s)
  | oK h l r => cases e; exact .dK ((glue_in (by simp)).trans h) l (r.mono s)
  | oT h l r => cases e; exact .dT ((glue_in (by simp)).trans h) l (r.mono s)
  | o2 h r => cases e; exact .lst ((glue_in (by simp)).trans h) (r.glue _ s fun a ha => glue_in (by simp [ha]))
end

/-! ### slots -/
inductive Sl (K : KF) (F H : Hp) : List T → St → List Addr → Prop
  | nil : Sl K F H [] [] []
  | dead {ρ : List T} {o : Option V} {σ : St} {fp : List Addr} : Sl K F H ρ σ fp → Sl K F H (.dead :: ρ) (o :: σ) fp
  | cons {t : T} {v : V} {ρ : List T} {σ : St} {f1 f2 : List Addr} : RepT K F H t v f1 → Sl K F H ρ σ f2 → Sl K F H (t :: ρ) (some v :: σ) (f1 ++ f2)
section
variable {K : KF} {F F' H H' : Hp}
theorem Sl.length : ∀ {ρ : List T} {σ : St} {fp : List Addr}, Sl K F H ρ σ fp → ρ.length = σ.length
  | _, _, _, .nil => rfl
  | _, _, _, .dead t => congrArg Nat.succ t.length
  | _, _, _, .cons _ t => congrArg Nat.succ t.length
theorem Sl.frame (e : Same F F') : ∀ {ρ : List T} {σ : St} {fp : List Addr}, Sl K F H ρ σ fp → (∀ a ∈ fp, ∀ o, H a = some o → H' a = some o) → Sl K F' H' ρ σ fp
  | _, _, _, .nil, _ => .nil
  | _, _, _, .dead t, k => .dead (t.frame e k)
  | _, _, _, .cons r t, k => .cons (r.frame e fun a ha => k a (by simp [ha])) (t.frame e fun a ha => k a (by simp [ha]))
theorem Sl.dom : ∀ {ρ : List T} {σ : St} {fp : List Addr}, Sl K F H ρ σ fp → ∀ a ∈ fp, H a ≠ none
  | _, _, _, .nil, _, h => by cases h
  | _, _, _, .dead t, a, h => t.dom a h
  | _, _, _, .cons r t, a, h => by
    rcases List.mem_append.mp h with h | h
    · exact r.dom a h
    · exact t.dom a h
/-- what stands at i, taken out -/
theorem Sl.out : ∀ {ρ : List T} {σ : St} {fp : List Addr} {i : Nat} {t : T}, Sl K F H ρ σ fp → ρ[i]? = some t → t ≠ .dead →
    ∃ v f1 f2, σ[i]? = some (some v) ∧ RepT K F H t v f1 ∧ Sl K F H (ρ.set i .dead) σ f2 ∧ fp.Perm (f1 ++ f2)
  | _, _, _, _, _, .nil, e, _ => by simp at e
  | _, _, _, 0, _, .dead t, e, n => by simp at e; exact absurd e.symm n
  | _, _, _, 0, _, .cons r t, e, n => by simp at e; subst e; exact ⟨_, _, _, rfl, r, .dead t, .refl _⟩
  | _, _, _, i + 1, _, .dead t, e, n => by
    obtain ⟨v, f1, f2, h1, h2, h3, h4⟩ := Sl.out (i := i) t (by simpa using e) n
    exact ⟨v, f1, f2, by simpa using h1, h2, .dead h3, h4⟩
  | _, _, _, i + 1, _, .cons (f1 := g) r t, e, n => by
    obtain ⟨v, f1, f2, h1, h2, h3, h4⟩ := Sl.out (i := i) t (by simpa using e) n
    refine ⟨v, f1, g ++ f2, by simpa using h1, h2, .cons r h3, ?_⟩
    refine (List.Perm.append_left g h4).trans ?_
    rw [← List.append_assoc, ← List.append_assoc]
    exact List.Perm.append_right f2 List.perm_append_comm
/-- put in at i, where nothing stands -/
theorem Sl.put {t : T} {v : V} {g : List Addr} (r : RepT K F H t v g) : ∀ {ρ : List T} {σ : St} {fp : List Addr} {i : Nat}, Sl K F H ρ σ fp → ρ[i]? = some .dead → σ[i]? = some (some v) →
    ∃ f, Sl K F H (ρ.set i t) σ f ∧ f.Perm (g ++ fp)
  | _, _, _, _, .nil, e, _ => by simp at e
  | _, _, _, 0, .dead t, e, n => by simp at n; subst n; exact ⟨_, .cons r t, .refl _⟩
  | _, _, _, 0, .cons r' t, e, n => by simp at e; subst e; cases r'
  | _, _, _, i + 1, .dead t, e, n => by
    obtain ⟨f, h1, h2⟩ := Sl.put r (i := i) t (by simpa using e) (by simpa using n)
    exact ⟨f, .dead h1, h2⟩
  | _, _, _, i + 1, .cons (f1 := k) r' t, e, n => by
    obtain ⟨f, h1, h2⟩ := Sl.put r (i := i) t (by simpa using e) (by simpa using n)
    refine ⟨k ++ f, .cons r' h1, ?_⟩
    refine (List.Perm.append_left k h2).trans ?_
    rw [← List.append_assoc, ← List.append_assoc]
    exact List.Perm.append_right _ List.perm_append_comm
/-- what stands at i is forgotten -/
theorem Sl.kill {ρ : List T} {σ : St} {fp : List Addr} (s : Sl K F H ρ σ fp) (i : Nat) : ∃ f1 f2, Sl K F H (ρ.set i .dead) σ f2 ∧ fp.Perm (f1 ++ f2) := by
  cases e : ρ[i]? with
  | none => exact ⟨[], fp, by rw [List.set_eq_of_length_le (List.getElem?_eq_none_iff.mp e)]; exact s, .refl _⟩
  | some t =>
    by_cases n : t = .dead
    · subst n
      refine ⟨[], fp, ?_, .refl _⟩
      have : ρ.set i .dead = ρ := by
        apply List.ext_getElem?
        intro j
        by_cases h : i = j
        · subst h
          rw [List.getElem?_set_self (by exact (List.getElem?_eq_some_iff.mp e).1), e]
        · rw [List.getElem?_set_ne h]
      rw [this]; exact s
    · obtain ⟨v, f1, f2, _, _, h3, h4⟩ := s.out e n
      exact ⟨f1, f2, h3, h4⟩
/-- a dead slot may be set -/
theorem Sl.deadσ : ∀ {ρ : List T} {σ : St} {fp : List Addr} {i : Nat} (o : Option V), Sl K F H ρ σ fp → ρ[i]? = some .dead → Sl K F H ρ (σ.set i o) fp
  | _, _, _, _, _, .nil, e => by simp at e
  | _, _, _, 0, o, .dead t, e => .dead t
  | _, _, _, 0, o, .cons r t, e => by simp at e; subst e; cases r
  | _, _, _, i + 1, o, .dead t, e => .dead (Sl.deadσ (i := i) o t (by simpa using e))
  | _, _, _, i + 1, o, .cons r t, e => .cons r (Sl.deadσ (i := i) o t (by simpa using e))
theorem Sl.set {t : T} {v : V} {g : List Addr} (r : RepT K F H t v g) {ρ : List T} {σ : St} {fp : List Addr} {i : Nat} (s : Sl K F H ρ σ fp) (hi : i < ρ.length) :
    ∃ f1 f2 f, Sl K F H (ρ.set i t) (σ.set i (some v)) f ∧ f.Perm (g ++ f2) ∧ fp.Perm (f1 ++ f2) := by
  obtain ⟨f1, f2, h1, h2⟩ := s.kill i
  have e : (ρ.set i .dead)[i]? = some .dead := List.getElem?_set_self hi
  have h3 := Sl.deadσ (some v) h1 e
  obtain ⟨f, h4, h5⟩ := Sl.put r h3 e (by rw [List.getElem?_set_self (by rw [← s.length]; exact hi)])
  refine ⟨f1, f2, f, ?_, h5, h2⟩
  rw [List.set_set] at h4
  exact h4
/-- the slots at which something stands -/
theorem Sl.agree : ∀ {ρ : List T} {σ σ' : St} {fp : List Addr}, Sl K F H ρ σ fp → σ.length = σ'.length → (∀ (i : Nat) t, ρ[i]? = some t → t ≠ .dead → σ'[i]? = σ[i]?) → Sl K F H ρ σ' fp
  | _, _, [], _, .nil, _, _ => .nil
  | _, _, _ :: _, _, .nil, h, _ => by simp at h
  | _, _, [], _, .dead t, h, _ => by simp at h
  | _, _, o :: σ', _, .dead t, h, k => .dead (Sl.agree t (by simpa using h) fun i t' e n => by simpa using k (i + 1) t' (by simpa using e) n)
  | _, _, [], _, .cons r t, h, _ => by simp at h
  | _, _, o :: σ', _, .cons (t := t0) (v := v0) r t, h, k => by
    have e : o = some v0 := by
      have := k 0 t0 rfl (by intro z; subst z; cases r)
      simpa using this
    subst e
    exact .cons r (Sl.agree t (by simpa using h) fun i t' e n => by simpa using k (i + 1) t' (by simpa using e) n)
theorem Sl.append : ∀ {ρ ρ' : List T} {σ σ' : St} {fp fp' : List Addr}, Sl K F H ρ σ fp → Sl K F H ρ' σ' fp' → Sl K F H (ρ ++ ρ') (σ ++ σ') (fp ++ fp')
  | _, _, _, _, _, _, .nil, s => s
  | _, _, _, _, _, _, .dead t, s => .dead (Sl.append t s)
  | _, _, _, _, _, _, .cons r t, s => by rw [List.append_assoc]; exact .cons r (Sl.append t s)
theorem Sl.deads : ∀ n, Sl K F H (List.replicate n .dead) (List.replicate n none) []
  | 0 => .nil
  | n + 1 => .dead (Sl.deads n)
end

/-! ### values on the way -/
inductive R where
  | tv (t : T) | bw (i : Nat)
  deriving Inhabited
inductive RepR (K : KF) (F H : Hp) (σ : St) : R → V → List Addr → Prop
  | tv {t : T} {v : V} {f : List Addr} : RepT K F H t v f → RepR K F H σ (.tv t) v f
  | bw {i : Nat} {v : V} : σ[i]? = some (some v) → RepR K F H σ (.bw i) v []
inductive RepRs (K : KF) (F H : Hp) (σ : St) : List R → List V → List Addr → Prop
  | nil : RepRs K F H σ [] [] []
  | cons {r : R} {v : V} {rs : List R} {vs : List V} {f1 f2 : List Addr} : RepR K F H σ r v f1 → RepRs K F H σ rs vs f2 → RepRs K F H σ (r :: rs) (v :: vs) (f1 ++ f2)
section
variable {K : KF} {F F' H H' : Hp} {σ : St}
theorem RepR.frame {r : R} {v : V} {fp : List Addr} (x : RepR K F H σ r v fp) (e : Same F F') (k : ∀ a ∈ fp, ∀ o, H a = some o → H' a = some o) : RepR K F' H' σ r v fp := by
  cases x with
  | tv r => exact .tv (r.frame e k)
  | bw h => exact .bw h
theorem RepR.dom {r : R} {v : V} {fp : List Addr} (x : RepR K F H σ r v fp) : ∀ a ∈ fp, H a ≠ none := by
  cases x with
  | tv r => exact r.dom
  | bw h => intro a ha; cases ha
theorem RepRs.frame (e : Same F F') : ∀ {rs : List R} {vs : List V} {fp : List Addr}, RepRs K F H σ rs vs fp → (∀ a ∈ fp, ∀ o, H a = some o → H' a = some o) → RepRs K F' H' σ rs vs fp
  | _, _, _, .nil, _ => .nil
  | _, _, _, .cons r t, k => .cons (r.frame e fun a ha => k a (by simp [ha])) (t.frame e fun a ha => k a (by simp [ha]))
theorem RepRs.dom : ∀ {rs : List R} {vs : List V} {fp : List Addr}, RepRs K F H σ rs vs fp → ∀ a ∈ fp, H a ≠ none
  | _, _, _, .nil, _, h => by cases h
  | _, _, _, .cons r t, a, h => by
    rcases List.mem_append.mp h with h | h
    · exact r.dom a h
    · exact t.dom a h
theorem RepRs.append : ∀ {rs rs' : List R} {vs vs' : List V} {fp fp' : List Addr}, RepRs K F H σ rs vs fp → RepRs K F H σ rs' vs' fp' → RepRs K F H σ (rs ++ rs') (vs ++ vs') (fp ++ fp')
  | _, _, _, _, _, _, .nil, s => s
  | _, _, _, _, _, _, .cons r t, s => by rw [List.append_assoc]; exact .cons r (RepRs.append t s)
theorem RepRs.length : ∀ {rs : List R} {vs : List V} {fp : List Addr}, RepRs K F H σ rs vs fp → rs.length = vs.length
  | _, _, _, .nil => rfl
  | _, _, _, .cons _ t => congrArg Nat.succ t.length
end

/-! ### the state -/
structure OKV (K : KF) (F H : Hp) (ρ : List T) (σ : St) (rs : List R) (vs : List V) (fp ft : List Addr) : Prop where
  sub : Same F H
  sl : ∃ f, Sl K F H ρ σ f ∧ f.Perm fp
  rp : ∃ f, RepRs K F H σ rs vs f ∧ f.Perm ft
  nd : (fp ++ ft).Nodup
  out : ∀ a ∈ fp ++ ft, F a = none
abbrev OK (K : KF) (F H : Hp) (ρ : List T) (σ : St) (fp : List Addr) : Prop := OKV K F H ρ σ [] [] fp []
structure Ext (F H : Hp) (fp : List Addr) (F' H' : Hp) (fp' : List Addr) : Prop where
  sub : Same F F'
  dom : ∀ a, F' a ≠ none → F a ≠ none ∨ a ∈ fp ∨ H a = none
  fps : ∀ a ∈ fp', a ∈ fp ∨ H a = none
  keep : ∀ a o, H a = some o → a ∉ fp → H' a = some o

section
variable {K : KF} {F F' F'' H H' H'' : Hp} {fp fp' fp'' ft ft' : List Addr} {ρ ρ' : List T} {σ : St} {rs rs' : List R} {vs vs' : List V}
theorem some_of {H : Hp} {a : Addr} (h : H a ≠ none) : ∃ o, H a = some o := by
  cases e : H a with
  | none => exact absurd e h
  | some o => exact ⟨o, rfl⟩
theorem Ext.refl : Ext F H fp F H fp := ⟨Same.refl _, fun _ h => .inl h, fun _ h => .inl h, fun _ _ h _ => h⟩
theorem Ext.sub' (e : Ext F H fp F' H' fp') (s : ∀ a ∈ fp'', a ∈ fp') : Ext F H fp F' H' fp'' := ⟨e.sub, e.dom, fun a h => e.fps a (s a h), e.keep⟩
theorem Ext.old (e : Ext F H fp F' H' fp') {a : Addr} (h : a ∈ fp ∨ H a = none ∨ H' a = none) : a ∈ fp ∨ H a = none := by
  rcases h with h | h | h
  · exact .inl h
  · exact .inr h
  · cases q : H a with
    | none => exact .inr rfl
    | some o =>
      refine .inl ?_
      by_cases m : a ∈ fp
      · exact m
      · rw [e.keep a o q m] at h; cases h
theorem Ext.trans (e : Ext F H fp F' H' fp') (e' : Ext F' H' fp' F'' H'' fp'') : Ext F H fp F'' H'' fp'' := by
  have fresh : ∀ a, a ∈ fp' ∨ H' a = none → a ∈ fp ∨ H a = none := fun a h => by
    rcases h with h | h
    · exact e.fps a h
    · exact e.old (.inr (.inr h))
  refine ⟨e.sub.trans e'.sub, fun a h => ?_, fun a h => fresh a (e'.fps a h), fun a o h n => ?_⟩
  · rcases e'.dom a h with h | h
    · exact e.dom a h
    · exact .inr (fresh a h)
  · refine e'.keep a o (e.keep a o h n) fun m => ?_
    rcases e.fps a m with q | q
    · exact n q
    · rw [q] at h; cases h
theorem Ext.carry (e : Ext F H fp F' H' (fp' ++ ft)) (e' : Ext F' H' fp' F'' H'' (fp'' ++ ft')) : Ext F H fp F'' H'' (fp'' ++ (ft ++ ft')) := by
  have fresh : ∀ a, a ∈ fp' ∨ H' a = none → a ∈ fp ∨ H a = none := fun a h => by
    rcases h with h | h
    · exact e.fps a (List.mem_append_left _ h)
    · exact e.old (.inr (.inr h))
  refine ⟨e.sub.trans e'.sub, fun a h => ?_, fun a h => ?_, fun a o h n => ?_⟩
  · rcases e'.dom a h with h | h
    · exact e.dom a h
    · exact .inr (fresh a h)
  · rcases List.mem_append.mp h with h | h
    · exact fresh a (e'.fps a (List.mem_append_left _ h))
    · rcases List.mem_append.mp h with h | h
      · exact e.fps a (List.mem_append_right _ h)
      · exact fresh a (e'.fps a (List.mem_append_right _ h))
  · refine e'.keep a o (e.keep a o h n) fun m => ?_
    rcases e.fps a (List.mem_append_left _ m) with q | q
    · exact n q
    · rw [q] at h; cases h
theorem OKV.len (a : OKV K F H ρ σ rs vs fp ft) : ρ.length = σ.length := let ⟨_, h, _⟩ := a.sl; h.length
theorem OKV.ok (a : OKV K F H ρ σ rs vs fp ft) : OK K F H ρ σ fp :=
  ⟨a.sub, a.sl, ⟨[], .nil, .refl _⟩, by rw [List.append_nil]; exact (List.nodup_append.mp a.nd).1, fun b hb => a.out b (by rw [List.append_nil] at hb; exact List.mem_append_left _ hb)⟩
theorem OKV.domF (a : OKV K F H ρ σ rs vs fp ft) : ∀ b ∈ fp, H b ≠ none := fun b hb => by
  obtain ⟨f, h, p⟩ := a.sl
  exact h.dom b (p.mem_iff.mpr hb)
theorem OKV.domT (a : OKV K F H ρ σ rs vs fp ft) : ∀ b ∈ ft, H b ≠ none := fun b hb => by
  obtain ⟨f, h, p⟩ := a.rp
  exact h.dom b (p.mem_iff.mpr hb)
theorem OKV.apart (a : OKV K F H ρ σ rs vs fp ft) {b : Addr} (h1 : b ∈ fp) (h2 : b ∈ ft) : False := (List.nodup_append.mp a.nd).2.2 b h1 b h2 rfl
theorem OKV.carry (a : OKV K F H ρ σ rs vs fp ft) (e : Ext F H fp F' H' (fp' ++ ft')) (b : OKV K F' H' ρ' σ rs' vs' fp' ft') : OKV K F' H' ρ' σ (rs ++ rs') (vs ++ vs') fp' (ft ++ ft') := by
  have new : ∀ x ∈ fp' ++ ft', x ∉ ft := fun x hx ht => by
    rcases e.fps x hx with q | q
    · exact a.apart q ht
    · exact a.domT x ht q
  obtain ⟨f1, r1, p1⟩ := a.rp
  obtain ⟨f2, r2, p2⟩ := b.rp
  refine ⟨b.sub, b.sl, ⟨f1 ++ f2, RepRs.append (r1.frame e.sub fun x hx o ho => e.keep x o ho fun m => a.apart m (p1.mem_iff.mp hx)) r2, List.Perm.append p1 p2⟩, ?_, fun x hx => ?_⟩
  · have p : (fp' ++ (ft ++ ft')).Perm (ft ++ (fp' ++ ft')) := by
      rw [← List.append_assoc, ← List.append_assoc]
      exact List.Perm.append_right _ List.perm_append_comm
    rw [p.nodup_iff]
    exact List.nodup_append.mpr ⟨(List.nodup_append.mp a.nd).2.1, b.nd, fun x hx y hy z => new y hy (z ▸ hx)⟩
  · have hx' : x ∈ ft ∨ x ∈ fp' ++ ft' := by
      rcases List.mem_append.mp hx with h | h
      · exact .inr (List.mem_append_left _ h)
      · rcases List.mem_append.mp h with h | h
        · exact .inl h
        · exact .inr (List.mem_append_right _ h)
    rcases hx' with h | h
    · cases q : F' x with
      | none => rfl
      | some o =>
        have hF : F x = none := a.out x (List.mem_append_right _ h)
        rcases e.dom x (by rw [q]; exact fun z => nomatch z) with z | z | z
        · exact absurd hF z
        · exact (a.apart z h).elim
        · exact absurd z (a.domT x h)
    · exact b.out x h
end

/-! ### looking at values -/
@[simp] def dat (ρ : List T) : R → Option D
  | .tv t => t.d1
  | .bw i => (ρ[i]?).bind T.d1
def dats (ρ : List T) : List R → Option (List D)
  | [] => some []
  | r :: rs => (dat ρ r).bind fun d => (dats ρ rs).bind fun ds => some (d :: ds)
section
variable {K : KF} {F F' H H' : Hp} {fp ft : List Addr} {ρ : List T} {σ : St} {rs : List R} {vs : List V}
theorem Sl.get {ρ : List T} {σ : St} {fp : List Addr} {i : Nat} {t : T} (s : Sl K F H ρ σ fp) (e : ρ[i]? = some t) (n : t ≠ .dead) : ∃ v f, σ[i]? = some (some v) ∧ RepT K F H t v f ∧ ∀ a ∈ f, a ∈ fp := by
  obtain ⟨v, f1, f2, h1, h2, _, p⟩ := s.out e n
  exact ⟨v, f1, h1, h2, fun a ha => p.mem_iff.mpr (List.mem_append_left _ ha)⟩
theorem dat_vw (s : ∃ f, Sl K F H ρ σ f ∧ f.Perm fp) {r : R} {v : V} {f : List Addr} (x : RepR K F H σ r v f) {d : D} (e : dat ρ r = some d) : Vw K F H d v := by
  cases x with
  | tv r => exact r.vw e
  | bw h =>
    rename_i i
    obtain ⟨f0, s, _⟩ := s
    have e : (ρ[i]?).bind T.d1 = some d := e
    cases q : ρ[i]? with
    | none => rw [q] at e; cases e
    | some t =>
      rw [q] at e
      have e : t.d1 = some d := e
      obtain ⟨v', f', h1, h2, _⟩ := s.get q (by intro z; subst z; cases e)
      rw [h] at h1; cases h1
      exact h2.vw e
theorem dats_vws (s : ∃ f, Sl K F H ρ σ f ∧ f.Perm fp) : ∀ {rs : List R} {vs : List V} {f : List Addr} {ds : List D}, RepRs K F H σ rs vs f → dats ρ rs = some ds → Vws K F H ds vs
  | _, _, _, _, .nil, e => by cases e; exact .nil
  | _, _, _, _, .cons (r := r) (rs := rs) x t, e => by
    have e : (dat ρ r).bind (fun d => (dats ρ rs).bind fun ds => some (d :: ds)) = some _ := e
    cases q : dat ρ r with
    | none => rw [q] at e; cases e
    | some d =>
      rw [q] at e
      have e : (dats ρ rs).bind (fun ds => some (d :: ds)) = some _ := e
      cases q2 : dats ρ rs with
      | none => rw [q2] at e; cases e
      | some ds' =>
        rw [q2] at e
        cases e
        exact .cons (dat_vw s x q) (dats_vws s t q2)
theorem OKV.vws (a : OKV K F H ρ σ rs vs fp ft) {ds : List D} (e : dats ρ rs = some ds) : Vws K F H ds vs := by
  obtain ⟨f, r, _⟩ := a.rp
  exact dats_vws a.sl r e
end

/-! ### freezing values -/
/-- a value's data; a slot's own thing is frozen where it stands -/
def frz1 (ρ : List T) : R → Option (D × List T)
  | .tv t => t.d.bind fun d => some (d, ρ)
  | .bw i => (ρ[i]?).bind fun t => t.d.bind fun d => some (d, ρ.set i (.fz d))
def frzs (ρ : List T) : List R → Option (List D × List T)
  | [] => some ([], ρ)
  | r :: rs => (frz1 ρ r).bind fun (d, ρ1) => (frzs ρ1 rs).bind fun (ds, ρ2) => some (d :: ds, ρ2)
section
variable {K : KF} {F F' H H' : Hp} {fp ft : List Addr} {ρ ρ' : List T} {σ : St} {rs : List R} {vs : List V}
theorem OKV.uncons {r : R} {v : V} (a : OKV K F H ρ σ (r :: rs) (v :: vs) fp ft) : ∃ f1 f2, RepR K F H σ r v f1 ∧ OKV K F H ρ σ rs vs fp f2 ∧ ft.Perm (f1 ++ f2) := by
  obtain ⟨f, x, p⟩ := a.rp
  cases x with
  | cons x t =>
    rename_i f1 f2
    have q : (fp ++ ft).Perm (f1 ++ (fp ++ f2)) := by
      refine (List.Perm.append_left fp p.symm).trans ?_
      rw [← List.append_assoc, ← List.append_assoc]
      exact List.Perm.append_right _ List.perm_append_comm
    refine ⟨f1, f2, x, ⟨a.sub, a.sl, ⟨_, t, .refl _⟩, ?_, fun b hb => a.out b (q.mem_iff.mpr (List.mem_append_right _ hb))⟩, p.symm⟩
    have n := a.nd
    rw [q.nodup_iff] at n
    exact (List.nodup_append.mp n).2.1
/-- one value frozen; the others stay -/
theorem OKV.frz1 {r : R} {v : V} (a : OKV K F H ρ σ (r :: rs) (v :: vs) fp ft) {d : D} (e : DL.frz1 ρ r = some (d, ρ')) :
    ∃ F' fp' ft', Ext F H (fp ++ ft) F' H (fp' ++ ft') ∧ OKV K F' H ρ' σ rs vs fp' ft' ∧ Rep K F' d v := by
  obtain ⟨f1, f2, x, b, p⟩ := a.uncons
  have pm : ∀ {y}, y ∈ fp ++ ft ↔ y ∈ fp ∨ y ∈ f1 ∨ y ∈ f2 := fun {y} => by
    rw [List.mem_append, p.mem_iff, List.mem_append]
  cases x with
  | tv x =>
    rename_i t
    have e : t.d.bind (fun d => some (d, ρ)) = some (d, ρ') := e
    cases q : t.d with
    | none => rw [q] at e; cases e
    | some d' =>
      rw [q] at e; cases e
      have o : ∀ y ∈ f1, F y = none := fun y hy => a.out y (pm.mpr (.inr (.inl hy)))
      have s := glue_same (H := H) o
      have n := a.nd
      have pp : (fp ++ ft).Perm (f1 ++ (fp ++ f2)) := by
        refine (List.Perm.append_left fp p).trans ?_
        rw [← List.append_assoc, ← List.append_assoc]
        exact List.Perm.append_right _ List.perm_append_comm
      rw [pp.nodup_iff] at n
      have nf := (List.nodup_append.mp n).2.2
      refine ⟨glue F H f1, fp, f2, ⟨s, fun y hy => ?_, fun y hy => .inl ?_, fun _ _ h _ => h⟩, ⟨glue_sub a.sub, ?_, ?_, b.nd, fun y hy => ?_⟩, x.freeze q o⟩
      · rcases glue_dom hy with h | h
        · exact .inl h
        · exact .inr (.inl (pm.mpr (.inr (.inl h))))
      · rcases List.mem_append.mp hy with h | h
        · exact pm.mpr (.inl h)
        · exact pm.mpr (.inr (.inr h))
      · obtain ⟨f, h, p⟩ := b.sl
        exact ⟨f, h.frame s fun _ _ _ h => h, p⟩
      · obtain ⟨f, h, p⟩ := b.rp
        exact ⟨f, h.frame s fun _ _ _ h => h, p⟩
      · rw [glue_out fun h => nf y h y hy rfl]
        exact b.out y hy
  | bw h =>
    rename_i i
    have e : (ρ[i]?).bind (fun t => t.d.bind fun d => some (d, ρ.set i (.fz d))) = some (d, ρ') := e
    cases q : ρ[i]? with
    | none => rw [q] at e; cases e
    | some t =>
      rw [q] at e
      have e : t.d.bind (fun d => some (d, ρ.set i (.fz d))) = some (d, ρ') := e
      cases q2 : t.d with
      | none => rw [q2] at e; cases e
      | some d' =>
        rw [q2] at e; cases e
        obtain ⟨f0, s0, p0⟩ := b.sl
        obtain ⟨v', g1, g2, h1, h2, h3, h4⟩ := s0.out q (by intro z; subst z; cases q2)
        rw [h] at h1; cases h1
        have p1 : fp.Perm (g1 ++ g2) := p0.symm.trans h4
        have o : ∀ y ∈ g1, F y = none := fun y hy => a.out y (pm.mpr (.inl (p1.mem_iff.mpr (List.mem_append_left _ hy))))
        have s := glue_same (H := H) o
        have hi : i < ρ.length := (List.getElem?_eq_some_iff.mp q).1
        have rp : Rep K (glue F H g1) d v := h2.freeze q2 o
        obtain ⟨f, h5, h6⟩ := Sl.put (RepT.fz rp) (h3.frame s fun _ _ _ h => h) (List.getElem?_set_self hi) h
        rw [List.set_set] at h5
        have bn := b.nd
        have pp : (fp ++ f2).Perm (g1 ++ (g2 ++ f2)) := by rw [← List.append_assoc]; exact List.Perm.append_right _ p1
        rw [pp.nodup_iff] at bn
        have nf := (List.nodup_append.mp bn).2.2
        have sub2 : ∀ y, y ∈ g2 ++ f2 → y ∈ fp ++ f2 := fun y hy => pp.mem_iff.mpr (List.mem_append_right _ hy)
        refine ⟨glue F H g1, g2, f2, ⟨s, fun y hy => ?_, fun y hy => .inl ?_, fun _ _ h _ => h⟩, ⟨glue_sub a.sub, ⟨f, h5, by simpa using h6⟩, ?_, (List.nodup_append.mp bn).2.1, fun y hy => ?_⟩, rp⟩
        · rcases glue_dom hy with h | h
          · exact .inl h
          · exact .inr (.inl (pm.mpr (.inl (p1.mem_iff.mpr (List.mem_append_left _ h)))))
        · rcases List.mem_append.mp (sub2 y hy) with h | h
          · exact pm.mpr (.inl h)
          · exact pm.mpr (.inr (.inr h))
        · obtain ⟨f, h, p⟩ := b.rp
          exact ⟨f, h.frame s fun _ _ _ h => h, p⟩
        · rw [glue_out fun h => nf y h y hy rfl]
          exact b.out y (sub2 y hy)
theorem OKV.frzs : ∀ {rs : List R} {vs : List V} {F : Hp} {ρ ρ' : List T} {fp ft : List Addr} {ds : List D}, OKV K F H ρ σ rs vs fp ft → DL.frzs ρ rs = some (ds, ρ') →
    ∃ F' fp', Ext F H (fp ++ ft) F' H fp' ∧ OK K F' H ρ' σ fp' ∧ Reps K F' ds vs
  | [], vs, F, ρ, ρ', fp, ft, ds, a, e => by
    obtain ⟨f, x, p⟩ := a.rp
    cases x
    cases e
    exact ⟨F, fp, Ext.refl.sub' fun y hy => List.mem_append_left _ hy, a.ok, .nil⟩
  | r :: rs, vs, F, ρ, ρ', fp, ft, ds, a, e => by
    obtain ⟨f, x, p⟩ := id a.rp
    cases x with
    | cons x t =>
      rename_i v vs f1 f2
      have e : (DL.frz1 ρ r).bind (fun (d, ρ1) => (DL.frzs ρ1 rs).bind fun (ds, ρ2) => some (d :: ds, ρ2)) = some (ds, ρ') := e
      cases q : DL.frz1 ρ r with
      | none => rw [q] at e; cases e
      | some dr =>
        obtain ⟨d, ρ1⟩ := dr
        rw [q] at e
        have e : (DL.frzs ρ1 rs).bind (fun (ds, ρ2) => some (d :: ds, ρ2)) = some (ds, ρ') := e
        cases q2 : DL.frzs ρ1 rs with
        | none => rw [q2] at e; cases e
        | some dr2 =>
          obtain ⟨ds2, ρ2⟩ := dr2
          rw [q2] at e; cases e
          obtain ⟨F1, fp1, ft1, e1, o1, r1⟩ := a.frz1 q
          obtain ⟨F2, fp2, e2, o2, r2⟩ := OKV.frzs o1 q2
          exact ⟨F2, fp2, e1.trans e2, o2, .cons (r1.mono e2.sub) r2⟩
end
end DL

set_option Elab.async false
set_option linter.all false
set_option maxRecDepth 100000
namespace DL
open PySem PySem.Spec L2

inductive ER (α : Type) where
  | ok (a : α) (ρ : List T) | exc (c : Str) (ρ : List T) | stuck
def ER.bind {α β : Type} (x : ER α) (f : α → List T → ER β) : ER β :=
  match x with
  | .ok a ρ => f a ρ
  | .exc c ρ => .exc c ρ
  | .stuck => .stuck
def optE {α β : Type} (x : Option α) (f : α → ER β) : ER β :=
  match x with
  | some a => f a
  | none => .stuck
inductive SR where
  | nx (ρ : List T) | rt (t : T) (ρ : List T) | bk (ρ : List T) | ct (ρ : List T) | exc (c : Str) (ρ : List T) | stuck
def ER.toS {α : Type} (x : ER α) (f : α → List T → SR) : SR :=
  match x with
  | .ok a ρ => f a ρ
  | .exc c ρ => .exc c ρ
  | .stuck => .stuck
def optS {α : Type} (x : Option α) (f : α → SR) : SR :=
  match x with
  | some a => f a
  | none => .stuck
abbrev Kp := Nat → Bool
structure KeepS (kp : Kp) (σ σ' : St) : Prop where
  len : σ'.length = σ.length
  at_ : ∀ i, kp i = true → σ'[i]? = σ[i]?
theorem KeepS.refl {kp : Kp} {σ : St} : KeepS kp σ σ := ⟨rfl, fun _ _ => rfl⟩
theorem KeepS.trans {kp : Kp} {σ σ1 σ2 : St} (a : KeepS kp σ σ1) (b : KeepS kp σ1 σ2) : KeepS kp σ σ2 := ⟨b.len.trans a.len, fun i h => (b.at_ i h).trans (a.at_ i h)⟩
theorem KeepS.set {kp : Kp} {σ : St} {i : Nat} {o : Option V} (h : kp i = false) : KeepS kp σ (σ.set i o) := ⟨by simp, fun j hj => by
  by_cases e : i = j
  · subst e; rw [h] at hj; cases hj
  · rw [List.getElem?_set_ne e]⟩
theorem KeepS.weak {kp kp' : Kp} {σ σ' : St} (a : KeepS kp σ σ') (h : ∀ i, kp' i = true → kp i = true) : KeepS kp' σ σ' := ⟨a.len, fun i q => a.at_ i (h i q)⟩

section
variable (K : KF) (cl : Str → Addr) (W : WX)
def PostX (σ : St) (F H : Hp) (fp : List Addr) (c : Str) (ρ : List T) : Prop := ∀ F' H' fp', Ext F H fp F' H' fp' → OK K F' H' ρ σ fp' → W (.ref (cl c)) none σ H'
def PostE (σ : St) (F H : Hp) (fp : List Addr) (x : ER R) (Q : VK) : Prop :=
  match x with
  | .ok r ρ => ∀ F' H' v fp' ft', Ext F H fp F' H' (fp' ++ ft') → OKV K F' H' ρ σ [r] [v] fp' ft' → Q v H'
  | .exc c ρ => PostX K cl W σ F H fp c ρ
  | .stuck => False
def PostA (σ : St) (F H : Hp) (fp : List Addr) (x : ER (List R)) (Q : List V → Hp → Prop) : Prop :=
  match x with
  | .ok rs ρ => ∀ F' H' vs fp' ft', Ext F H fp F' H' (fp' ++ ft') → OKV K F' H' ρ σ rs vs fp' ft' → Q vs H'
  | .exc c ρ => PostX K cl W σ F H fp c ρ
  | .stuck => False
def PostT (σ : St) (F H : Hp) (fp : List Addr) (x : ER Bool) (Q : Bool → Hp → Prop) : Prop :=
  match x with
  | .ok b ρ => ∀ F' H' fp', Ext F H fp F' H' fp' → OK K F' H' ρ σ fp' → Q b H'
  | .exc c ρ => PostX K cl W σ F H fp c ρ
  | .stuck => False
def SndE (t : TE) (g : List T → ER R) : Prop := ∀ F H ρ σ fp Q, OK K F H ρ σ fp → PostE K cl W σ F H fp (g ρ) Q → t σ H Q
def SndA (t : TA) (g : List T → ER (List R)) : Prop := ∀ F H ρ σ fp Q, OK K F H ρ σ fp → PostA K cl W σ F H fp (g ρ) Q → t σ H Q
def SndT (t : TT) (g : List T → ER Bool) : Prop := ∀ F H ρ σ fp Q, OK K F H ρ σ fp → PostT K cl W σ F H fp (g ρ) Q → t σ H Q
/-- an operation on values -/
def OpS (r : List V → Hp → VK → Prop) (f : List T → List R → ER R) : Prop :=
  ∀ F H ρ σ fp ft rs vs Q, OKV K F H ρ σ rs vs fp ft → PostE K cl W σ F H (fp ++ ft) (f ρ rs) Q → r vs H Q
def PostS (kp : Kp) (σ : St) (F H : Hp) (fp : List Addr) (x : SR) (E : Ends) : Prop :=
  match x with
  | .nx ρ => ∀ F' H' σ' fp', Ext F H fp F' H' fp' → OK K F' H' ρ σ' fp' → KeepS kp σ σ' → E.nx σ' H'
  | .bk ρ => ∀ F' H' σ' fp', Ext F H fp F' H' fp' → OK K F' H' ρ σ' fp' → KeepS kp σ σ' → E.bk σ' H'
  | .ct ρ => ∀ F' H' σ' fp', Ext F H fp F' H' fp' → OK K F' H' ρ σ' fp' → KeepS kp σ σ' → E.ct σ' H'
  | .rt t ρ => ∀ F' H' σ' v fp' ft', Ext F H fp F' H' (fp' ++ ft') → OKV K F' H' ρ σ' [.tv t] [v] fp' ft' → KeepS kp σ σ' → E.rt v H'
  | .exc c ρ => ∀ F' H' σ' fp', Ext F H fp F' H' fp' → OK K F' H' ρ σ' fp' → KeepS kp σ σ' → W (.ref (cl c)) none σ' H'
  | .stuck => False
def SndS (kp : Kp) (t : TS) (g : List T → SR) : Prop := ∀ F H ρ σ fp E, OK K F H ρ σ fp → PostS K cl W kp σ F H fp (g ρ) E → t E σ H
/-- a target, of frozen data -/
def SndG (kp : Kp) (g : TG) (G : D → List T → Option (List T)) : Prop :=
  ∀ F H ρ σ fp v d ρ' Q, OK K F H ρ σ fp → Rep K F d v → G d ρ = some ρ' → (∀ F' H' σ' fp', Ext F H fp F' H' fp' → OK K F' H' ρ' σ' fp' → KeepS kp σ σ' → Q σ' H') → g v σ H Q
end

section
variable {K : KF} {cl : Str → Addr} {W : WX} {F H F1 H1 : Hp} {fp fp1 : List Addr} {σ σ1 : St} {kp : Kp}
theorem PostX.mono {c : Str} {ρ : List T} (e : Ext F H fp F1 H1 fp1) (p : PostX K cl W σ F H fp c ρ) : PostX K cl W σ F1 H1 fp1 c ρ := fun F' H' fp' e' o => p F' H' fp' (e.trans e') o
theorem PostE.mono {x : ER R} {Q : VK} (e : Ext F H fp F1 H1 fp1) (p : PostE K cl W σ F H fp x Q) : PostE K cl W σ F1 H1 fp1 x Q := by
  cases x with
  | ok r ρ => exact fun F' H' v fp' ft' e' o => p F' H' v fp' ft' (e.trans e') o
  | exc c ρ => exact PostX.mono e p
  | stuck => exact p
theorem PostT.mono {x : ER Bool} {Q : Bool → Hp → Prop} (e : Ext F H fp F1 H1 fp1) (p : PostT K cl W σ F H fp x Q) : PostT K cl W σ F1 H1 fp1 x Q := by
  cases x with
  | ok r ρ => exact fun F' H' fp' e' o => p F' H' fp' (e.trans e') o
  | exc c ρ => exact PostX.mono e p
  | stuck => exact p
theorem PostS.mono {x : SR} {E : Ends} (e : Ext F H fp F1 H1 fp1) (k : KeepS kp σ σ1) (p : PostS K cl W kp σ F H fp x E) : PostS K cl W kp σ1 F1 H1 fp1 x E := by
  cases x with
  | nx ρ => exact fun F' H' σ' fp' e' o k' => p F' H' σ' fp' (e.trans e') o (k.trans k')
  | bk ρ => exact fun F' H' σ' fp' e' o k' => p F' H' σ' fp' (e.trans e') o (k.trans k')
  | ct ρ => exact fun F' H' σ' fp' e' o k' => p F' H' σ' fp' (e.trans e') o (k.trans k')
  | exc c ρ => exact fun F' H' σ' fp' e' o k' => p F' H' σ' fp' (e.trans e') o (k.trans k')
  | rt t ρ => exact fun F' H' σ' v fp' ft' e' o k' => p F' H' σ' v fp' ft' (e.trans e') o (k.trans k')
  | stuck => exact p
theorem OKV.one {ρ : List T} {r : R} {v : V} {f : List Addr} (o : OK K F H ρ σ fp) (x : RepR K F H σ r v f) (n : ∀ a ∈ f, a ∉ fp ∧ F a = none) (d : f.Nodup) : OKV K F H ρ σ [r] [v] fp f := by
  refine ⟨o.sub, o.sl, ⟨f ++ [], .cons x .nil, by rw [List.append_nil]⟩, List.nodup_append.mpr ⟨by have := o.nd; rwa [List.append_nil] at this, d, fun a ha b hb z => (n b hb).1 (z ▸ ha)⟩, fun a ha => ?_⟩
  rcases List.mem_append.mp ha with h | h
  · exact o.out a (by rw [List.append_nil]; exact h)
  · exact (n a h).2
theorem OKV.one0 {ρ : List T} {r : R} {v : V} (o : OK K F H ρ σ fp) (x : RepR K F H σ r v []) : OKV K F H ρ σ [r] [v] fp [] := o.one x (fun _ h => by cases h) .nil
theorem Ext.drop {F' H' : Hp} {fp' ft' : List Addr} (e : Ext F H fp F' H' (fp' ++ ft')) : Ext F H fp F' H' fp' := e.sub' fun _ h => List.mem_append_left _ h

/-! ### names, constants -/
/-- a name: frozen data itself, an owned thing by its place -/
def eVar (i : Nat) : List T → ER R := fun ρ =>
  match ρ[i]? with
  | some (.fz d) => .ok (.tv (.fz d)) ρ
  | some .dead => .stuck
  | some _ => .ok (.bw i) ρ
  | none => .stuck
def eC (d : D) : List T → ER R := fun ρ => .ok (.tv (.fz d)) ρ
theorem e_var (i : Nat) : SndE K cl W (tVar i) (eVar i) := by
  intro F H ρ σ fp Q o p
  unfold eVar at p
  cases q : ρ[i]? with
  | none => rw [q] at p; exact p.elim
  | some t =>
    rw [q] at p
    obtain ⟨f, s, pm⟩ := o.sl
    by_cases n : t = .dead
    · subst n; exact p.elim
    · obtain ⟨v, f1, h1, h2, h3⟩ := s.get q n
      refine ⟨v, h1, ?_⟩
      have bwc : (∀ F' H' v fp' ft', Ext F H fp F' H' (fp' ++ ft') → OKV K F' H' ρ σ [R.bw i] [v] fp' ft' → Q v H') → Q v H := fun p =>
        p F H v fp [] (by rw [List.append_nil]; exact Ext.refl) (o.one0 (.bw h1))
      cases t with
      | dead => exact p.elim
      | fz d =>
        cases h2
        rename_i r
        exact p F H v fp [] (by rw [List.append_nil]; exact Ext.refl) (o.one0 (.tv (.fz r)))
      | ol ds => exact bwc p
      | oK ks ds => exact bwc p
      | oT ks ds => exact bwc p
      | o2 dss => exact bwc p
theorem e_const {d : D} {v : V} (h : ∀ F, Rep K F d v) : SndE K cl W (tC v) (eC d) := by
  intro F H ρ σ fp Q o p
  exact p F H v fp [] (by rw [List.append_nil]; exact Ext.refl) (o.one0 (.tv (.fz (h F))))
theorem e_int (i : Int) : SndE K cl W (tC (.int i)) (eC (.int i)) := e_const fun _ => .int i
theorem e_str (i : Str) : SndE K cl W (tC (.str i)) (eC (.str i)) := e_const fun _ => .str i
theorem e_bl (i : Bool) : SndE K cl W (tC (.bl i)) (eC (.bl i)) := e_const fun _ => .bl i
theorem e_non : SndE K cl W (tC .non) (eC .non) := e_const fun _ => .non

/-! ### arguments -/
def aNil : List T → ER (List R) := fun ρ => .ok [] ρ
def aCons (g : List T → ER R) (gs : List T → ER (List R)) : List T → ER (List R) := fun ρ => (g ρ).bind fun r ρ1 => (gs ρ1).bind fun rs ρ2 => .ok (r :: rs) ρ2
theorem a_nil : SndA K cl W tNil aNil := by
  intro F H ρ σ fp Q o p
  exact p F H [] fp [] (by rw [List.append_nil]; exact Ext.refl) o
theorem a_cons {ta : TE} {tr : TA} {ga : List T → ER R} {gr : List T → ER (List R)} (ha : SndE K cl W ta ga) (hr : SndA K cl W tr gr) : SndA K cl W (tCons ta tr) (aCons ga gr) := by
  intro F H ρ σ fp Q o p
  show ta σ H fun x H1 => tr σ H1 fun xs H2 => Q (x :: xs) H2
  refine ha _ _ _ _ _ _ o ?_
  unfold aCons at p
  cases q : ga ρ with
  | stuck => rw [q] at p; exact p
  | exc c ρ1 => rw [q] at p; exact p
  | ok r ρ1 =>
    rw [q] at p
    intro F1 H1 v fp1 ft1 e1 o1
    refine hr _ _ _ _ _ _ o1.ok ?_
    have p : PostA K cl W σ F H fp ((gr ρ1).bind fun rs ρ2 => .ok (r :: rs) ρ2) Q := p
    cases q2 : gr ρ1 with
    | stuck => rw [q2] at p; exact p
    | exc c ρ2 => rw [q2] at p; exact PostX.mono e1.drop p
    | ok rs ρ2 =>
      rw [q2] at p
      intro F2 H2 vs fp2 ft2 e2 o2
      exact p F2 H2 (v :: vs) fp2 (ft1 ++ ft2) (e1.carry e2) (o1.carry e2 o2)

/-! ### operations -/
def eCall (f : List T → List R → ER R) (ga : List T → ER (List R)) : List T → ER R := fun ρ => (ga ρ).bind fun rs ρ1 => f ρ1 rs
def l1 (r : V → Hp → VK → Prop) : List V → Hp → VK → Prop := fun vs H Q => match vs with | [x] => r x H Q | _ => False
def l2 (r : R2) : List V → Hp → VK → Prop := fun vs H Q => match vs with | [x, y] => r x y H Q | _ => False
theorem e_call {ta : TA} {r : List V → Hp → VK → Prop} {ga : List T → ER (List R)} {f : List T → List R → ER R} (ho : OpS K cl W r f) (ha : SndA K cl W ta ga) : SndE K cl W (tCB r ta) (eCall f ga) := by
  intro F H ρ σ fp Q o p
  show ta σ H fun vs H1 => r vs H1 Q
  refine ha _ _ _ _ _ _ o ?_
  unfold eCall at p
  cases q : ga ρ with
  | stuck => rw [q] at p; exact p
  | exc c ρ1 => rw [q] at p; exact p
  | ok rs ρ1 =>
    rw [q] at p
    intro F1 H1 vs fp1 ft1 e1 o1
    exact ho F1 H1 ρ1 σ fp1 ft1 rs vs Q o1 (PostE.mono e1 p)
theorem e_op {ta tb : TE} {r : R2} {ga gb : List T → ER R} {f : List T → List R → ER R} (ho : OpS K cl W (l2 r) f) (ha : SndE K cl W ta ga) (hb : SndE K cl W tb gb) : SndE K cl W (tOp r ta tb) (eCall f (aCons ga (aCons gb aNil))) :=
  e_call ho (a_cons ha (a_cons hb a_nil))
theorem e_un {ta : TE} {r : V → Hp → VK → Prop} {ga : List T → ER R} {f : List T → List R → ER R} (ho : OpS K cl W (l1 r) f) (ha : SndE K cl W ta ga) : SndE K cl W (tUn r ta) (eCall f (aCons ga aNil)) :=
  e_call ho (a_cons ha a_nil)

/-- the answer is data that stands frozen already (or a number, a text ..) -/
def fRef (p : List D → Option D) : List T → List R → ER R := fun ρ rs => optE (dats ρ rs) fun ds => optE (p ds) fun d => .ok (.tv (.fz d)) ρ
def RefOp (K : KF) (r : List V → Hp → VK → Prop) (p : List D → Option D) : Prop := ∀ F H ds vs d, Same F H → Vws K F H ds vs → p ds = some d → ∃ v, Rep K F d v ∧ ∀ Q : VK, Q v H → r vs H Q
theorem ref_op {r : List V → Hp → VK → Prop} {p : List D → Option D} (h : RefOp K r p) : OpS K cl W r (fRef p) := by
  intro F H ρ σ fp ft rs vs Q o q
  unfold fRef at q
  cases e : dats ρ rs with
  | none => rw [e] at q; exact q.elim
  | some ds =>
    rw [e] at q
    have q : PostE K cl W σ F H (fp ++ ft) (optE (p ds) fun d => .ok (.tv (.fz d)) ρ) Q := q
    cases e2 : p ds with
    | none => rw [e2] at q; exact q.elim
    | some d =>
      rw [e2] at q
      obtain ⟨v, rv, k⟩ := h F H ds vs d o.sub (o.vws e) e2
      exact k Q (q F H v fp [] (by rw [List.append_nil]; exact Ext.refl.sub' fun _ h => List.mem_append_left _ h) (o.ok.one0 (.tv (.fz rv))))
/-- the answer is a new list of such data -/
def fNew (p : List D → Option (List D)) : List T → List R → ER R := fun ρ rs => optE (dats ρ rs) fun ds => optE (p ds) fun out => .ok (.tv (.ol out)) ρ
def NewOp (K : KF) (r : List V → Hp → VK → Prop) (p : List D → Option (List D)) : Prop :=
  ∀ F H ds vs out, Same F H → Vws K F H ds vs → p ds = some out → ∃ xs, Reps K F out xs ∧ ∀ Q : VK, (∀ l, H l = none → Q (.ref l) (upd H l (.lst xs))) → r vs H Q
theorem upd_same_of {H : Hp} {l : Addr} {o : HO} (n : H l = none) : Same H (upd H l o) := fun b u e => by
  rw [upd_ne (ne_of_none e n)]; exact e
/-- a new owned thing -/
theorem OKV.fresh {ρ : List T} {l : Addr} {u : HO} {t : T} (o : OK K F H ρ σ fp) (n : H l = none) (x : RepT K F (upd H l u) t (.ref l) [l]) : OKV K F (upd H l u) ρ σ [.tv t] [.ref l] fp [l] := by
  have nF : F l = none := by
    cases q : F l with
    | none => rfl
    | some z => rw [o.sub l z q] at n; cases n
  have o' : OK K F (upd H l u) ρ σ fp := by
    obtain ⟨f, s, p⟩ := o.sl
    exact ⟨o.sub.trans (upd_same_of n), ⟨f, s.frame (Same.refl _) fun a _ v e => upd_same_of n a v e, p⟩, ⟨[], .nil, .refl _⟩, o.nd, o.out⟩
  refine o'.one (.tv x) (fun a ha => ?_) (List.nodup_cons.mpr ⟨by simp, .nil⟩)
  have : a = l := by simpa using ha
  subst this
  exact ⟨fun h => o.domF a h n, nF⟩
theorem Ext.fresh {l : Addr} {u : HO} (n : H l = none) : Ext F H fp F (upd H l u) (fp ++ [l]) :=
  ⟨Same.refl _, fun _ h => .inl h, fun a h => by
    rcases List.mem_append.mp h with h | h
    · exact .inl h
    · have : a = l := by simpa using h
      subst this; exact .inr n, fun a v e _ => upd_same_of n a v e⟩
theorem new_op {r : List V → Hp → VK → Prop} {p : List D → Option (List D)} (h : NewOp K r p) : OpS K cl W r (fNew p) := by
  intro F H ρ σ fp ft rs vs Q o q
  unfold fNew at q
  cases e : dats ρ rs with
  | none => rw [e] at q; exact q.elim
  | some ds =>
    rw [e] at q
    have q : PostE K cl W σ F H (fp ++ ft) (optE (p ds) fun d => .ok (.tv (.ol d)) ρ) Q := q
    cases e2 : p ds with
    | none => rw [e2] at q; exact q.elim
    | some out =>
      rw [e2] at q
      obtain ⟨xs, rx, k⟩ := h F H ds vs out o.sub (o.vws e) e2
      refine k Q fun l n => q F _ (.ref l) fp [l] ((Ext.refl.sub' fun _ h => List.mem_append_left _ h : Ext F H (fp ++ ft) F H fp).trans (Ext.fresh n)) (o.ok.fresh n (.ol upd_same rx))
/-- a new list of the values themselves, which are frozen -/
def fLst : List T → List R → ER R := fun ρ rs => optE (frzs ρ rs) fun (ds, ρ1) => if ds.length ≤ 1000 then .ok (.tv (.ol ds)) ρ1 else .stuck
theorem line1000 {n : Nat} (h : n ≤ 1000) : n ≤ sizeLine := Nat.le_trans h (by decide)
theorem e_lst {ta : TA} {ga : List T → ER (List R)} (ha : SndA K cl W ta ga) : SndE K cl W (tLst ta) (eCall fLst ga) := by
  refine e_call (r := fun xs H1 Q => xs.length ≤ sizeLine ∧ ∀ p, H1 p = none → Q (.ref p) (upd H1 p (.lst xs))) ?_ ha
  intro F H ρ σ fp ft rs vs Q o q
  unfold fLst at q
  cases e : frzs ρ rs with
  | none => rw [e] at q; exact q.elim
  | some dr =>
    obtain ⟨ds, ρ1⟩ := dr
    rw [e] at q
    have q : PostE K cl W σ F H (fp ++ ft) (if ds.length ≤ 1000 then .ok (.tv (.ol ds)) ρ1 else .stuck) Q := q
    obtain ⟨F', fp', e', o', r'⟩ := o.frzs e
    by_cases c : ds.length ≤ 1000
    · rw [if_pos c] at q
      exact ⟨line1000 (by rw [← r'.length]; exact c), fun l n => q F' _ (.ref l) fp' [l] (e'.trans (Ext.fresh n)) (o'.fresh n (.ol upd_same r'))⟩
    · rw [if_neg c] at q; exact q.elim
def fTup : List T → List R → ER R := fun ρ rs => optE (frzs ρ rs) fun (ds, ρ1) => if ds.length ≤ 1000 then .ok (.tv (.fz (.tup ds))) ρ1 else .stuck
/-- a new tuple is frozen at once -/
theorem OKV.freshF {ρ : List T} {l : Addr} {u : HO} {d : D} (o : OK K F H ρ σ fp) (n : H l = none) (x : Rep K (upd F l u) d (.ref l)) : OKV K (upd F l u) (upd H l u) ρ σ [.tv (.fz d)] [.ref l] fp [] ∧ Ext F H fp (upd F l u) (upd H l u) fp := by
  have nF : F l = none := by
    cases q : F l with
    | none => rfl
    | some z => rw [o.sub l z q] at n; cases n
  have o' : OK K (upd F l u) (upd H l u) ρ σ fp := by
    obtain ⟨f, s, p⟩ := o.sl
    refine ⟨fun b z e => ?_, ⟨f, s.frame (upd_same_of nF) fun a _ v e => upd_same_of n a v e, p⟩, ⟨[], .nil, .refl _⟩, o.nd, fun b hb => ?_⟩
    · by_cases hb : b = l
      · subst hb; rw [upd_same] at e ⊢; exact e
      · rw [upd_ne hb] at e ⊢; exact o.sub b z e
    · have hb' : b ∈ fp := by rwa [List.append_nil] at hb
      rw [upd_ne fun z => o.domF b hb' (by rw [z]; exact n)]
      exact o.out b hb
  refine ⟨o'.one0 (.tv (.fz x)), upd_same_of nF, fun a h => ?_, fun a h => .inl h, fun a v e _ => upd_same_of n a v e⟩
  by_cases ha : a = l
  · subst ha; exact .inr (.inr n)
  · rw [upd_ne ha] at h; exact .inl h
theorem e_tup {ta : TA} {ga : List T → ER (List R)} (ha : SndA K cl W ta ga) : SndE K cl W (tTup ta) (eCall fTup ga) := by
  refine e_call (r := fun xs H1 Q => xs.length ≤ sizeLine ∧ ∀ p, H1 p = none → Q (.ref p) (upd H1 p (.tup xs))) ?_ ha
  intro F H ρ σ fp ft rs vs Q o q
  unfold fTup at q
  cases e : frzs ρ rs with
  | none => rw [e] at q; exact q.elim
  | some dr =>
    obtain ⟨ds, ρ1⟩ := dr
    rw [e] at q
    have q : PostE K cl W σ F H (fp ++ ft) (if ds.length ≤ 1000 then .ok (.tv (.fz (.tup ds))) ρ1 else .stuck) Q := q
    obtain ⟨F', fp', e', o', r'⟩ := o.frzs e
    by_cases c : ds.length ≤ 1000
    · rw [if_pos c] at q
      refine ⟨line1000 (by rw [← r'.length]; exact c), fun l n => ?_⟩
      have nF : F' l = none := by
        cases q : F' l with
        | none => rfl
        | some z => rw [o'.sub l z q] at n; cases n
      obtain ⟨o2, e2⟩ := o'.freshF (u := .tup vs) n (.tup (.inl (.inl upd_same)) (r'.mono (upd_same_of nF)))
      exact q _ _ (.ref l) fp' [] (by rw [List.append_nil]; exact e'.trans e2) o2
    · rw [if_neg c] at q; exact q.elim

/-! ### tests -/
@[simp] def R.b : R → Option Bool
  | .tv (.fz (.bl b)) => some b
  | _ => none
def tstB (g : List T → ER R) : List T → ER Bool := fun ρ => (g ρ).bind fun r ρ1 => optE r.b fun b => .ok b ρ1
theorem OKV.b {ρ : List T} {r : R} {v : V} {ft : List Addr} {b : Bool} (o : OKV K F H ρ σ [r] [v] fp ft) (e : r.b = some b) : r = .tv (.fz (.bl b)) ∧ v = .bl b := by
  unfold R.b at e
  split at e
  · cases e
    obtain ⟨f, x, _⟩ := o.rp
    cases x with
    | cons x t =>
      cases x with
      | tv x =>
        cases x with
        | fz x => cases x; exact ⟨rfl, rfl⟩
  · cases e
theorem t_test {t : TE} {g : List T → ER R} (h : SndE K cl W t g) : SndT K cl W (tTest t) (tstB g) := by
  intro F H ρ σ fp Q o p
  refine h _ _ _ _ _ _ o ?_
  unfold tstB at p
  cases q : g ρ with
  | stuck => rw [q] at p; exact p
  | exc c ρ1 => rw [q] at p; exact p
  | ok r ρ1 =>
    rw [q] at p
    intro F1 H1 v fp1 ft1 e1 o1
    have p : PostT K cl W σ F H fp (optE r.b fun b => .ok b ρ1) Q := p
    cases qb : r.b with
    | none => rw [qb] at p; exact p.elim
    | some b =>
      rw [qb] at p
      exact ⟨b, (o1.b qb).2, p F1 H1 fp1 e1.drop o1.ok⟩
theorem t_val {t : TE} {g : List T → ER R} (h : SndE K cl W t g) : SndT K cl W (tB t) (tstB g) := t_test h
def tstAnd (g1 g2 : List T → ER Bool) : List T → ER Bool := fun ρ => (g1 ρ).bind fun b ρ1 => if b = true then g2 ρ1 else .ok false ρ1
def tstOr (g1 g2 : List T → ER Bool) : List T → ER Bool := fun ρ => (g1 ρ).bind fun b ρ1 => if b = true then .ok true ρ1 else g2 ρ1
def tstNot (g : List T → ER Bool) : List T → ER Bool := fun ρ => (g ρ).bind fun b ρ1 => .ok (!b) ρ1
theorem t_and {t1 t2 : TT} {g1 g2 : List T → ER Bool} (h1 : SndT K cl W t1 g1) (h2 : SndT K cl W t2 g2) : SndT K cl W (tAnd t1 t2) (tstAnd g1 g2) := by
  intro F H ρ σ fp Q o p
  refine h1 _ _ _ _ _ _ o ?_
  unfold tstAnd at p
  cases q : g1 ρ with
  | stuck => rw [q] at p; exact p
  | exc c ρ1 => rw [q] at p; exact p
  | ok b ρ1 =>
    rw [q] at p
    intro F1 H1 fp1 e1 o1
    have p : PostT K cl W σ F H fp (if b = true then g2 ρ1 else .ok false ρ1) Q := p
    cases b with
    | true => rw [if_pos rfl] at p ⊢; exact h2 _ _ _ _ _ _ o1 (PostT.mono e1 p)
    | false => rw [if_neg Bool.false_ne_true] at p ⊢; exact p F1 H1 fp1 e1 o1
theorem t_or {t1 t2 : TT} {g1 g2 : List T → ER Bool} (h1 : SndT K cl W t1 g1) (h2 : SndT K cl W t2 g2) : SndT K cl W (tOr t1 t2) (tstOr g1 g2) := by
  intro F H ρ σ fp Q o p
  refine h1 _ _ _ _ _ _ o ?_
  unfold tstOr at p
  cases q : g1 ρ with
  | stuck => rw [q] at p; exact p
  | exc c ρ1 => rw [q] at p; exact p
  | ok b ρ1 =>
    rw [q] at p
    intro F1 H1 fp1 e1 o1
    have p : PostT K cl W σ F H fp (if b = true then .ok true ρ1 else g2 ρ1) Q := p
    cases b with
    | true => rw [if_pos rfl] at p ⊢; exact p F1 H1 fp1 e1 o1
    | false => rw [if_neg Bool.false_ne_true] at p ⊢; exact h2 _ _ _ _ _ _ o1 (PostT.mono e1 p)
theorem t_not {t1 : TT} {g1 : List T → ER Bool} (h1 : SndT K cl W t1 g1) : SndT K cl W (tNot t1) (tstNot g1) := by
  intro F H ρ σ fp Q o p
  refine h1 _ _ _ _ _ _ o ?_
  unfold tstNot at p
  cases q : g1 ρ with
  | stuck => rw [q] at p; exact p
  | exc c ρ1 => rw [q] at p; exact p
  | ok b ρ1 => rw [q] at p; exact fun F1 H1 fp1 e1 o1 => p F1 H1 fp1 e1 o1
/-- .. as values -/
def eAndV (g1 g2 : List T → ER R) : List T → ER R := fun ρ => (tstB g1 ρ).bind fun b ρ1 => if b = true then g2 ρ1 else .ok (.tv (.fz (.bl false))) ρ1
def eOrV (g1 g2 : List T → ER R) : List T → ER R := fun ρ => (tstB g1 ρ).bind fun b ρ1 => if b = true then .ok (.tv (.fz (.bl true))) ρ1 else g2 ρ1
def eNotV (g1 : List T → ER R) : List T → ER R := fun ρ => (tstB g1 ρ).bind fun b ρ1 => .ok (.tv (.fz (.bl (!b)))) ρ1
def eIf (gt : List T → ER Bool) (g1 g2 : List T → ER R) : List T → ER R := fun ρ => (gt ρ).bind fun b ρ1 => if b = true then g1 ρ1 else g2 ρ1
theorem e_if {t : TT} {ta tb : TE} {gt : List T → ER Bool} {ga gb : List T → ER R} (h : SndT K cl W t gt) (ha : SndE K cl W ta ga) (hb : SndE K cl W tb gb) : SndE K cl W (tIf t ta tb) (eIf gt ga gb) := by
  intro F H ρ σ fp Q o p
  refine h _ _ _ _ _ _ o ?_
  unfold eIf at p
  cases q : gt ρ with
  | stuck => rw [q] at p; exact p
  | exc c ρ1 => rw [q] at p; exact p
  | ok b ρ1 =>
    rw [q] at p
    intro F1 H1 fp1 e1 o1
    have p : PostE K cl W σ F H fp (if b = true then ga ρ1 else gb ρ1) Q := p
    cases b with
    | true => rw [if_pos rfl] at p ⊢; exact ha _ _ _ _ _ _ o1 (PostE.mono e1 p)
    | false => rw [if_neg Bool.false_ne_true] at p ⊢; exact hb _ _ _ _ _ _ o1 (PostE.mono e1 p)
theorem bl_of {ρ : List T} {Q : VK} {b : Bool} (p : ∀ F' H' v fp' ft', Ext F H fp F' H' (fp' ++ ft') → OKV K F' H' ρ σ [R.tv (.fz (.bl b))] [v] fp' ft' → Q v H') (e1 : Ext F H fp F1 H1 fp1) (o1 : OK K F1 H1 ρ σ fp1) : Q (.bl b) H1 :=
  p F1 H1 _ fp1 [] (by rw [List.append_nil]; exact e1) (o1.one0 (.tv (.fz (.bl b))))
theorem e_andV {ta tb : TE} {ga gb : List T → ER R} (ha : SndE K cl W ta ga) (hb : SndE K cl W tb gb) : SndE K cl W (tAndV ta tb) (eAndV ga gb) := by
  intro F H ρ σ fp Q o p
  refine t_test ha _ _ _ _ _ (fun c H1 => if c = true then tb σ H1 Q else Q (.bl false) H1) o ?_
  unfold eAndV at p
  cases q : tstB ga ρ with
  | stuck => rw [q] at p; exact p
  | exc c ρ1 => rw [q] at p; exact p
  | ok b ρ1 =>
    rw [q] at p
    intro F1 H1 fp1 e1 o1
    have p : PostE K cl W σ F H fp (if b = true then gb ρ1 else .ok (.tv (.fz (.bl false))) ρ1) Q := p
    cases b with
    | true => rw [if_pos rfl] at p ⊢; exact hb _ _ _ _ _ _ o1 (PostE.mono e1 p)
    | false => rw [if_neg Bool.false_ne_true] at p ⊢; exact bl_of p e1 o1
theorem e_orV {ta tb : TE} {ga gb : List T → ER R} (ha : SndE K cl W ta ga) (hb : SndE K cl W tb gb) : SndE K cl W (tOrV ta tb) (eOrV ga gb) := by
  intro F H ρ σ fp Q o p
  refine t_test ha _ _ _ _ _ (fun c H1 => if c = true then Q (.bl true) H1 else tb σ H1 Q) o ?_
  unfold eOrV at p
  cases q : tstB ga ρ with
  | stuck => rw [q] at p; exact p
  | exc c ρ1 => rw [q] at p; exact p
  | ok b ρ1 =>
    rw [q] at p
    intro F1 H1 fp1 e1 o1
    have p : PostE K cl W σ F H fp (if b = true then .ok (.tv (.fz (.bl true))) ρ1 else gb ρ1) Q := p
    cases b with
    | true => rw [if_pos rfl] at p ⊢; exact bl_of p e1 o1
    | false => rw [if_neg Bool.false_ne_true] at p ⊢; exact hb _ _ _ _ _ _ o1 (PostE.mono e1 p)
theorem e_notV {ta : TE} {ga : List T → ER R} (ha : SndE K cl W ta ga) : SndE K cl W (tNotV ta) (eNotV ga) := by
  intro F H ρ σ fp Q o p
  refine t_test ha _ _ _ _ _ (fun c H1 => Q (.bl (!c)) H1) o ?_
  unfold eNotV at p
  cases q : tstB ga ρ with
  | stuck => rw [q] at p; exact p
  | exc c ρ1 => rw [q] at p; exact p
  | ok b ρ1 => rw [q] at p; exact fun F1 H1 fp1 e1 o1 => bl_of p e1 o1
/-- a < b < c -/
@[simp] def R.z : R → Option D
  | .tv (.fz d) => some d
  | _ => none
theorem OKV.z {ρ : List T} {r : R} {v : V} {ft : List Addr} {d : D} (o : OKV K F H ρ σ [r] [v] fp ft) (e : r.z = some d) : r = .tv (.fz d) ∧ Rep K F d v := by
  unfold R.z at e
  split at e
  · cases e
    obtain ⟨f, x, _⟩ := o.rp
    cases x with
    | cons x t =>
      cases x with
      | tv x =>
        cases x with
        | fz x => exact ⟨rfl, x⟩
  · cases e
def ch3 (f' : List T → List R → ER R) (gc : List T → ER R) (d : D) (z : R) (ρ3 : List T) : ER R := optE z.b fun b =>
  if b = true then (gc ρ3).bind fun w ρ4 => f' ρ4 [.tv (.fz d), w] else .ok (.tv (.fz (.bl false))) ρ3
def ch2 (f f' : List T → List R → ER R) (gc : List T → ER R) (x y : R) (ρ2 : List T) : ER R := optE y.z fun d => (f ρ2 [x, .tv (.fz d)]).bind (ch3 f' gc d)
def eChain (f f' : List T → List R → ER R) (ga gb gc : List T → ER R) : List T → ER R := fun ρ => (ga ρ).bind fun x ρ1 => (gb ρ1).bind (ch2 f f' gc x)
theorem e_chain {r r' : R2} {ta tb tc : TE} {f f' : List T → List R → ER R} {ga gb gc : List T → ER R} (ho : OpS K cl W (l2 r) f) (ho' : OpS K cl W (l2 r') f') (ha : SndE K cl W ta ga) (hb : SndE K cl W tb gb) (hc : SndE K cl W tc gc) :
    SndE K cl W (tChain r r' ta tb tc) (eChain f f' ga gb gc) := by
  intro F H ρ σ fp Q o p
  refine ha _ _ _ _ _ _ o ?_
  unfold eChain at p
  cases q : ga ρ with
  | stuck => rw [q] at p; exact p
  | exc c ρ1 => rw [q] at p; exact p
  | ok rx ρ1 =>
    rw [q] at p
    intro F1 H1 x fp1 ft1 e1 o1
    refine hb _ _ _ _ _ _ o1.ok ?_
    have p1 : PostE K cl W σ F H fp ((gb ρ1).bind (ch2 f f' gc rx)) Q := p
    clear p
    cases q2 : gb ρ1 with
    | stuck => rw [q2] at p1; exact p1
    | exc c ρ2 => rw [q2] at p1; exact PostX.mono e1.drop p1
    | ok ry ρ2 =>
      rw [q2] at p1
      intro F2 H2 y fp2 ft2 e2 o2
      have p2 : PostE K cl W σ F H fp (optE ry.z fun d => (f ρ2 [rx, .tv (.fz d)]).bind (ch3 f' gc d)) Q := p1
      clear p1
      cases qz : ry.z with
      | none => rw [qz] at p2; exact p2.elim
      | some d =>
        rw [qz] at p2
        obtain ⟨ery, yr⟩ := o2.z qz
        have p3 : PostE K cl W σ F H fp ((f ρ2 [rx, .tv (.fz d)]).bind (ch3 f' gc d)) Q := p2
        clear p2
        rw [ery] at o2
        have o12 := o1.carry e2 o2
        have e12 := e1.carry e2
        refine ho F2 H2 ρ2 σ fp2 (ft1 ++ ft2) [rx, .tv (.fz d)] [x, y] _ o12 ?_
        cases q3 : f ρ2 [rx, .tv (.fz d)] with
        | stuck => rw [q3] at p3; exact p3
        | exc c ρ3 => rw [q3] at p3; exact PostX.mono e12 p3
        | ok rz ρ3 =>
          rw [q3] at p3
          intro F3 H3 z fp3 ft3 e3 o3
          have p4 : PostE K cl W σ F H fp (optE rz.b fun b => if b = true then (gc ρ3).bind fun w ρ4 => f' ρ4 [.tv (.fz d), w] else .ok (.tv (.fz (.bl false))) ρ3) Q := p3
          clear p3
          have e13 := e12.trans e3
          cases qb : rz.b with
          | none => rw [qb] at p4; exact p4.elim
          | some b =>
            rw [qb] at p4
            have p5 : PostE K cl W σ F H fp (if b = true then (gc ρ3).bind fun w ρ4 => f' ρ4 [.tv (.fz d), w] else .ok (.tv (.fz (.bl false))) ρ3) Q := p4
            clear p4
            refine ⟨b, (o3.b qb).2, ?_⟩
            cases b with
            | false => rw [if_neg Bool.false_ne_true] at p5 ⊢; exact bl_of p5 e13.drop o3.ok
            | true =>
              rw [if_pos rfl] at p5 ⊢
              refine hc _ _ _ _ _ _ o3.ok ?_
              cases q4 : gc ρ3 with
              | stuck => rw [q4] at p5; exact p5
              | exc c ρ4 => rw [q4] at p5; exact PostX.mono e13.drop p5
              | ok rw_ ρ4 =>
                rw [q4] at p5
                intro F4 H4 w fp4 ft4 e4 o4
                have oy := o3.ok.one0 (.tv (.fz (yr.mono e3.sub)) : RepR K F3 H3 σ (.tv (.fz d)) y [])
                have o5 := oy.carry e4 o4
                exact ho' F4 H4 ρ4 σ fp4 ([] ++ ft4) [.tv (.fz d), rw_] [y, w] Q o5 (PostE.mono (e13.drop.trans e4) p5)
end
end DL

set_option Elab.async false
set_option linter.all false
set_option maxRecDepth 100000
namespace DL
open PySem PySem.Spec L2

section
variable {K : KF} {cl : Str → Addr} {W : WX} {F H F1 H1 : Hp} {fp fp1 ft : List Addr} {σ σ1 : St} {kp : Kp}

/-! ### an owned object changed -/
def T.solo : T → Bool
  | .ol _ => true
  | .oK _ _ => true
  | .oT _ _ => true
  | _ => false
theorem OKV.mutAt {ρ : List T} {i : Nat} {t : T} (o : OK K F H ρ σ fp) (q : ρ[i]? = some t) (so : t.solo = true) :
    ∃ a, σ[i]? = some (some (.ref a)) ∧ RepT K F H t (.ref a) [a] ∧ (∀ u t', RepT K F (upd H a u) t' (.ref a) [a] → OK K F (upd H a u) (ρ.set i t') σ fp ∧ Ext F H fp F (upd H a u) fp) := by
  obtain ⟨f0, s, p⟩ := o.sl
  obtain ⟨v, f1, f2, h1, h2, h3, h4⟩ := s.out q (by intro z; subst z; cases so)
  have key : ∃ a, v = .ref a ∧ f1 = [a] := by
    cases h2 with
    | fz _ => cases so
    | ol h r => exact ⟨_, rfl, rfl⟩
    | oK h l r => exact ⟨_, rfl, rfl⟩
    | oT h l r => exact ⟨_, rfl, rfl⟩
    | o2 _ _ => cases so
  obtain ⟨a, rfl, rfl⟩ := key
  have pp : fp.Perm ([a] ++ f2) := p.symm.trans h4
  have nd : fp.Nodup := by have := o.nd; rwa [List.append_nil] at this
  have nd2 := nd
  rw [pp.nodup_iff] at nd2
  have na : a ∉ f2 := (List.nodup_cons.mp nd2).1
  have ma : a ∈ fp := pp.mem_iff.mpr (by simp)
  have oF : ∀ b ∈ fp, F b = none := fun b hb => o.out b (by rw [List.append_nil]; exact hb)
  refine ⟨a, h1, h2, fun u t' rt => ?_⟩
  have hi : i < ρ.length := (List.getElem?_eq_some_iff.mp q).1
  have fr : Sl K F (upd H a u) (ρ.set i .dead) σ f2 := h3.frame (Same.refl _) fun b hb w e => by
    have hne : b ≠ a := by intro z; subst z; exact na hb
    rw [upd_ne hne]; exact e
  obtain ⟨f, h5, h6⟩ := Sl.put rt fr (List.getElem?_set_self hi) h1
  rw [List.set_set] at h5
  have sub' : Same F (upd H a u) := fun b w e => by
    have hne : b ≠ a := by intro z; subst z; rw [oF b ma] at e; cases e
    rw [upd_ne hne]
    exact o.sub b w e
  refine ⟨⟨sub', ⟨f, h5, h6.trans pp.symm⟩, ⟨[], .nil, .refl _⟩, o.nd, o.out⟩, Same.refl _, fun _ h => .inl h, fun _ h => .inl h, fun b w e n => ?_⟩
  have hne : b ≠ a := by intro z; subst z; exact n ma
  rw [upd_ne hne]
  exact e

/-! ### methods -/
inductive Ty where | list | str | dict
def Ty.s : Ty → String
  | .list => "list"
  | .str => "str"
  | .dict => "dict"
@[simp] def tyD : Ty → D → Bool
  | .list, .lst _ => true
  | .list, .scr _ => true
  | .str, .str _ => true
  | .dict, .dK _ _ => true
  | .dict, .dT _ _ => true
  | _, _ => false
def tyR (T : Ty) (ρ : List DL.T) (r : R) : Bool := match dat ρ r with
  | some d => tyD T d
  | none => false
theorem tyV_of {T : Ty} {d : D} {v : V} (s : Same F H) (x : Vw K F H d v) (h : tyD T d = true) : tyV K T.s v H := by
  cases d with
  | lst ds =>
    cases T <;> first
      | (cases h; done)
      | (obtain ⟨a, vs, rfl, ha, _⟩ := x.lst s; exact .inl ⟨rfl, _, SqL.of ha⟩)
  | scr ns =>
    cases T <;> first
      | (cases h; done)
      | (obtain ⟨a, rfl, ha⟩ := x.scr; exact .inl ⟨rfl, _, s.seq ha⟩)
  | str z =>
    cases T <;> first
      | (cases h; done)
      | (cases x.str; exact rfl)
  | dK ks ds =>
    cases T <;> first
      | (cases h; done)
      | (obtain ⟨a, vs, rfl, ha, _⟩ := x.dK s; exact .inr (.inr (.inl ⟨rfl, .inl ⟨_, ha⟩⟩)))
  | dT ks ds =>
    cases T <;> first
      | (cases h; done)
      | (obtain ⟨a, vs, rfl, ha, _⟩ := x.dT s; exact .inr (.inr (.inl ⟨rfl, .inr ⟨_, ha⟩⟩)))
  | _ => cases T <;> cases h
def lm (r : V → List V → Hp → VK → Prop) : List V → Hp → VK → Prop := fun vs H Q => match vs with | x :: xs => r x xs H Q | [] => False
def eMeth (T : Ty) (f : List DL.T → List R → ER R) (go : List DL.T → ER R) (ga : List DL.T → ER (List R)) : List DL.T → ER R := fun ρ =>
  (go ρ).bind fun r ρ1 => if tyR T ρ1 r = true then (ga ρ1).bind fun rs ρ2 => f ρ2 (r :: rs) else .stuck
theorem tyR_of {T : Ty} {ρ : List DL.T} {r : R} {v : V} (o : OKV K F H ρ σ [r] [v] fp ft) (h : tyR T ρ r = true) : tyV K T.s v H := by
  unfold tyR at h
  cases q : dat ρ r with
  | none => rw [q] at h; cases h
  | some d =>
    rw [q] at h
    obtain ⟨f, x, _⟩ := o.rp
    cases x with
    | cons x t => exact tyV_of o.sub (dat_vw o.sl x q) h
theorem e_meth (T : Ty) {to : TE} {ta : TA} {r : V → List V → Hp → VK → Prop} {f : List DL.T → List R → ER R} {go : List DL.T → ER R} {ga : List DL.T → ER (List R)} (hm : OpS K cl W (lm r) f) (ho : SndE K cl W to go) (ha : SndA K cl W ta ga) :
    SndE K cl W (tBM K T.s r to ta) (eMeth T f go ga) := by
  intro F H ρ σ fp Q o p
  refine ho _ _ _ _ _ _ o ?_
  unfold eMeth at p
  cases q : go ρ with
  | stuck => rw [q] at p; exact p
  | exc c ρ1 => rw [q] at p; exact p
  | ok r0 ρ1 =>
    rw [q] at p
    intro F1 H1 v fp1 ft1 e1 o1
    have p1 : PostE K cl W σ F H fp (if tyR T ρ1 r0 = true then (ga ρ1).bind fun rs ρ2 => f ρ2 (r0 :: rs) else .stuck) Q := p
    clear p
    by_cases c : tyR T ρ1 r0 = true
    · rw [if_pos c] at p1
      refine ⟨tyR_of o1 c, ?_⟩
      refine ha _ _ _ _ _ _ o1.ok ?_
      cases q2 : ga ρ1 with
      | stuck => rw [q2] at p1; exact p1
      | exc c ρ2 => rw [q2] at p1; exact PostX.mono e1.drop p1
      | ok rs ρ2 =>
        rw [q2] at p1
        intro F2 H2 vs fp2 ft2 e2 o2
        exact hm F2 H2 ρ2 σ fp2 (ft1 ++ ft2) (r0 :: rs) (v :: vs) Q (o1.carry e2 o2) (PostE.mono (e1.carry e2) p1)
    · rw [if_neg c] at p1; exact p1.elim
theorem e_meth0 (T : Ty) {to : TE} {r : V → List V → Hp → VK → Prop} {f : List DL.T → List R → ER R} {go : List DL.T → ER R} (hm : OpS K cl W (lm r) f) (ho : SndE K cl W to go) :
    SndE K cl W (tBM0 K T.s r to) (eMeth T f go aNil) := e_meth T (ta := tNil) hm ho a_nil

/-! ### methods that change an owned list -/
def fMut2 (p : List D → List D → Option (List D × D)) (i : Nat) (ds : List D) (ρ1 : List DL.T) : ER R :=
  match ρ1[i]? with
  | some (.ol cs) => optE (p cs ds) fun x => .ok (.tv (.fz x.2)) (ρ1.set i (.ol x.1))
  | _ => .stuck
def fMut (p : List D → List D → Option (List D × D)) : List DL.T → List R → ER R := fun ρ rs =>
  match rs with
  | .bw i :: as => optE (frzs ρ as) fun x => fMut2 p i x.1 x.2
  | _ => .stuck
def MutOp (K : KF) (r : V → List V → Hp → VK → Prop) (p : List D → List D → Option (List D × D)) : Prop :=
  ∀ F H a xs cs vs ds cs' d, Same F H → H a = some (.lst xs) → Reps K F cs xs → Reps K F ds vs → p cs ds = some (cs', d) →
    ∃ xs' v, Reps K F cs' xs' ∧ Rep K F d v ∧ ∀ Q : VK, Q v (upd H a (.lst xs')) → r (.ref a) vs H Q
theorem mut_op {r : V → List V → Hp → VK → Prop} {p : List D → List D → Option (List D × D)} (h : MutOp K r p) : OpS K cl W (lm r) (fMut p) := by
  intro F H ρ σ fp ft rs vs Q o q
  obtain ⟨f, x, pf⟩ := id o.rp
  clear pf
  cases x with
  | nil => exact q.elim
  | cons x t =>
    cases x with
    | tv _ => exact q.elim
    | @bw i v hi =>
      rename_i rs vs f2
      obtain ⟨g1, g2, _, o2, pm⟩ := o.uncons
      have q1 : PostE K cl W σ F H (fp ++ ft) (optE (frzs ρ rs) fun x => fMut2 p i x.1 x.2) Q := q
      clear q
      cases e : frzs ρ rs with
      | none => rw [e] at q1; exact q1.elim
      | some dr =>
        obtain ⟨ds, ρ1⟩ := dr
        rw [e] at q1
        obtain ⟨F1, fp1, e1, o1, r1⟩ := o2.frzs e
        have e1' : Ext F H (fp ++ ft) F1 H fp1 := ⟨e1.sub, fun a ha => (e1.dom a ha).imp id fun z => z.imp (fun z => by
            rcases List.mem_append.mp z with z | z
            · exact List.mem_append_left _ z
            · exact List.mem_append_right _ (pm.mem_iff.mpr (List.mem_append_right _ z))) id,
          fun a ha => (e1.fps a ha).imp (fun z => by
            rcases List.mem_append.mp z with z | z
            · exact List.mem_append_left _ z
            · exact List.mem_append_right _ (pm.mem_iff.mpr (List.mem_append_right _ z))) id, fun a w hw _ => hw⟩
        have q2 : PostE K cl W σ F H (fp ++ ft) (fMut2 p i ds ρ1) Q := q1
        clear q1
        unfold fMut2 at q2
        split at q2
        · rename_i cs qi
          obtain ⟨a, s1, s2, s3⟩ := o1.mutAt qi rfl
          rw [hi] at s1; cases s1
          cases s2 with
          | ol ha ra =>
            rename_i xs
            cases ep : p cs ds with
            | none => rw [ep] at q2; exact q2.elim
            | some cd =>
              obtain ⟨cs', d⟩ := cd
              rw [ep] at q2
              obtain ⟨xs', w, rx, rw_, k⟩ := h F1 H a xs cs vs ds cs' d o1.sub ha ra r1 ep
              obtain ⟨o3, e3⟩ := s3 _ (.ol cs') (.ol upd_same rx)
              exact k Q (q2 F1 _ w fp1 [] (by rw [List.append_nil]; exact e1'.trans e3) (o3.one0 (.tv (.fz rw_))))
        · exact q2.elim

/-! ### statements -/
def sNext : List DL.T → SR := fun ρ => .nx ρ
def sBrk : List DL.T → SR := fun ρ => .bk ρ
def sCnt : List DL.T → SR := fun ρ => .ct ρ
def sStuck : List DL.T → SR := fun _ => .stuck
def sSeq (g u : List DL.T → SR) : List DL.T → SR := fun ρ =>
  match g ρ with
  | .nx ρ1 => u ρ1
  | x => x
theorem s_next : SndS K cl W kp tNext sNext := fun F H ρ σ fp E o p => p F H σ fp Ext.refl o KeepS.refl
theorem s_break : SndS K cl W kp tBreak sBrk := fun F H ρ σ fp E o p => p F H σ fp Ext.refl o KeepS.refl
theorem s_cont : SndS K cl W kp tCont sCnt := fun F H ρ σ fp E o p => p F H σ fp Ext.refl o KeepS.refl
theorem s_never : SndS K cl W kp tNever sStuck := fun F H ρ σ fp E o p => p
theorem s_seq {t u : TS} {g k : List DL.T → SR} (ht : SndS K cl W kp t g) (hu : SndS K cl W kp u k) : SndS K cl W kp (tSeq t u) (sSeq g k) := by
  intro F H ρ σ fp E o p
  refine ht _ _ _ _ _ _ o ?_
  unfold sSeq at p
  cases q : g ρ with
  | nx ρ1 =>
    rw [q] at p
    intro F1 H1 σ1 fp1 e1 o1 k1
    exact hu _ _ _ _ _ _ o1 (PostS.mono e1 k1 p)
  | rt t ρ1 => rw [q] at p; exact p
  | bk ρ1 => rw [q] at p; exact p
  | ct ρ1 => rw [q] at p; exact p
  | exc c ρ1 => rw [q] at p; exact p
  | stuck => rw [q] at p; exact p
theorem PostX.s {x : SR} {c : Str} {ρ : List DL.T} {E : Ends} (p : PostS K cl W kp σ F H fp (.exc c ρ) E) : PostX K cl W σ F H fp c ρ := fun F' H' fp' e o => p F' H' σ fp' e o KeepS.refl
/-- an expression's value is dropped -/
def sExpr (g : List DL.T → ER R) : List DL.T → SR := fun ρ => (g ρ).toS fun _ ρ1 => .nx ρ1
theorem s_expr {t : TE} {g : List DL.T → ER R} (h : SndE K cl W t g) : SndS K cl W kp (tDrop t) (sExpr g) := by
  intro F H ρ σ fp E o p
  refine h _ _ _ _ _ _ o ?_
  unfold sExpr at p
  cases q : g ρ with
  | stuck => rw [q] at p; exact p
  | exc c ρ1 => rw [q] at p; exact PostX.s (x := .stuck) p
  | ok r ρ1 => rw [q] at p; exact fun F1 H1 v fp1 ft1 e1 o1 => p F1 H1 σ fp1 e1.drop o1.ok KeepS.refl
def sIf (g : List DL.T → ER Bool) (a b : List DL.T → SR) : List DL.T → SR := fun ρ => (g ρ).toS fun c ρ1 => if c = true then a ρ1 else b ρ1
theorem s_if {c : TT} {t u : TS} {g : List DL.T → ER Bool} {a b : List DL.T → SR} (h : SndT K cl W c g) (ha : SndS K cl W kp t a) (hb : SndS K cl W kp u b) : SndS K cl W kp (tIfS c t u) (sIf g a b) := by
  intro F H ρ σ fp E o p
  refine h _ _ _ _ _ _ o ?_
  unfold sIf at p
  cases q : g ρ with
  | stuck => rw [q] at p; exact p
  | exc c ρ1 => rw [q] at p; exact PostX.s (x := .stuck) p
  | ok c ρ1 =>
    rw [q] at p
    intro F1 H1 fp1 e1 o1
    have p : PostS K cl W kp σ F H fp (if c = true then a ρ1 else b ρ1) E := p
    cases c with
    | true => rw [if_pos rfl] at p ⊢; exact ha _ _ _ _ _ _ o1 (PostS.mono e1 KeepS.refl p)
    | false => rw [if_neg Bool.false_ne_true] at p ⊢; exact hb _ _ _ _ _ _ o1 (PostS.mono e1 KeepS.refl p)
/-- what is handed back: a slot's own thing leaves its slot -/
def toRet (ρ : List DL.T) : R → Option (DL.T × List DL.T)
  | .tv t => some (t, ρ)
  | .bw i => match ρ[i]? with
    | some .dead => none
    | some t => some (t, ρ.set i .dead)
    | none => none
def sRet (g : List DL.T → ER R) : List DL.T → SR := fun ρ => (g ρ).toS fun r ρ1 => optS (toRet ρ1 r) fun (t, ρ2) => .rt t ρ2
theorem OKV.ret {ρ ρ' : List DL.T} {r : R} {v : V} {t : DL.T} (o : OKV K F H ρ σ [r] [v] fp ft) (e : toRet ρ r = some (t, ρ')) : ∃ fp' ft', Ext F H (fp ++ ft) F H (fp' ++ ft') ∧ OKV K F H ρ' σ [.tv t] [v] fp' ft' := by
  obtain ⟨f1, f2, x, o2, p⟩ := o.uncons
  cases x with
  | tv x => cases e; exact ⟨fp, ft, Ext.refl, o⟩
  | bw h =>
    rename_i i
    unfold toRet at e
    cases q : ρ[i]? with
    | none => simp only [q] at e; cases e
    | some t0 =>
      by_cases n : t0 = .dead
      · subst n; simp only [q] at e; cases e
      · have e2 : t0 = t ∧ ρ.set i .dead = ρ' := by
          simp only [q] at e
          cases t0 with
          | dead => exact absurd rfl n
          | _ => cases e; exact ⟨rfl, rfl⟩
        obtain ⟨rfl, rfl⟩ := e2
        obtain ⟨f0, s, pm⟩ := o.sl
        obtain ⟨v', g1, g2, h1, h2, h3, h4⟩ := s.out q n
        rw [h] at h1; cases h1
        have pp : fp.Perm (g1 ++ g2) := pm.symm.trans h4
        have nd : fp.Nodup := (List.nodup_append.mp o.nd).1
        have nd2 : (g2 ++ g1).Nodup := by rw [← List.Perm.nodup_iff (pp.trans List.perm_append_comm)]; exact nd
        have mem : ∀ b, b ∈ g2 ++ g1 → b ∈ fp := fun b hb => (pp.trans List.perm_append_comm).mem_iff.mpr hb
        refine ⟨g2, g1, ⟨Same.refl _, fun _ h => .inl h, fun b hb => .inl (List.mem_append_left _ (mem b hb)), fun _ _ h _ => h⟩, ⟨o.sub, ⟨g2, h3, .refl _⟩, ⟨g1 ++ [], .cons (.tv h2) .nil, by rw [List.append_nil]⟩, nd2, fun b hb => o.out b (List.mem_append_left _ (mem b hb))⟩⟩
theorem s_ret {t : TE} {g : List DL.T → ER R} (h : SndE K cl W t g) : SndS K cl W kp (tRet t) (sRet g) := by
  intro F H ρ σ fp E o p
  refine h _ _ _ _ _ _ o ?_
  unfold sRet at p
  cases q : g ρ with
  | stuck => rw [q] at p; exact p
  | exc c ρ1 => rw [q] at p; exact PostX.s (x := .stuck) p
  | ok r ρ1 =>
    rw [q] at p
    intro F1 H1 v fp1 ft1 e1 o1
    have p : PostS K cl W kp σ F H fp (optS (toRet ρ1 r) fun (t, ρ2) => .rt t ρ2) E := p
    cases e : toRet ρ1 r with
    | none => rw [e] at p; exact p.elim
    | some tr =>
      obtain ⟨t, ρ2⟩ := tr
      rw [e] at p
      obtain ⟨fp2, ft2, e2, o2⟩ := o1.ret e
      exact p F1 H1 σ v fp2 ft2 (e1.trans e2) o2 KeepS.refl
def sRetN : List DL.T → SR := fun ρ => .rt (.fz .non) ρ
theorem s_retN : SndS K cl W kp tRetN sRetN := by
  intro F H ρ σ fp E o p
  exact p F H σ .non fp [] (by rw [List.append_nil]; exact Ext.refl) (o.one0 (.tv (.fz .non))) KeepS.refl
/-- a value put into a slot -/
def toSlot (ρ : List DL.T) : R → Option (DL.T × List DL.T)
  | .tv t => some (t, ρ)
  | .bw i => (frz1 ρ (.bw i)).bind fun (d, ρ1) => some (.fz d, ρ1)
theorem OKV.store {ρ ρ' : List DL.T} {r : R} {v : V} {t : DL.T} (o : OKV K F H ρ σ [r] [v] fp ft) (e : toSlot ρ r = some (t, ρ')) (i : Nat) :
    ∃ F' fp', Ext F H (fp ++ ft) F' H fp' ∧ OK K F' H (ρ'.set i t) (σ.set i (some v)) fp' := by
  have put : ∀ {F : Hp} {ρ : List DL.T} {fp ft : List Addr} {t : DL.T}, OKV K F H ρ σ [.tv t] [v] fp ft → ∃ fp', (∀ a ∈ fp', a ∈ fp ++ ft) ∧ OK K F H (ρ.set i t) (σ.set i (some v)) fp' := fun {F ρ fp ft t} o => by
    by_cases hi : i < ρ.length
    · obtain ⟨f0, s, p⟩ := o.sl
      obtain ⟨f1, f2, x, o2, pm⟩ := o.uncons
      cases x with
      | tv x =>
        obtain ⟨g1, g2, g, h1, h2, h3⟩ := s.set x hi
        obtain ⟨w, y, pw⟩ := o2.rp
        cases y
        have e2 : f2 = [] := pw.symm.eq_nil
        subst e2
        rw [List.append_nil] at pm
        have sub : ∀ a, a ∈ f1 ++ g2 → a ∈ fp ++ ft := fun a ha => by
          rcases List.mem_append.mp ha with h | h
          · exact List.mem_append_right _ (pm.mem_iff.mpr h)
          · exact List.mem_append_left _ (p.mem_iff.mp (h3.mem_iff.mpr (List.mem_append_right _ h)))
        have nd : (f1 ++ g2).Nodup := by
          have q : (fp ++ ft).Perm ((f1 ++ g2) ++ g1) := by
            refine (List.Perm.append (p.symm.trans h3) pm).trans ?_
            refine (List.perm_append_comm).trans ?_
            rw [List.append_assoc]
            exact List.Perm.append_left f1 List.perm_append_comm
          exact (List.nodup_append.mp ((q.nodup_iff).mp o.nd)).1
        refine ⟨f1 ++ g2, sub, o.sub, ⟨g, h1, h2⟩, ⟨[], .nil, .refl _⟩, by rw [List.append_nil]; exact nd, fun a ha => o.out a (sub a (by rwa [List.append_nil] at ha))⟩
    · refine ⟨fp, fun a ha => List.mem_append_left _ ha, ?_⟩
      rw [List.set_eq_of_length_le (by omega), List.set_eq_of_length_le (by rw [← o.len]; omega)]
      exact o.ok
  cases r with
  | tv t0 =>
    cases e
    obtain ⟨fp', h1, h2⟩ := put o
    exact ⟨F, fp', Ext.refl.sub' h1, h2⟩
  | bw j =>
    have e : (DL.frz1 ρ (.bw j)).bind (fun (d, ρ1) => some (DL.T.fz d, ρ1)) = some (t, ρ') := e
    cases q : DL.frz1 ρ (.bw j) with
    | none => rw [q] at e; cases e
    | some dr =>
      obtain ⟨d, ρ1⟩ := dr
      rw [q] at e; cases e
      obtain ⟨F', fp', ft', e', o', r'⟩ := o.frz1 q
      obtain ⟨fp2, h1, h2⟩ := put (o'.ok.one0 (.tv (.fz r')))
      exact ⟨F', fp2, e'.sub' fun a ha => List.mem_append_left _ (by have := h1 a ha; rwa [List.append_nil] at this), h2⟩
def sSet (i : Nat) (g : List DL.T → ER R) : List DL.T → SR := fun ρ => (g ρ).toS fun r ρ1 => optS (toSlot ρ1 r) fun (t, ρ2) => .nx (ρ2.set i t)
theorem s_set {i : Nat} {t : TE} {g : List DL.T → ER R} (hk : kp i = false) (h : SndE K cl W t g) : SndS K cl W kp (tAsg t (gName i)) (sSet i g) := by
  intro F H ρ σ fp E o p
  show t σ H fun x H1 => E.nx (σ.set i (some x)) H1
  refine h _ _ _ _ _ _ o ?_
  unfold sSet at p
  cases q : g ρ with
  | stuck => rw [q] at p; exact p
  | exc c ρ1 => rw [q] at p; exact PostX.s (x := .stuck) p
  | ok r ρ1 =>
    rw [q] at p
    intro F1 H1 v fp1 ft1 e1 o1
    have p : PostS K cl W kp σ F H fp (optS (toSlot ρ1 r) fun (t, ρ2) => .nx (ρ2.set i t)) E := p
    cases e : toSlot ρ1 r with
    | none => rw [e] at p; exact p.elim
    | some tr =>
      obtain ⟨t, ρ2⟩ := tr
      rw [e] at p
      obtain ⟨F2, fp2, e2, o2⟩ := o1.store e i
      exact p F2 H1 (σ.set i (some v)) fp2 (e1.trans e2) o2 (KeepS.set hk)
/-- any target, the value frozen -/
def sAsg (G : D → List DL.T → Option (List DL.T)) (g : List DL.T → ER R) : List DL.T → SR := fun ρ => (g ρ).toS fun r ρ1 => optS (frz1 ρ1 r) fun (d, ρ2) => optS (G d ρ2) fun ρ3 => .nx ρ3
theorem s_asg {t : TE} {tg : TG} {G : D → List DL.T → Option (List DL.T)} {g : List DL.T → ER R} (hg : SndG K kp tg G) (h : SndE K cl W t g) : SndS K cl W kp (tAsg t tg) (sAsg G g) := by
  intro F H ρ σ fp E o p
  show t σ H fun x H1 => tg x σ H1 E.nx
  refine h _ _ _ _ _ _ o ?_
  unfold sAsg at p
  cases q : g ρ with
  | stuck => rw [q] at p; exact p
  | exc c ρ1 => rw [q] at p; exact PostX.s (x := .stuck) p
  | ok r ρ1 =>
    rw [q] at p
    intro F1 H1 v fp1 ft1 e1 o1
    have p : PostS K cl W kp σ F H fp (optS (frz1 ρ1 r) fun (d, ρ2) => optS (G d ρ2) fun ρ3 => .nx ρ3) E := p
    cases e : frz1 ρ1 r with
    | none => rw [e] at p; exact p.elim
    | some dr =>
      obtain ⟨d, ρ2⟩ := dr
      rw [e] at p
      have p : PostS K cl W kp σ F H fp (optS (G d ρ2) fun ρ3 => .nx ρ3) E := p
      cases e2 : G d ρ2 with
      | none => rw [e2] at p; exact p.elim
      | some ρ3 =>
        rw [e2] at p
        obtain ⟨F2, fp2, ft2, x2, o2, r2⟩ := o1.frz1 e
        refine hg F2 H1 ρ2 σ fp2 v d ρ3 _ o2.ok r2 e2 fun F3 H3 σ3 fp3 x3 o3 k3 => ?_
        exact p F3 H3 σ3 fp3 ((e1.trans x2.drop).trans x3) o3 k3
/-- targets -/
def tgName (i : Nat) : D → List DL.T → Option (List DL.T) := fun d ρ => some (ρ.set i (.fz d))
theorem g_name {i : Nat} (hk : kp i = false) : SndG K kp (gName i) (tgName i) := by
  intro F H ρ σ fp v d ρ' Q o r e q
  cases e
  obtain ⟨F2, fp2, x2, o2⟩ := (o.one0 (.tv (.fz r))).store (t := .fz d) rfl i
  rw [List.append_nil] at x2
  exact q F2 H _ fp2 x2 o2 (KeepS.set hk)
/-- several targets, a tuple's items -/
def SndGs (K : KF) (kp : Kp) (g : TGs) (G : List D → List DL.T → Option (List DL.T)) : Prop :=
  ∀ F H ρ σ fp vs ds ρ' Q, OK K F H ρ σ fp → Reps K F ds vs → G ds ρ = some ρ' → (∀ F' H' σ' fp', Ext F H fp F' H' fp' → OK K F' H' ρ' σ' fp' → KeepS kp σ σ' → Q σ' H') → g vs σ H Q
def tgNil : List D → List DL.T → Option (List DL.T) := fun ds ρ => match ds with | [] => some ρ | _ => none
def tgCons (G : D → List DL.T → Option (List DL.T)) (Gs : List D → List DL.T → Option (List DL.T)) : List D → List DL.T → Option (List DL.T) := fun ds ρ => match ds with
  | d :: ds => (G d ρ).bind fun ρ1 => Gs ds ρ1
  | [] => none
theorem g_nil : SndGs K kp gNil tgNil := by
  intro F H ρ σ fp vs ds ρ' Q o r e q
  cases r with
  | nil => cases e; exact ⟨rfl, q F H σ fp Ext.refl o KeepS.refl⟩
  | cons _ _ => cases e
theorem g_cons {t : TG} {u : TGs} {G : D → List DL.T → Option (List DL.T)} {Gs : List D → List DL.T → Option (List DL.T)} (h : SndG K kp t G) (hs : SndGs K kp u Gs) : SndGs K kp (gCons t u) (tgCons G Gs) := by
  intro F H ρ σ fp vs ds ρ' Q o r e q
  cases r with
  | nil => cases e
  | cons r rs =>
    rename_i d v ds vs
    have e : (G d ρ).bind (fun ρ1 => Gs ds ρ1) = some ρ' := e
    cases e1 : G d ρ with
    | none => rw [e1] at e; cases e
    | some ρ1 =>
      rw [e1] at e
      refine ⟨v, vs, rfl, h F H ρ σ fp v d ρ1 _ o r e1 fun F1 H1 σ1 fp1 x1 o1 k1 => ?_⟩
      exact hs F1 H1 ρ1 σ1 fp1 vs ds ρ' Q o1 (rs.mono x1.sub) e fun F2 H2 σ2 fp2 x2 o2 k2 => q F2 H2 σ2 fp2 (x1.trans x2) o2 (k1.trans k2)
def tgTup (n : Nat) (Gs : List D → List DL.T → Option (List DL.T)) : D → List DL.T → Option (List DL.T) := fun d ρ => match d with
  | .tup ds => if ds.length = n then Gs ds ρ else none
  | _ => none
theorem g_tup {n : Nat} {t : TGs} {Gs : List D → List DL.T → Option (List DL.T)} (h : SndGs K kp t Gs) : SndG K kp (gTup K n t) (tgTup n Gs) := by
  intro F H ρ σ fp v d ρ' Q o r e q
  cases d with
  | tup ds =>
    have e : (if ds.length = n then Gs ds ρ else none) = some ρ' := e
    by_cases c : ds.length = n
    · rw [if_pos c] at e
      cases r with
      | tup hs rs => exact ⟨_, _, rfl, SqT_mono o.sub hs, rs.length.symm.trans c, h F H ρ σ fp _ ds ρ' Q o rs e q⟩
    · rw [if_neg c] at e; cases e
  | _ => cases e
/-- x[i] = .. , x an owned list -/
def tgSubL (go gi : List DL.T → ER R) : D → List DL.T → Option (List DL.T) := fun d ρ =>
  match go ρ with
  | .ok (.bw i) ρ1 => match gi ρ1 with
    | .ok (.tv (.fz (.int k))) ρ2 => match ρ2[i]? with
      | some (.ol cs) => (ixN cs.length k).bind fun j => some (ρ2.set i (.ol (cs.set j d)))
      | _ => none
    | _ => none
  | _ => none
theorem g_subL {to ti : TE} {go gi : List DL.T → ER R} (ho : SndE K cl W to go) (hi : SndE K cl W ti gi) : SndG K kp (gSub to ti rSetL) (tgSubL go gi) := by
  intro F H ρ σ fp v d ρ' Q o r e q
  show to σ H fun x H1 => ti σ H1 fun y H2 => rSetL x y v H2 fun H3 => Q σ H3
  refine ho _ _ _ _ _ _ o ?_
  unfold tgSubL at e
  cases q1 : go ρ with
  | stuck => rw [q1] at e; cases e
  | exc c ρ1 => rw [q1] at e; cases e
  | ok r1 ρ1 =>
    rw [q1] at e
    cases r1 with
    | tv _ => cases e
    | bw i =>
      intro F1 H1 x fp1 ft1 e1 o1
      refine hi _ _ _ _ _ _ o1.ok ?_
      have e : (match gi ρ1 with
        | .ok (.tv (.fz (.int k))) ρ2 => match ρ2[i]? with
          | some (.ol cs) => (ixN cs.length k).bind fun j => some (ρ2.set i (DL.T.ol (cs.set j d)))
          | _ => none
        | _ => none) = some ρ' := e
      cases q2 : gi ρ1 with
      | stuck => rw [q2] at e; cases e
      | exc c ρ2 => rw [q2] at e; cases e
      | ok r2 ρ2 =>
        rw [q2] at e
        intro F2 H2 y fp2 ft2 e2 o2
        have key : ∃ k cs j, r2 = .tv (.fz (.int k)) ∧ ρ2[i]? = some (.ol cs) ∧ ixN cs.length k = some j ∧ ρ' = ρ2.set i (.ol (cs.set j d)) := by
          split at e
          · rename_i k ρ2 hq
            cases hq
            split at e
            · rename_i cs hc
              cases hj : ixN cs.length k with
              | none => rw [hj] at e; cases e
              | some j => rw [hj] at e; cases e; exact ⟨k, cs, j, rfl, hc, hj, rfl⟩
            · cases e
          · cases e
        obtain ⟨k, cs, j, rfl, hc, hj, rfl⟩ := key
        obtain ⟨f1, x1, _⟩ := o1.rp
        cases x1 with
        | cons x1 t1 =>
          cases x1 with
          | bw hx =>
            obtain ⟨f2, x2, _⟩ := o2.rp
            cases x2 with
            | cons x2 t2 =>
              cases x2 with
              | tv x2 =>
                cases x2 with
                | fz x2 =>
                  cases x2
                  obtain ⟨a, s1, s2, s3⟩ := o2.ok.mutAt hc rfl
                  rw [hx] at s1; cases s1
                  cases s2 with
                  | ol ha ra =>
                    rename_i xs
                    have rv : Rep K F2 d v := (r.mono e1.sub).mono e2.sub
                    refine ⟨a, xs, k, j, rfl, rfl, ha, by rw [← ra.length]; exact hj, ?_⟩
                    obtain ⟨o3, e3⟩ := s3 (.lst (xs.set j v)) (.ol (cs.set j d)) (.ol upd_same (ra.set rv j))
                    exact q F2 _ σ fp2 ((e1.drop.trans e2.drop).trans e3) o3 KeepS.refl
end
end DL

set_option Elab.async false
set_option linter.all false
set_option maxRecDepth 100000
namespace DL
open PySem PySem.Spec L2

/-! ### what is walked -/
/-- the slot whose list is walked is as it was -/
def chkW (w : List Nat) (ρ0 ρ : List T) : Prop := ∀ j ∈ w, ρ[j]? = ρ0[j]?
noncomputable instance {w : List Nat} {ρ0 ρ : List T} : Decidable (chkW w ρ0 ρ) := Classical.propDecidable _
def chkS (w : List Nat) (σ0 σ : St) : Prop := ∀ j ∈ w, σ[j]? = σ0[j]?
structure IterOk (K : KF) (F0 : Hp) (ρ0 : List T) (σ0 : St) (J : It) (items : List D) (w : List Nat) : Prop where
  go : ∀ i d F H ρ σ fp, Same F0 F → OK K F H ρ σ fp → chkW w ρ0 ρ → chkS w σ0 σ → items[i]? = some d →
    J.go i H ∧ ∀ x H', J.yld i H x H' → ∃ F', Ext F H fp F' H' fp ∧ OK K F' H' ρ σ fp ∧ Rep K F' d x
  stop : ∀ F H ρ σ fp, Same F0 F → OK K F H ρ σ fp → chkW w ρ0 ρ → chkS w σ0 σ → J.stop items.length H
structure Src where
  items : List D
  w : List Nat
section
variable (K : KF) (cl : Str → Addr) (W : WX)
def PostI (σ : St) (F H : Hp) (fp : List Addr) (x : ER Src) (Q : It → Hp → Prop) : Prop :=
  match x with
  | .ok s ρ => ∀ F' H' fp' J, Ext F H fp F' H' fp' → OK K F' H' ρ σ fp' → IterOk K F' ρ σ J s.items s.w → Q J H'
  | .exc c ρ => PostX K cl W σ F H fp c ρ
  | .stuck => False
def SndI (wi : TI) (g : List T → ER Src) : Prop := ∀ F H ρ σ fp Q, OK K F H ρ σ fp → PostI K cl W σ F H fp (g ρ) Q → wi σ H Q
end

/-! ### for -/
noncomputable def loopS (w : List Nat) (ρ0 : List T) (G : D → List T → Option (List T)) (body : List T → SR) : List D → List T → SR
  | [], ρ => .nx ρ
  | d :: ds, ρ => optS (G d ρ) fun ρ1 => match body ρ1 with
    | .nx ρ2 => if chkW w ρ0 ρ2 then loopS w ρ0 G body ds ρ2 else .stuck
    | .ct ρ2 => if chkW w ρ0 ρ2 then loopS w ρ0 G body ds ρ2 else .stuck
    | .bk ρ2 => .nx ρ2
    | x => x
@[simp] def wOk (w : List Nat) (kp : Kp) : Bool := w.all kp
noncomputable def sFor (kpb : Kp) (gi : List T → ER Src) (G : D → List T → Option (List T)) (body : List T → SR) : List T → SR := fun ρ =>
  (gi ρ).toS fun s ρ1 => if wOk s.w kpb = true then loopS s.w ρ1 G body s.items ρ1 else .stuck
section
variable {K : KF} {cl : Str → Addr} {W : WX} {F H F1 H1 : Hp} {fp fp1 ft : List Addr} {σ σ1 : St} {kp kpb : Kp}
theorem PostS.wk {x : SR} {E : Ends} (h : ∀ i, kp i = true → kpb i = true) (p : PostS K cl W kp σ F H fp x E) : PostS K cl W kpb σ F H fp x E := by
  cases x with
  | nx ρ => exact fun F' H' σ' fp' e o k => p F' H' σ' fp' e o (k.weak h)
  | bk ρ => exact fun F' H' σ' fp' e o k => p F' H' σ' fp' e o (k.weak h)
  | ct ρ => exact fun F' H' σ' fp' e o k => p F' H' σ' fp' e o (k.weak h)
  | exc c ρ => exact fun F' H' σ' fp' e o k => p F' H' σ' fp' e o (k.weak h)
  | rt t ρ => exact fun F' H' σ' v fp' ft' e o k => p F' H' σ' v fp' ft' e o (k.weak h)
  | stuck => exact p
theorem chkS_of {w : List Nat} (h : wOk w kpb = true) (k : KeepS kpb σ σ1) : chkS w σ σ1 := fun j hj => k.at_ j (List.all_eq_true.mp h j hj)
theorem chkW_refl {w : List Nat} {ρ : List T} : chkW w ρ ρ := fun _ _ => rfl
theorem s_for {wi : TI} {g : TG} {tb : TS} {gi : List T → ER Src} {G : D → List T → Option (List T)} {body : List T → SR} (hk : ∀ i, kp i = true → kpb i = true) (hi : SndI K cl W wi gi) (hg : SndG K kpb g G) (hb : SndS K cl W kpb tb body) :
    SndS K cl W kp (tFor wi g tb) (sFor kpb gi G body) := by
  intro F H ρ σ fp E o p
  refine hi _ _ _ _ _ _ o ?_
  unfold sFor at p
  cases q : gi ρ with
  | stuck => rw [q] at p; exact p
  | exc c ρ1 => rw [q] at p; exact PostX.s (x := .stuck) p
  | ok s ρ1 =>
    rw [q] at p
    intro F1 H1 fp1 J e1 o1 it
    obtain ⟨items, w⟩ := s
    have p1 : PostS K cl W kp σ F H fp (if wOk w kpb = true then loopS w ρ1 G body items ρ1 else .stuck) E := p
    clear p
    by_cases c : wOk w kpb = true
    · rw [if_pos c] at p1
      have p2 : PostS K cl W kpb σ F1 H1 fp1 (loopS w ρ1 G body items ρ1) E := PostS.wk hk (PostS.mono e1 KeepS.refl p1)
      clear p1
      refine ⟨fun i m σ' H' => m = items.length - i ∧ i ≤ items.length ∧ ∃ F' ρ' fp', Ext F1 H1 fp1 F' H' fp' ∧ OK K F' H' ρ' σ' fp' ∧ KeepS kpb σ σ' ∧ chkW w ρ1 ρ' ∧ PostS K cl W kpb σ' F' H' fp' (loopS w ρ1 G body (items.drop i) ρ') E,
        ⟨items.length, by simp, Nat.zero_le _, F1, ρ1, fp1, Ext.refl, o1, KeepS.refl, chkW_refl, by rw [List.drop_zero]; exact p2⟩, ?_⟩
      rintro i m σ' H' ⟨rfl, hle, F', ρ', fp', e2, o2, k2, ck, p3⟩
      have cs := chkS_of c k2
      by_cases hlt : i < items.length
      · have hd : items[i]? = some items[i] := List.getElem?_eq_getElem hlt
        obtain ⟨go, yl⟩ := it.go i items[i] F' H' ρ' σ' fp' e2.sub o2 ck cs hd
        refine .inr ⟨go, _, fun σ'' H'' w'' => ⟨items.length - (i + 1), by omega, w''⟩, fun x H2 y => ?_⟩
        obtain ⟨F2, e3, o3, r3⟩ := yl x H2 y
        rw [List.drop_eq_getElem_cons hlt] at p3
        have p4 : PostS K cl W kpb σ' F' H' fp' (optS (G items[i] ρ') fun ρ1' => match body ρ1' with
          | .nx ρ2 => if chkW w ρ1 ρ2 then loopS w ρ1 G body (items.drop (i + 1)) ρ2 else .stuck
          | .ct ρ2 => if chkW w ρ1 ρ2 then loopS w ρ1 G body (items.drop (i + 1)) ρ2 else .stuck
          | .bk ρ2 => .nx ρ2
          | x => x) E := p3
        clear p3
        cases qg : G items[i] ρ' with
        | none => rw [qg] at p4; exact p4.elim
        | some ρ3 =>
          rw [qg] at p4
          refine hg F2 H2 ρ' σ' fp' x items[i] ρ3 _ o3 r3 qg fun F4 H4 σ4 fp4 e4 o4 k4 => ?_
          refine hb _ _ _ _ _ _ o4 ?_
          have p5 : PostS K cl W kpb σ' F' H' fp' (match body ρ3 with
            | .nx ρ2 => if chkW w ρ1 ρ2 then loopS w ρ1 G body (items.drop (i + 1)) ρ2 else .stuck
            | .ct ρ2 => if chkW w ρ1 ρ2 then loopS w ρ1 G body (items.drop (i + 1)) ρ2 else .stuck
            | .bk ρ2 => .nx ρ2
            | x => x) E := p4
          clear p4
          have p6 := PostS.mono (e3.trans e4) k4 p5
          clear p5
          have again : ∀ ρ5, PostS K cl W kpb σ4 F4 H4 fp4 (if chkW w ρ1 ρ5 then loopS w ρ1 G body (items.drop (i + 1)) ρ5 else .stuck) E →
              ∀ F5 H5 σ5 fp5, Ext F4 H4 fp4 F5 H5 fp5 → OK K F5 H5 ρ5 σ5 fp5 → KeepS kpb σ4 σ5 →
              (items.length - (i + 1) = items.length - (i + 1) ∧ i + 1 ≤ items.length ∧ ∃ F' ρ' fp', Ext F1 H1 fp1 F' H5 fp' ∧ OK K F' H5 ρ' σ5 fp' ∧ KeepS kpb σ σ5 ∧ chkW w ρ1 ρ' ∧ PostS K cl W kpb σ5 F' H5 fp' (loopS w ρ1 G body (items.drop (i + 1)) ρ') E) := fun ρ5 p7 F5 H5 σ5 fp5 e5 o5 k5 => by
            by_cases cc : chkW w ρ1 ρ5
            · rw [if_pos cc] at p7
              exact ⟨rfl, hlt, F5, ρ5, fp5, ((e2.trans e3).trans e4).trans e5, o5, (k2.trans k4).trans k5, cc, PostS.mono e5 k5 p7⟩
            · rw [if_neg cc] at p7; exact p7.elim
          cases qb : body ρ3 with
          | nx ρ5 => rw [qb] at p6; exact fun F5 H5 σ5 fp5 e5 o5 k5 => again ρ5 p6 F5 H5 σ5 fp5 e5 o5 k5
          | ct ρ5 => rw [qb] at p6; exact fun F5 H5 σ5 fp5 e5 o5 k5 => again ρ5 p6 F5 H5 σ5 fp5 e5 o5 k5
          | bk ρ5 => rw [qb] at p6; exact p6
          | rt t ρ5 => rw [qb] at p6; exact p6
          | exc c ρ5 => rw [qb] at p6; exact p6
          | stuck => rw [qb] at p6; exact p6
      · have e : i = items.length := by omega
        subst e
        rw [List.drop_length] at p3
        exact .inl ⟨it.stop F' H' ρ' σ' fp' e2.sub o2 ck cs, p3 F' H' σ' fp' Ext.refl o2 KeepS.refl⟩
    · rw [if_neg c] at p1; exact p1.elim

/-! ### while -/
def whileS (gc : List T → ER Bool) (body : List T → SR) : Nat → List T → SR
  | 0, _ => .stuck
  | n + 1, ρ => (gc ρ).toS fun b ρ1 => if b = true then (match body ρ1 with
    | .nx ρ2 => whileS gc body n ρ2
    | .ct ρ2 => whileS gc body n ρ2
    | .bk ρ2 => .nx ρ2
    | x => x) else .nx ρ1
theorem s_while (fuel : Nat) {tc : TT} {tb : TS} {gc : List T → ER Bool} {body : List T → SR} (hc : SndT K cl W tc gc) (hb : SndS K cl W kp tb body) : SndS K cl W kp (tWhile tc tb) (whileS gc body fuel) := by
  intro F H ρ σ fp E o p
  refine ⟨fun m σ' H' => ∃ F' ρ' fp', Ext F H fp F' H' fp' ∧ OK K F' H' ρ' σ' fp' ∧ KeepS kp σ σ' ∧ PostS K cl W kp σ' F' H' fp' (whileS gc body m ρ') E, ⟨fuel, F, ρ, fp, Ext.refl, o, KeepS.refl, p⟩, ?_⟩
  rintro m σ' H' ⟨F', ρ', fp', e1, o1, k1, p1⟩
  refine hc _ _ _ _ _ _ o1 ?_
  cases m with
  | zero => exact p1.elim
  | succ m =>
    have p2 : PostS K cl W kp σ' F' H' fp' ((gc ρ').toS fun b ρ1 => if b = true then (match body ρ1 with
      | .nx ρ2 => whileS gc body m ρ2
      | .ct ρ2 => whileS gc body m ρ2
      | .bk ρ2 => .nx ρ2
      | x => x) else .nx ρ1) E := p1
    clear p1
    cases q : gc ρ' with
    | stuck => rw [q] at p2; exact p2
    | exc c ρ1 => rw [q] at p2; exact PostX.s (x := .stuck) p2
    | ok b ρ1 =>
      rw [q] at p2
      intro F2 H2 fp2 e2 o2
      have p3 : PostS K cl W kp σ' F' H' fp' (if b = true then (match body ρ1 with
        | .nx ρ2 => whileS gc body m ρ2
        | .ct ρ2 => whileS gc body m ρ2
        | .bk ρ2 => .nx ρ2
        | x => x) else .nx ρ1) E := p2
      clear p2
      cases b with
      | false => rw [if_neg Bool.false_ne_true] at p3 ⊢; exact p3 F2 H2 σ' fp2 e2 o2 KeepS.refl
      | true =>
        rw [if_pos rfl] at p3 ⊢
        refine ⟨_, fun σ'' H'' w'' => ⟨m, Nat.lt_succ_self m, w''⟩, ?_⟩
        refine hb _ _ _ _ _ _ o2 ?_
        have p4 := PostS.mono e2 KeepS.refl p3
        clear p3
        have again : ∀ ρ5, PostS K cl W kp σ' F2 H2 fp2 (whileS gc body m ρ5) E → ∀ F5 H5 σ5 fp5, Ext F2 H2 fp2 F5 H5 fp5 → OK K F5 H5 ρ5 σ5 fp5 → KeepS kp σ' σ5 →
            (∃ F' ρ' fp', Ext F H fp F' H5 fp' ∧ OK K F' H5 ρ' σ5 fp' ∧ KeepS kp σ σ5 ∧ PostS K cl W kp σ5 F' H5 fp' (whileS gc body m ρ') E) := fun ρ5 p7 F5 H5 σ5 fp5 e5 o5 k5 =>
          ⟨F5, ρ5, fp5, (e1.trans e2).trans e5, o5, k1.trans k5, PostS.mono e5 k5 p7⟩
        cases qb : body ρ1 with
        | nx ρ5 => rw [qb] at p4; exact fun F5 H5 σ5 fp5 e5 o5 k5 => again ρ5 p4 F5 H5 σ5 fp5 e5 o5 k5
        | ct ρ5 => rw [qb] at p4; exact fun F5 H5 σ5 fp5 e5 o5 k5 => again ρ5 p4 F5 H5 σ5 fp5 e5 o5 k5
        | bk ρ5 => rw [qb] at p4; exact p4
        | rt t ρ5 => rw [qb] at p4; exact p4
        | exc c ρ5 => rw [qb] at p4; exact p4
        | stuck => rw [qb] at p4; exact p4

/-! ### comprehensions -/
@[simp] def wipeT (ρ : List T) : List Nat → List T
  | [] => ρ
  | v :: vs => (wipeT ρ vs).set v .dead
def ER.bindN {α β : Type} (x : ER α) (f : α → List T → ER β) : ER β :=
  match x with
  | .ok a ρ => f a ρ
  | _ => .stuck
noncomputable def compL (w : List Nat) (ρ0 : List T) (vs : List Nat) (G : D → List T → Option (List T)) (gt : List T → ER Bool) (ge : List T → ER R) : List D → List D → List T → ER (List D)
  | [], acc, ρ => .ok acc ρ
  | d :: ds, acc, ρ => optE (G d ρ) fun ρ1 => (gt ρ1).bindN fun b ρ2 => if b = true
    then (ge ρ2).bindN fun r ρ3 => optE (frz1 ρ3 r) fun x => if chkW w ρ0 (wipeT x.2 vs) then compL w ρ0 vs G gt ge ds (acc ++ [x.1]) (wipeT x.2 vs) else .stuck
    else if chkW w ρ0 (wipeT ρ2 vs) then compL w ρ0 vs G gt ge ds acc (wipeT ρ2 vs) else .stuck
@[simp] def wOkC (w : List Nat) (vs : List Nat) : Bool := w.all fun j => !vs.contains j
noncomputable def eComp (vs : List Nat) (gi : List T → ER Src) (G : D → List T → Option (List T)) (gt : List T → ER Bool) (ge : List T → ER R) : List T → ER R := fun ρ =>
  (gi ρ).bind fun s ρ1 => if s.items.length ≤ 100000 ∧ wOkC s.w vs = true then (compL s.w (wipeT ρ1 vs) vs G gt ge s.items [] (wipeT ρ1 vs)).bind fun acc ρ2 => .ok (.tv (.ol acc)) ρ2 else .stuck
abbrev WF : WX := fun _ _ _ _ => False
def kpC (vs : List Nat) : Kp := fun i => !vs.contains i
theorem wipe_at (σ : St) : ∀ (vs : List Nat) (i : Nat), (wipe σ vs)[i]? = if i ∈ vs ∧ i < σ.length then some none else σ[i]?
  | [], i => by simp [wipe]
  | v :: vs, i => by
    unfold wipe
    by_cases h : v = i
    · subst h
      by_cases hl : v < σ.length
      · rw [List.getElem?_set_self (by rw [wipe_length]; exact hl), if_pos ⟨by simp, hl⟩]
      · rw [List.getElem?_eq_none (by rw [List.length_set, wipe_length]; omega), if_neg fun z => hl z.2, List.getElem?_eq_none (by omega)]
    · rw [List.getElem?_set_ne h, wipe_at σ vs i]
      have : (i ∈ v :: vs) ↔ i ∈ vs := by
        rw [List.mem_cons]
        exact ⟨fun z => z.elim (fun z => absurd z.symm h) id, .inr⟩
      simp only [this]
theorem wipe_keep {vs : List Nat} {a b : St} (k : KeepS (kpC vs) a b) : wipe b vs = wipe a vs := by
  apply List.ext_getElem?
  intro i
  rw [wipe_at, wipe_at, k.len]
  by_cases h : i ∈ vs
  · by_cases hl : i < a.length
    · rw [if_pos ⟨h, hl⟩, if_pos ⟨h, hl⟩]
    · rw [if_neg fun z => hl z.2, if_neg fun z => hl z.2, List.getElem?_eq_none (by rw [k.len]; omega), List.getElem?_eq_none (by omega)]
  · rw [if_neg fun z => h z.1, if_neg fun z => h z.1]
    exact k.at_ i (by unfold kpC; simp [h])
theorem wipe_wipe {vs : List Nat} {a : St} : wipe (wipe a vs) vs = wipe a vs := by
  apply List.ext_getElem?
  intro i
  rw [wipe_at, wipe_at, wipe_length]
  by_cases h : i ∈ vs ∧ i < a.length
  · rw [if_pos h, if_pos h]
  · rw [if_neg h, if_neg h]
theorem wipeT_length (ρ : List T) : ∀ vs : List Nat, (wipeT ρ vs).length = ρ.length
  | [] => rfl
  | v :: vs => by unfold wipeT; rw [List.length_set, wipeT_length ρ vs]
theorem wipeT_out (ρ : List T) : ∀ (vs : List Nat) (i : Nat), i ∉ vs → (wipeT ρ vs)[i]? = ρ[i]?
  | [], i, _ => rfl
  | v :: vs, i, h => by
    unfold wipeT
    rw [List.getElem?_set_ne (fun z => h (by simp [z])), wipeT_out ρ vs i (fun z => h (by simp [z]))]
theorem wipeT_in (ρ : List T) : ∀ (vs : List Nat) (i : Nat) (t : T), i ∈ vs → (wipeT ρ vs)[i]? = some t → t = .dead
  | v :: vs, i, t, h, e => by
    unfold wipeT at e
    by_cases hv : v = i
    · subst hv
      by_cases hl : v < (wipeT ρ vs).length
      · rw [List.getElem?_set_self hl] at e; cases e; rfl
      · rw [List.getElem?_eq_none (by rw [List.length_set]; omega)] at e; cases e
    · rw [List.getElem?_set_ne hv] at e
      rcases List.mem_cons.mp h with z | z
      · exact absurd z.symm hv
      · exact wipeT_in ρ vs i t z e
theorem OKV.wipe {ρ : List T} (o : OK K F H ρ σ fp) : ∀ vs : List Nat, ∃ fp', (∀ a ∈ fp', a ∈ fp) ∧ OK K F H (wipeT ρ vs) (L2.wipe σ vs) fp'
  | [] => ⟨fp, fun _ h => h, o⟩
  | v :: vs => by
    obtain ⟨fp', h1, o'⟩ := OKV.wipe o vs
    obtain ⟨f, s, p⟩ := o'.sl
    obtain ⟨f1, f2, s2, p2⟩ := s.kill v
    have pp : fp'.Perm (f1 ++ f2) := p.symm.trans p2
    have sub : ∀ a ∈ f2, a ∈ fp' := fun a ha => pp.mem_iff.mpr (List.mem_append_right _ ha)
    have nd : fp'.Nodup := by have := o'.nd; rwa [List.append_nil] at this
    rw [pp.nodup_iff] at nd
    refine ⟨f2, fun a ha => h1 a (sub a ha), o'.sub, ⟨f2, ?_, .refl _⟩, ⟨[], .nil, .refl _⟩, by rw [List.append_nil]; exact (List.nodup_append.mp nd).2.1, fun a ha => o'.out a (by rw [List.append_nil] at ha ⊢; exact sub a ha)⟩
    show Sl K F H ((wipeT ρ vs).set v .dead) ((L2.wipe σ vs).set v none) f2
    by_cases hl : v < (wipeT ρ vs).length
    · exact Sl.deadσ none s2 (List.getElem?_set_self hl)
    · rw [List.set_eq_of_length_le (l := L2.wipe σ vs) (by rw [← o'.len]; omega)]
      exact s2
/-- back from the block -/
theorem OKV.unwipe {ρ : List T} {vs : List Nat} (o : OK K F H (wipeT ρ vs) (L2.wipe σ vs) fp) : OK K F H (wipeT ρ vs) σ fp := by
  obtain ⟨f, s, p⟩ := o.sl
  refine ⟨o.sub, ⟨f, s.agree (wipe_length σ vs) fun i t e n => ?_, p⟩, o.rp.elim fun f x => ⟨f, by cases x.1; exact .nil, x.2⟩, o.nd, o.out⟩
  by_cases h : i ∈ vs
  · exact absurd (wipeT_in ρ vs i t h e) n
  · rw [wipe_at, if_neg fun z => h z.1]
/-- an unshared list on the side -/
structure Aside (K : KF) (F H : Hp) (fp : List Addr) (A : Addr) (acc : List D) (xs : List V) : Prop where
  at_ : H A = some (.lst xs)
  rep : Reps K F acc xs
  out : F A = none
  off : A ∉ fp
theorem Aside.ext {A : Addr} {acc : List D} {xs : List V} {F' H' : Hp} {fp' ft' : List Addr} (a : Aside K F H fp A acc xs) (e : Ext F H fp F' H' (fp' ++ ft')) : Aside K F' H' (fp' ++ ft') A acc xs := by
  refine ⟨e.keep A _ a.at_ a.off, a.rep.mono e.sub, ?_, fun m => ?_⟩
  · cases q : F' A with
    | none => rfl
    | some u =>
      rcases e.dom A (by rw [q]; exact fun z => nomatch z) with z | z | z
      · exact absurd a.out z
      · exact absurd z a.off
      · rw [a.at_] at z; cases z
  · rcases e.fps A m with z | z
    · exact a.off z
    · rw [a.at_] at z; cases z
theorem Aside.sub {A : Addr} {acc : List D} {xs : List V} {fp' : List Addr} (a : Aside K F H fp A acc xs) (h : ∀ b ∈ fp', b ∈ fp) : Aside K F H fp' A acc xs := ⟨a.at_, a.rep, a.out, fun m => a.off (h A m)⟩
theorem Aside.upd {A : Addr} {acc : List D} {xs : List V} {ρ : List T} {u : HO} (a : Aside K F H fp A acc xs) (o : OK K F H ρ σ fp) : OK K F (upd H A u) ρ σ fp := by
  obtain ⟨f, s, p⟩ := o.sl
  refine ⟨fun b w e => ?_, ⟨f, s.frame (Same.refl _) fun b hb w e => ?_, p⟩, ⟨[], .nil, .refl _⟩, o.nd, o.out⟩
  · have hne : b ≠ A := by intro z; subst z; rw [a.out] at e; cases e
    rw [upd_ne hne]; exact o.sub b w e
  · have hne : b ≠ A := by intro z; subst z; exact a.off (p.mem_iff.mp hb)
    rw [upd_ne hne]; exact e
theorem Ext.side {A : Addr} {F' H' : Hp} {fp' : List Addr} {u : HO} (e : Ext F H fp F' H' (fp' ++ [A])) (n : A ∈ fp ∨ H A = none) : Ext F H fp F' (L2.upd H' A u) (fp' ++ [A]) := by
  refine ⟨e.sub, e.dom, e.fps, fun b w hw hb => ?_⟩
  have hne : b ≠ A := by
    intro z
    subst z
    rcases n with n | n
    · exact hb n
    · rw [n] at hw; cases hw
  rw [upd_ne hne]
  exact e.keep b w hw hb
theorem line_ok {n : Nat} (h : n ≤ 100000) : n < sizeLine := Nat.lt_of_le_of_lt h (by decide)
theorem e_comp {wi : TI} {g : TG} {tt : TT} {te : TE} {vs : List Nat} {gi : List T → ER Src} {G : D → List T → Option (List T)} {gt : List T → ER Bool} {ge : List T → ER R}
    (hi : SndI K cl W wi gi) (hg : SndG K (kpC vs) g G) (ht : SndT K cl WF tt gt) (he : SndE K cl WF te ge) : SndE K cl W (tLc wi g tt te vs) (eComp vs gi G gt ge) := by
  intro F H ρ σ fp Q o p
  refine hi _ _ _ _ _ _ o ?_
  unfold eComp at p
  cases q : gi ρ with
  | stuck => rw [q] at p; exact p
  | exc c ρ1 => rw [q] at p; exact p
  | ok s ρ1 =>
    rw [q] at p
    intro F1 H1 fp1 J e1 o1 it A hA
    obtain ⟨items, w⟩ := s
    have p1 : PostE K cl W σ F H fp (if items.length ≤ 100000 ∧ wOkC w vs = true then (compL w (wipeT ρ1 vs) vs G gt ge items [] (wipeT ρ1 vs)).bind fun acc ρ2 => .ok (.tv (.ol acc)) ρ2 else .stuck) Q := p
    clear p
    by_cases c : items.length ≤ 100000 ∧ wOkC w vs = true
    · rw [if_pos c] at p1
      obtain ⟨cl1, cw⟩ := c
      have p2 := PostE.mono e1 p1
      clear p1
      obtain ⟨fp2, sub2, o2⟩ := o1.wipe vs
      generalize hρ0 : wipeT ρ1 vs = ρ0 at p2 o2
      have nF1 : F1 A = none := by
        cases z : F1 A with
        | none => rfl
        | some u => rw [o1.sub A u z] at hA; cases hA
      have nA : A ∉ fp2 := fun m => o2.domF A m hA
      -- the watched slot
      have nin : ∀ j ∈ w, j ∉ vs := fun j hj z => by
        have := List.all_eq_true.mp cw j hj
        simp [z] at this
      have cwS : ∀ σ', σ' = L2.wipe σ vs → chkS w σ σ' := fun σ' e j hj => by
        subst e
        rw [wipe_at, if_neg fun z => nin j hj z.1]
      have cwW : ∀ ρ', chkW w ρ0 ρ' → chkW w ρ1 ρ' := fun ρ' e j hj => by
        rw [e j hj, ← hρ0, wipeT_out ρ1 vs j (nin j hj)]
      refine ⟨fun i m H' => m = items.length - i ∧ i ≤ items.length ∧ ∃ F' ρ' fp' acc xs, Ext F1 H1 fp1 F' H' (fp' ++ [A]) ∧ Aside K F' H' fp' A acc xs ∧ OK K F' H' (wipeT ρ' vs) (L2.wipe σ vs) fp' ∧ chkW w ρ0 (wipeT ρ' vs) ∧ acc.length ≤ i ∧
        PostE K cl W σ F1 H1 fp1 ((compL w ρ0 vs G gt ge (items.drop i) acc (wipeT ρ' vs)).bind fun acc ρ2 => .ok (.tv (.ol acc)) ρ2) Q,
        ⟨items.length, by simp, Nat.zero_le _, F1, ρ1, fp2, [], [], ?_, ⟨upd_same, .nil, nF1, nA⟩, ?_, by rw [hρ0]; exact chkW_refl, Nat.le_refl _, by rw [List.drop_zero, hρ0]; exact p2⟩, ?_⟩
      · have e := (Ext.refl (F := F1) (H := H1) (fp := fp1)).sub' sub2
        exact e.trans (Ext.fresh hA)
      · have a0 : Aside K F1 (L2.upd H1 A (.lst [])) fp2 A [] [] := ⟨upd_same, .nil, nF1, nA⟩
        rw [hρ0]
        obtain ⟨f, s, pm⟩ := o2.sl
        exact ⟨o2.sub.trans (upd_same_of hA), ⟨f, s.frame (Same.refl _) fun b _ w e => upd_same_of hA b w e, pm⟩, ⟨[], .nil, .refl _⟩, o2.nd, o2.out⟩
      · rintro i m H' ⟨rfl, hle, F', ρ', fp', acc, xs, e3, a3, o3, ck, hacc, p3⟩
        by_cases hlt : i < items.length
        · have hd : items[i]? = some items[i] := List.getElem?_eq_getElem hlt
          obtain ⟨go, yl⟩ := it.go i items[i] F' H' _ _ fp' e3.sub o3 (cwW _ ck) (cwS _ rfl) hd
          refine .inr ⟨go, _, fun H'' w'' => ⟨items.length - (i + 1), by omega, w''⟩, fun x H2 y => ?_⟩
          obtain ⟨F2, e4, o4, r4⟩ := yl x H2 y
          have e4' : Ext F' H' fp' F2 H2 (fp' ++ []) := by rw [List.append_nil]; exact e4
          have a4 := a3.ext e4'
          rw [List.append_nil] at a4
          have x4 := e3.carry e4'
          rw [List.append_nil] at x4
          rw [List.drop_eq_getElem_cons hlt] at p3
          have p4 : PostE K cl W σ F1 H1 fp1 ((optE (G items[i] (wipeT ρ' vs)) fun ρ1 => (gt ρ1).bindN fun b ρ2 => if b = true
            then (ge ρ2).bindN fun r ρ3 => optE (frz1 ρ3 r) fun x => if chkW w ρ0 (wipeT x.2 vs) then compL w ρ0 vs G gt ge (items.drop (i + 1)) (acc ++ [x.1]) (wipeT x.2 vs) else .stuck
            else if chkW w ρ0 (wipeT ρ2 vs) then compL w ρ0 vs G gt ge (items.drop (i + 1)) acc (wipeT ρ2 vs) else .stuck).bind fun acc ρ2 => .ok (.tv (.ol acc)) ρ2) Q := p3
          clear p3
          cases qg : G items[i] (wipeT ρ' vs) with
          | none => rw [qg] at p4; exact p4.elim
          | some ρ3 =>
            rw [qg] at p4
            refine hg F2 H2 _ _ fp' x items[i] ρ3 _ o4 r4 qg fun F5 H5 σ5 fp5 e5 o5 k5 => ?_
            have hw : L2.wipe σ5 vs = L2.wipe σ vs := (wipe_keep k5).trans wipe_wipe
            refine ⟨hw, ?_⟩
            have e5' : Ext F2 H2 fp' F5 H5 (fp5 ++ []) := by rw [List.append_nil]; exact e5
            have a5 := a4.ext e5'
            rw [List.append_nil] at a5
            have x5 := x4.carry e5'
            rw [List.append_nil] at x5
            refine ht _ _ _ _ _ _ o5 ?_
            have p5 : PostE K cl W σ F1 H1 fp1 (((gt ρ3).bindN fun b ρ2 => if b = true
              then (ge ρ2).bindN fun r ρ3 => optE (frz1 ρ3 r) fun x => if chkW w ρ0 (wipeT x.2 vs) then compL w ρ0 vs G gt ge (items.drop (i + 1)) (acc ++ [x.1]) (wipeT x.2 vs) else .stuck
              else if chkW w ρ0 (wipeT ρ2 vs) then compL w ρ0 vs G gt ge (items.drop (i + 1)) acc (wipeT ρ2 vs) else .stuck).bind fun acc ρ2 => .ok (.tv (.ol acc)) ρ2) Q := p4
            clear p4
            cases qt : gt ρ3 with
            | stuck => rw [qt] at p5; exact p5
            | exc c ρ4 => rw [qt] at p5; exact p5.elim
            | ok b ρ4 =>
              rw [qt] at p5
              intro F6 H6 fp6 e6 o6
              have e6' : Ext F5 H5 fp5 F6 H6 (fp6 ++ []) := by rw [List.append_nil]; exact e6
              have a6 := a5.ext e6'
              rw [List.append_nil] at a6
              have x6 := x5.carry e6'
              rw [List.append_nil] at x6
              have p6 : PostE K cl W σ F1 H1 fp1 ((if b = true
                then (ge ρ4).bindN fun r ρ3 => optE (frz1 ρ3 r) fun x => if chkW w ρ0 (wipeT x.2 vs) then compL w ρ0 vs G gt ge (items.drop (i + 1)) (acc ++ [x.1]) (wipeT x.2 vs) else .stuck
                else if chkW w ρ0 (wipeT ρ4 vs) then compL w ρ0 vs G gt ge (items.drop (i + 1)) acc (wipeT ρ4 vs) else .stuck).bind fun acc ρ2 => .ok (.tv (.ol acc)) ρ2) Q := p5
              clear p5
              cases b with
              | false =>
                rw [if_neg Bool.false_ne_true] at p6 ⊢
                by_cases cc : chkW w ρ0 (wipeT ρ4 vs)
                · rw [if_pos cc] at p6
                  obtain ⟨fp7, sub7, o7⟩ := o6.wipe vs
                  rw [hw] at o7
                  exact ⟨rfl, hlt, F6, ρ4, fp7, acc, xs, x6.sub' fun b hb => (List.mem_append.mp hb).elim (fun h => List.mem_append_left _ (sub7 b h)) (List.mem_append_right _), a6.sub sub7, o7, cc, Nat.le_succ_of_le hacc, p6⟩
                · rw [if_neg cc] at p6; exact p6.elim
              | true =>
                rw [if_pos rfl] at p6 ⊢
                refine he _ _ _ _ _ _ o6 ?_
                cases qe : ge ρ4 with
                | stuck => rw [qe] at p6; exact p6
                | exc c ρ5 => rw [qe] at p6; exact p6.elim
                | ok r ρ5 =>
                  rw [qe] at p6
                  intro F7 H7 y7 fp7 ft7 e7 o7
                  have a7 := a6.ext e7
                  have x7 := x6.carry e7
                  have p7 : PostE K cl W σ F1 H1 fp1 ((optE (frz1 ρ5 r) fun x => if chkW w ρ0 (wipeT x.2 vs) then compL w ρ0 vs G gt ge (items.drop (i + 1)) (acc ++ [x.1]) (wipeT x.2 vs) else .stuck).bind fun acc ρ2 => .ok (.tv (.ol acc)) ρ2) Q := p6
                  clear p6
                  cases qf : frz1 ρ5 r with
                  | none => rw [qf] at p7; exact p7.elim
                  | some dr =>
                    obtain ⟨d', ρ6⟩ := dr
                    rw [qf] at p7
                    have p8 : PostE K cl W σ F1 H1 fp1 ((if chkW w ρ0 (wipeT ρ6 vs) then compL w ρ0 vs G gt ge (items.drop (i + 1)) (acc ++ [d']) (wipeT ρ6 vs) else .stuck).bind fun acc ρ2 => .ok (.tv (.ol acc)) ρ2) Q := p7
                    clear p7
                    by_cases cc : chkW w ρ0 (wipeT ρ6 vs)
                    · rw [if_pos cc] at p8
                      obtain ⟨F8, fp8, ft8, e8, o8, r8⟩ := o7.frz1 qf
                      have a8 := a7.ext e8
                      have x8 : Ext F1 H1 fp1 F8 H7 (fp8 ++ [A]) := by
                        have z : Ext F7 H7 (fp7 ++ ft7) F8 H7 (fp8 ++ []) := by rw [List.append_nil]; exact e8.drop
                        have x7' : Ext F1 H1 fp1 F7 H7 ((fp7 ++ ft7) ++ [A]) := x7.sub' fun b hb => by
                          simp only [List.mem_append, List.mem_singleton] at hb ⊢
                          rcases hb with (h | h) | h
                          · exact .inl h
                          · exact .inr (.inr h)
                          · exact .inr (.inl h)
                        have := x7'.carry z
                        rwa [List.append_nil] at this
                      have lx : xs.length ≤ items.length := by rw [← a8.rep.length]; omega
                      refine ⟨xs, a8.at_, line_ok (Nat.le_trans lx cl1), ?_⟩
                      have a8' : Aside K F8 H7 fp8 A acc xs := a8.sub fun b hb => List.mem_append_left _ hb
                      have o9 := a8'.upd (u := .lst (xs ++ [y7])) o8.ok
                      obtain ⟨fp9, sub9, o10⟩ := o9.wipe vs
                      rw [hw] at o10
                      refine ⟨rfl, hlt, F8, ρ6, fp9, acc ++ [d'], xs ++ [y7], ?_, ⟨upd_same, a8'.rep.append (.cons r8 .nil), a8'.out, fun m => a8'.off (sub9 _ m)⟩, o10, cc, by rw [List.length_append]; exact Nat.succ_le_succ hacc, p8⟩
                      have x9 := Ext.side (u := .lst (xs ++ [y7])) x8 (.inr hA)
                      exact x9.sub' fun b hb => (List.mem_append.mp hb).elim (fun h => List.mem_append_left _ (sub9 b h)) (List.mem_append_right _)
                    · rw [if_neg cc] at p8; exact p8.elim
        · have e : i = items.length := by omega
          subst e
          rw [List.drop_length] at p3
          refine .inl ⟨it.stop F' H' _ _ fp' e3.sub o3 (cwW _ ck) (cwS _ rfl), ?_⟩
          have ou := o3.unwipe
          refine p3 F' H' (.ref A) fp' [A] e3 (ou.one (.tv (.ol a3.at_ a3.rep)) (fun b hb => ?_) (List.nodup_cons.mpr ⟨by simp, .nil⟩))
          have : b = A := by simpa using hb
          subst this
          exact ⟨a3.off, a3.out⟩
    · rw [if_neg c] at p1; exact p1.elim
end
end DL

set_option Elab.async false
set_option linter.all false
set_option maxRecDepth 100000
namespace DL
open PySem PySem.Spec L2

/-! ### functions -/
inductive FR where
  | ok (t : T) (ts : List T) | exc (c : Str) (ts : List T) | stuck
abbrev Fn := List T → FR
section
variable (K : KF) (cl : Str → Addr)
def PostF (F H : Hp) (fp : List Addr) (vs : List V) (x : FR) (Q : VK) (E : XK) : Prop :=
  match x with
  | .ok t ts => ∀ F' H' v fp' ft', Ext F H fp F' H' (fp' ++ ft') → OKV K F' H' ts (vs.map some) [.tv t] [v] fp' ft' → Q v H'
  | .exc c ts => ∀ F' H' fp', Ext F H fp F' H' fp' → OK K F' H' ts (vs.map some) fp' → E (.ref (cl c)) none H'
  | .stuck => False
/-- the promise of a def of n parameters that does what m does -/
def spD (n : Nat) (m : Fn) : Sp := fun vs H Q E => ∃ F ts fp, ts.length = n ∧ OK K F H ts (vs.map some) fp ∧ PostF K cl F H fp vs (m ts) Q E
end
/-- what becomes of the arguments: those whose slots are never stored to -/
@[simp] def finL (kp : Kp) : Nat → Nat → List T → List T
  | _, 0, _ => []
  | i, n + 1, [] => .dead :: finL kp (i + 1) n []
  | i, n + 1, t :: ρ => (if kp i = true then t else .dead) :: finL kp (i + 1) n ρ
def runF (N n : Nat) (kp : Kp) (g : List T → SR) : Fn := fun ts =>
  match g (ts ++ List.replicate (N - n) .dead) with
  | .rt t ρ => .ok t (finL kp 0 n ρ)
  | .nx ρ => .ok (.fz .non) (finL kp 0 n ρ)
  | .exc c ρ => .exc c (finL kp 0 n ρ)
  | _ => .stuck
section
variable {K : KF} {cl : Str → Addr} {W : WX} {F H F1 H1 : Hp} {fp fp1 ft : List Addr} {σ σ1 : St} {kp : Kp}
theorem finL_ok : ∀ {n i : Nat} {ρ : List T} {σ : St} {f : List Addr} {os : St}, Sl K F H ρ σ f → os.length = n → (∀ j, j < n → kp (i + j) = true → σ[j]? = os[j]?) → n ≤ ρ.length →
    ∃ f', Sl K F H (finL kp i n ρ) os f' ∧ f'.Sublist f
  | 0, i, ρ, σ, f, os, s, hl, hk, hn => by
    cases os with
    | nil => exact ⟨[], .nil, List.nil_sublist _⟩
    | cons _ _ => cases hl
  | n + 1, i, ρ, σ, f, os, s, hl, hk, hn => by
    cases os with
    | nil => cases hl
    | cons o os =>
      have hk' : ∀ {σ' : St} {o' : Option V}, σ = o' :: σ' → ∀ j, j < n → kp (i + 1 + j) = true → σ'[j]? = os[j]? := fun {σ' o'} e j hn hj => by
        have := hk (j + 1) (by omega) (by rw [show i + (j + 1) = i + 1 + j by omega]; exact hj)
        subst e
        simpa using this
      cases s with
      | nil => cases hn
      | dead t =>
        obtain ⟨f', h1, h2⟩ := finL_ok (n := n) (i := i + 1) t (by simpa using hl) (hk' rfl) (by simpa using hn)
        refine ⟨f', ?_, h2⟩
        unfold finL
        split <;> exact .dead h1
      | cons r t =>
        rename_i t0 v ρ' σ' f1 f2
        obtain ⟨f', h1, h2⟩ := finL_ok (n := n) (i := i + 1) t (by simpa using hl) (hk' rfl) (by simpa using hn)
        unfold finL
        by_cases c : kp i = true
        · rw [if_pos c]
          have e := hk 0 (by omega) (by simpa using c)
          have e : some v = o := by simpa using e
          subst e
          exact ⟨f1 ++ f', .cons r h1, List.Sublist.append (List.Sublist.refl _) h2⟩
        · rw [if_neg c]
          exact ⟨f', .dead h1, h2.trans (List.sublist_append_right _ _)⟩
theorem finL_len : ∀ (n i : Nat) (ρ : List T), (finL kp i n ρ).length = n
  | 0, _, _ => rfl
  | n + 1, i, [] => by unfold finL; rw [List.length_cons, finL_len n]
  | n + 1, i, t :: ρ => by unfold finL; rw [List.length_cons, finL_len n]
end

section
variable {P : Program} {w : World} {K : KF} {mg : Str → Option Value} {base : Heap} {cl : Str → Addr}
/-- the wish of a def about what leaves it -/
abbrev WE1 (E : XK) : WX := fun cls d _ H => E cls d H
theorem start_ok {F H : Hp} {ts : List T} {vs : List V} {fp : List Addr} {N : List Str} (o : OK K F H ts (vs.map some) fp) : OK K F H (ts ++ List.replicate (N.length - vs.length) .dead) (L2.start N vs) fp := by
  obtain ⟨f, s, p⟩ := o.sl
  refine ⟨o.sub, ⟨f ++ [], Sl.append s (Sl.deads _), by rw [List.append_nil]; exact p⟩, o.rp.elim fun f x => ⟨f, by cases x.1; exact .nil, x.2⟩, o.nd, o.out⟩
theorem RepRs.any {F H : Hp} {σ σ' : St} {t : T} {v : V} {f : List Addr} (x : RepRs K F H σ [.tv t] [v] f) : RepRs K F H σ' [.tv t] [v] f := by
  cases x with
  | cons x y =>
    cases y
    cases x with
    | tv x => exact .cons (.tv x) .nil
theorem fn_okD {x qual : Str} {st : Stmt} {f : Addr} {fd : FuncData} {N ps : List Str} {k : Nat} (Fu : Fun K x qual st f fd) (S : FnScope N ps (defScope st)) (kp : Kp) (g : List T → SR)
    (hb : ∀ (cdv : Value) (A : Around) (outer : List Env) (s : Shared) (H : Hp) (E : XK), Room k (A.deeper (PyProof.Rows.envOfC qual (defScope st) s.heap.objs.size f cdv)) →
      ∃ t, PSs (cxOf (L2.CX P w) P w K mg base N qual (defScope st) f cdv A outer s H E) (defBody st) t ∧ SndS K cl (WE1 E) kp t g) :
    FnOk P w K mg base (L2.CX P w) (k + 1) f fd ps (spD K cl ps.length (runF N.length ps.length kp g)) := by
  have hlen : ∀ (vs : List V) (H : Hp) (Q : VK) (E : XK), spD K cl ps.length (runF N.length ps.length kp g) vs H Q E → vs.length = ps.length := by
    rintro vs H Q E ⟨F, ts, fp, hn, o, p⟩
    have := o.len
    rw [List.length_map] at this
    omega
  refine Fu.okX S hlen fun cdv A outer s H vs Q E hr hsp => ?_
  have hv := hlen vs H Q E hsp
  obtain ⟨F, ts, fp, hn, o, p⟩ := hsp
  obtain ⟨t, h1, h2⟩ := hb cdv A outer s H E hr
  refine ⟨t, h1, ?_⟩
  have o1 := start_ok (N := N) o
  have hpl : ps.length ≤ N.length := by have := congrArg List.length S.pre; rw [List.length_take] at this; omega
  -- the arguments' end
  have finS : ∀ {F' H' : Hp} {ρ' : List T} {σ' : St} {f0 : List Addr}, Sl K F' H' ρ' σ' f0 → KeepS kp (L2.start N vs) σ' →
      ∃ f2, Sl K F' H' (finL kp 0 ps.length ρ') (vs.map some) f2 ∧ f2.Sublist f0 := fun {F' H' ρ' σ' f0} s0 k' => by
    have hl' : ρ'.length = N.length := by
      rw [s0.length, k'.len]
      unfold L2.start
      rw [List.length_append, List.length_map, List.length_replicate]
      omega
    exact finL_ok (kp := kp) (n := ps.length) (i := 0) (os := vs.map some) s0 (by rw [List.length_map]; exact hv) (fun j hjl hj => by
      rw [k'.at_ j (by simpa using hj)]
      unfold L2.start
      rw [List.getElem?_append_left (by rw [List.length_map]; omega)]) (by omega)
  have memS : ∀ {f0 f2 fp' : List Addr}, f2.Sublist f0 → f0.Perm fp' → ∀ a ∈ f2, a ∈ fp' := fun h1 h2 a ha => h2.mem_iff.mp (h1.subset ha)
  have valE : ∀ {t' : T} {ρ' : List T}, PostF K cl F H fp vs (.ok t' (finL kp 0 ps.length ρ')) Q E → ∀ F' H' σ' v fp' ft', Ext F H fp F' H' (fp' ++ ft') → OKV K F' H' ρ' σ' [.tv t'] [v] fp' ft' → KeepS kp (L2.start N vs) σ' → Q v H' :=
    fun {t' ρ'} p F' H' σ' v fp' ft' e' o' k' => by
      obtain ⟨f0, s0, p0⟩ := o'.sl
      obtain ⟨f2, s2, sb⟩ := finS s0 k'
      have mm := memS sb p0
      refine p F' H' v f2 ft' (e'.sub' fun a ha => (List.mem_append.mp ha).elim (fun h => List.mem_append_left _ (mm a h)) (List.mem_append_right _)) ⟨o'.sub, ⟨f2, s2, .refl _⟩, o'.rp.elim fun g hg => ⟨g, RepRs.any hg.1, hg.2⟩, ?_, fun a ha => o'.out a ((List.mem_append.mp ha).elim (fun h => List.mem_append_left _ (mm a h)) (List.mem_append_right _))⟩
      have nd := o'.nd
      have nd0 : (f0 ++ ft').Nodup := ((List.Perm.append_right ft' p0).nodup_iff).mpr nd
      exact nd0.sublist (List.Sublist.append sb (List.Sublist.refl _))
  have p' : PostF K cl F H fp vs (match g (ts ++ List.replicate (N.length - ps.length) .dead) with
    | .rt t ρ => .ok t (finL kp 0 ps.length ρ)
    | .nx ρ => .ok (.fz .non) (finL kp 0 ps.length ρ)
    | .exc c ρ => .exc c (finL kp 0 ps.length ρ)
    | _ => .stuck) Q E := p
  rw [hv] at o1
  refine h2 _ _ _ _ _ _ o1 ?_
  cases q : g (ts ++ List.replicate (N.length - ps.length) .dead) with
  | stuck => rw [q] at p'; exact p'
  | bk ρ' => rw [q] at p'; exact p'.elim
  | ct ρ' => rw [q] at p'; exact p'.elim
  | rt t' ρ' =>
    rw [q] at p'
    exact fun F' H' σ' v fp' ft' e' o' k' => valE p' F' H' σ' v fp' ft' e' o' k'
  | nx ρ' =>
    rw [q] at p'
    exact fun F' H' σ' fp' e' o' k' => valE p' F' H' σ' .non fp' [] (by rw [List.append_nil]; exact e') (o'.one0 (.tv (.fz .non))) k'
  | exc c ρ' =>
    rw [q] at p'
    intro F' H' σ' fp' e' o' k'
    obtain ⟨f0, s0, p0⟩ := o'.sl
    obtain ⟨f2, s2, sb⟩ := finS s0 k'
    have mm := memS sb p0
    have nd := o'.nd
    rw [List.append_nil] at nd
    exact p' F' H' f2 (e'.sub' mm) ⟨o'.sub, ⟨f2, s2, .refl _⟩, ⟨[], .nil, .refl _⟩, by rw [List.append_nil]; exact (p0.nodup_iff.mpr nd).sublist sb, fun a ha => o'.out a (by rw [List.append_nil] at ha ⊢; exact mm a ha)⟩
end

/-! ### calls of defs -/
def takeA (ρ : List T) : List R → Option (List T × List T)
  | [] => some ([], ρ)
  | .tv t :: rs => (takeA ρ rs).bind fun x => some (t :: x.1, x.2)
  | .bw i :: rs => match ρ[i]? with
    | some .dead => none
    | some t => (takeA (ρ.set i .dead) rs).bind fun x => some (t :: x.1, x.2)
    | none => none
def putA (ρ : List T) : List R → List T → List T
  | .tv _ :: rs, _ :: ts => putA ρ rs ts
  | .bw i :: rs, t :: ts => (putA ρ rs ts).set i t
  | _, _ => ρ
def callF (n : Nat) (m : Fn) (ρ : List T) (rs : List R) : ER R :=
  optE (takeA ρ rs) fun x => if x.1.length = n then (match m x.1 with
    | .ok t ts => .ok (.tv t) (putA x.2 rs ts)
    | .exc c ts => .exc c (putA x.2 rs ts)
    | .stuck => .stuck) else .stuck
section
variable {K : KF} {cl : Str → Addr} {W : WX} {F H F1 H1 : Hp} {fp fp1 ft : List Addr} {σ σ1 : St} {kp : Kp}
theorem takeA_ok : ∀ {rs : List R} {vs : List V} {ρ ρ' : List T} {f g : List Addr} {ts : List T}, Sl K F H ρ σ f → RepRs K F H σ rs vs g → takeA ρ rs = some (ts, ρ') →
    ∃ fA fB, Sl K F H ts (vs.map some) fA ∧ Sl K F H ρ' σ fB ∧ (f ++ g).Perm (fA ++ fB)
  | [], _, ρ, ρ', f, g, ts, s, r, e => by
    cases r; cases e
    exact ⟨[], f, .nil, s, by rw [List.append_nil, List.nil_append]⟩
  | .tv t :: rs, _, ρ, ρ', f, g, ts, s, r, e => by
    cases r with
    | cons x r =>
      rename_i v vs g1 g2
      cases x with
      | tv x =>
        have e : (takeA ρ rs).bind (fun x => some (t :: x.1, x.2)) = some (ts, ρ') := e
        cases q : takeA ρ rs with
        | none => rw [q] at e; cases e
        | some y =>
          obtain ⟨ts1, ρ1⟩ := y
          rw [q] at e; cases e
          obtain ⟨fA, fB, h1, h2, h3⟩ := takeA_ok s r q
          refine ⟨g1 ++ fA, fB, .cons x h1, h2, ?_⟩
          have p1 : (f ++ (g1 ++ g2)).Perm (g1 ++ (f ++ g2)) := by
            rw [← List.append_assoc, ← List.append_assoc]
            exact List.Perm.append_right _ List.perm_append_comm
          rw [List.append_assoc]
          exact p1.trans (List.Perm.append_left g1 h3)
  | .bw i :: rs, _, ρ, ρ', f, g, ts, s, r, e => by
    cases r with
    | cons x r =>
      rename_i v vs g1 g2
      cases x with
      | bw hx =>
        unfold takeA at e
        cases q0 : ρ[i]? with
        | none => simp only [q0] at e; cases e
        | some t =>
          by_cases n : t = .dead
          · subst n; simp only [q0] at e; cases e
          · have e2 : (takeA (ρ.set i .dead) rs).bind (fun x => some (t :: x.1, x.2)) = some (ts, ρ') := by
              simp only [q0] at e
              cases t with
              | dead => exact absurd rfl n
              | _ => exact e
            cases q : takeA (ρ.set i .dead) rs with
            | none => rw [q] at e2; cases e2
            | some y =>
              obtain ⟨ts1, ρ1⟩ := y
              rw [q] at e2; cases e2
              obtain ⟨v', f1, f2, h1, h2, h3, h4⟩ := s.out q0 n
              rw [hx] at h1; cases h1
              obtain ⟨fA, fB, k1, k2, k3⟩ := takeA_ok h3 r q
              refine ⟨f1 ++ fA, fB, .cons h2 k1, k2, ?_⟩
              rw [List.nil_append, List.append_assoc]
              refine (List.Perm.append_right g2 h4).trans ?_
              rw [List.append_assoc]
              exact List.Perm.append_left f1 k3
theorem putA_ok : ∀ {rs : List R} {vs : List V} {ρ : List T} {f g h : List Addr} {ts : List T} {F0 H0 : Hp}, Sl K F H ρ σ f → RepRs K F0 H0 σ rs vs h → Sl K F H ts (vs.map some) g →
    ∃ f' j, Sl K F H (putA ρ rs ts) σ f' ∧ (g ++ f).Perm (f' ++ j)
  | [], _, ρ, f, g, h, ts, _, _, s, r, t => by
    cases r
    cases t
    exact ⟨f, [], s, by rw [List.append_nil, List.nil_append]⟩
  | .tv _ :: rs, _, ρ, f, g, h, ts, _, _, s, r, t => by
    cases r with
    | cons x r =>
      cases t with
      | dead t =>
        have z := putA_ok (rs := rs) s r t
        exact z
      | cons y t =>
        rename_i g1 g2
        obtain ⟨f', j, h1, h2⟩ := putA_ok s r t
        refine ⟨f', g1 ++ j, h1, ?_⟩
        rw [List.append_assoc]
        refine (List.Perm.append_left g1 h2).trans ?_
        rw [← List.append_assoc, ← List.append_assoc]
        exact List.Perm.append_right _ List.perm_append_comm
  | .bw i :: rs, _, ρ, f, g, h, ts, _, _, s, r, t => by
    cases r with
    | cons x r =>
      cases x with
      | bw hx =>
        cases t with
        | dead t =>
          rename_i ts
          obtain ⟨f', j, h1, h2⟩ := putA_ok s r t
          obtain ⟨k1, k2, h3, h4⟩ := h1.kill i
          refine ⟨k2, k1 ++ j, h3, h2.trans ?_⟩
          refine (List.Perm.append_right j h4).trans ?_
          rw [← List.append_assoc]
          exact List.Perm.append_right _ List.perm_append_comm
        | cons y t =>
          rename_i t0 ts g1 g2
          obtain ⟨f', j, h1, h2⟩ := putA_ok s r t
          by_cases hi : i < (putA ρ rs ts).length
          · obtain ⟨k1, k2, k, h3, h4, h5⟩ := h1.set y hi
            have es : ∀ v0, σ[i]? = some (some v0) → σ.set i (some v0) = σ := fun v0 hv0 => by
              apply List.ext_getElem?
              intro n
              by_cases hn : i = n
              · subst hn
                rw [List.getElem?_set_self (by rw [← h1.length]; exact hi), hv0]
              · rw [List.getElem?_set_ne hn]
            rw [es _ hx] at h3
            refine ⟨k, k1 ++ j, h3, ?_⟩
            rw [List.append_assoc]
            refine (List.Perm.append_left g1 h2).trans ?_
            refine (List.Perm.append_left g1 (List.Perm.append_right j h5)).trans ?_
            refine List.Perm.trans ?_ (List.Perm.append_right (k1 ++ j) h4.symm)
            rw [List.append_assoc, List.append_assoc]
            refine List.Perm.append_left g1 ?_
            rw [← List.append_assoc, ← List.append_assoc]
            exact List.Perm.append_right _ List.perm_append_comm
          · exfalso
            have := (List.getElem?_eq_some_iff.mp hx).1
            rw [← h1.length] at this
            exact hi this
def eFn (n : Nat) (m : Fn) (ga : List T → ER (List R)) : List T → ER R := fun ρ => (ga ρ).bind fun rs ρ1 => callF n m ρ1 rs
theorem e_fn {n : Nat} {m : Fn} {ta : TA} {ga : List T → ER (List R)} (ha : SndA K cl W ta ga) : SndE K cl W (tCallS (spD K cl n m) (WE W) ta) (eFn n m ga) := by
  intro F H ρ σ fp Q o p
  show ta σ H fun vs H1 => spD K cl n m vs H1 Q (WE W σ)
  refine ha _ _ _ _ _ _ o ?_
  unfold eFn at p
  cases q : ga ρ with
  | stuck => rw [q] at p; exact p
  | exc c ρ1 => rw [q] at p; exact p
  | ok rs ρ1 =>
    rw [q] at p
    intro F1 H1 vs fp1 ft1 e1 o1
    have p1 : PostE K cl W σ F1 H1 (fp1 ++ ft1) (optE (takeA ρ1 rs) fun x => if x.1.length = n then (match m x.1 with
      | .ok t ts => .ok (.tv t) (putA x.2 rs ts)
      | .exc c ts => .exc c (putA x.2 rs ts)
      | .stuck => .stuck) else .stuck) Q := PostE.mono e1 p
    clear p
    cases qt : takeA ρ1 rs with
    | none => rw [qt] at p1; exact p1.elim
    | some y =>
      obtain ⟨ts, ρ2⟩ := y
      rw [qt] at p1
      have p2 : PostE K cl W σ F1 H1 (fp1 ++ ft1) (if ts.length = n then (match m ts with
        | .ok t ts => .ok (.tv t) (putA ρ2 rs ts)
        | .exc c ts => .exc c (putA ρ2 rs ts)
        | .stuck => .stuck) else .stuck) Q := p1
      clear p1
      by_cases cn : ts.length = n
      · rw [if_pos cn] at p2
        obtain ⟨f0, s0, pm0⟩ := o1.sl
        obtain ⟨g0, r0, pg0⟩ := o1.rp
        obtain ⟨fA, fB, sA, sB, pAB⟩ := takeA_ok s0 r0 qt
        have pAll : (fp1 ++ ft1).Perm (fA ++ fB) := (List.Perm.append pm0 pg0).symm.trans pAB
        have nd : (fA ++ fB).Nodup := pAll.nodup_iff.mp o1.nd
        have out : ∀ a ∈ fA ++ fB, F1 a = none := fun a ha => o1.out a (pAll.mem_iff.mpr ha)
        have oA : OK K F1 H1 ts (vs.map some) fA := ⟨o1.sub, ⟨fA, sA, .refl _⟩, ⟨[], .nil, .refl _⟩, by rw [List.append_nil]; exact (List.nodup_append.mp nd).1, fun a ha => out a (List.mem_append_left _ (by rwa [List.append_nil] at ha))⟩
        have nB : ∀ a ∈ fB, a ∉ fA := fun a hb ha => (List.nodup_append.mp nd).2.2 a ha a hb rfl
        -- behind the call
        have back : ∀ {F' H' : Hp} {ts' : List T} {fp' ft' : List Addr} {rs' : List R} {us : List V}, Ext F1 H1 fA F' H' (fp' ++ ft') → OKV K F' H' ts' (vs.map some) rs' us fp' ft' → (∀ f, RepRs K F' H' (vs.map some) rs' us f → RepRs K F' H' σ rs' us f) →
            ∃ f2, Ext F1 H1 (fp1 ++ ft1) F' H' (f2 ++ ft') ∧ OKV K F' H' (putA ρ2 rs ts') σ rs' us f2 ft' := fun {F' H' ts' fp' ft' rs' us} e' o' hrs => by
          have new : ∀ a ∈ fp' ++ ft', a ∉ fB := fun a ha hb => by
            rcases e'.fps a ha with h | h
            · exact nB a hb h
            · exact sB.dom a hb h
          have outB : ∀ a ∈ fB, F' a = none := fun a hb => by
            cases z : F' a with
            | none => rfl
            | some u =>
              rcases e'.dom a (by rw [z]; exact fun z => nomatch z) with h | h | h
              · exact absurd (out a (List.mem_append_right _ hb)) h
              · exact (nB a hb h).elim
              · exact absurd h (sB.dom a hb)
          have sB' : Sl K F' H' ρ2 σ fB := sB.frame e'.sub fun a ha u hu => e'.keep a u hu (nB a ha)
          obtain ⟨k0, t0, pk⟩ := o'.sl
          obtain ⟨f2, j, s2, p2⟩ := putA_ok sB' r0 t0
          have big : ((fp' ++ ft') ++ fB).Nodup := List.nodup_append.mpr ⟨o'.nd, (List.nodup_append.mp nd).2.1, fun x hx y hy z => new x hx (z ▸ hy)⟩
          have pb : ((fp' ++ ft') ++ fB).Perm ((f2 ++ ft') ++ j) := by
            have a1 : ((fp' ++ ft') ++ fB).Perm (ft' ++ (fp' ++ fB)) := by
              rw [← List.append_assoc]
              exact List.Perm.append_right _ List.perm_append_comm
            have a2 : (fp' ++ fB).Perm (f2 ++ j) := (List.Perm.append_right fB pk.symm).trans p2
            refine a1.trans ((List.Perm.append_left ft' a2).trans ?_)
            rw [← List.append_assoc]
            exact List.Perm.append_right _ List.perm_append_comm
          have nd2 : (f2 ++ ft').Nodup := (List.nodup_append.mp (pb.nodup_iff.mp big)).1
          have mem : ∀ a, a ∈ f2 ++ ft' → a ∈ (fp' ++ ft') ++ fB := fun a ha => pb.mem_iff.mpr (List.mem_append_left _ ha)
          refine ⟨f2, ⟨e'.sub, fun a ha => (e'.dom a ha).imp id fun z => z.imp (fun z => pAll.mem_iff.mpr (List.mem_append_left _ z)) id, fun a ha => ?_, fun a u hu na => e'.keep a u hu fun z => na (pAll.mem_iff.mpr (List.mem_append_left _ z))⟩,
            ⟨o'.sub, ⟨f2, s2, .refl _⟩, o'.rp.elim fun g hg => ⟨g, hrs g hg.1, hg.2⟩, nd2, fun a ha => ?_⟩⟩
          · rcases List.mem_append.mp (mem a ha) with h | h
            · exact (e'.fps a h).imp (fun z => pAll.mem_iff.mpr (List.mem_append_left _ z)) id
            · exact .inl (pAll.mem_iff.mpr (List.mem_append_right _ h))
          · rcases List.mem_append.mp (mem a ha) with h | h
            · exact o'.out a h
            · exact outB a h
        refine ⟨F1, ts, fA, cn, oA, ?_⟩
        cases qm : m ts with
        | stuck => rw [qm] at p2; exact p2
        | ok t ts' =>
          rw [qm] at p2
          intro F' H' v fp' ft' e' o'
          obtain ⟨f2, x1, x2⟩ := back e' o' fun f x => RepRs.any x
          exact p2 F' H' v f2 ft' x1 x2
        | exc c ts' =>
          rw [qm] at p2
          intro F' H' fp' e' o'
          obtain ⟨f2, x1, x2⟩ := back (rs' := []) (us := []) (ft' := []) (by rw [List.append_nil]; exact e') o' fun f x => by cases x; exact .nil
          rw [List.append_nil] at x1
          exact p2 F' H' f2 x1 x2
      · rw [if_neg cn] at p2; exact p2.elim
end
end DL

set_option Elab.async false
set_option linter.all false
set_option maxRecDepth 100000
namespace DL
open PySem PySem.Spec L2

/-! ### operations whose answer is read off the data -/
inductive Out where
  | d (x : D) | nl (xs : List D)
def fOut (p : List D → Option Out) : List T → List R → ER R := fun ρ rs => optE (dats ρ rs) fun ds => optE (p ds) fun x => match x with
  | .d d => .ok (.tv (.fz d)) ρ
  | .nl out => .ok (.tv (.ol out)) ρ
def OutOp (K : KF) (r : List V → Hp → VK → Prop) (p : List D → Option Out) : Prop := ∀ F H ds vs, Same F H → Vws K F H ds vs →
  (∀ d, p ds = some (.d d) → ∃ v, Rep K F d v ∧ ∀ Q : VK, Q v H → r vs H Q) ∧
  (∀ out, p ds = some (.nl out) → ∃ xs, Reps K F out xs ∧ ∀ Q : VK, (∀ l, H l = none → Q (.ref l) (upd H l (.lst xs))) → r vs H Q)
/-- the call's mirror -/
def eO (p : List D → Option Out) (ga : List T → ER (List R)) : List T → ER R := eCall (fOut p) ga
section
variable {K : KF} {cl : Str → Addr} {W : WX}
theorem out_op {r : List V → Hp → VK → Prop} {p : List D → Option Out} (h : OutOp K r p) : OpS K cl W r (fOut p) := by
  intro F H ρ σ fp ft rs vs Q o q
  unfold fOut at q
  cases e : dats ρ rs with
  | none => rw [e] at q; exact q.elim
  | some ds =>
    rw [e] at q
    have q1 : PostE K cl W σ F H (fp ++ ft) (optE (p ds) fun x => match x with
      | .d d => .ok (.tv (.fz d)) ρ
      | .nl out => .ok (.tv (.ol out)) ρ) Q := q
    clear q
    obtain ⟨h1, h2⟩ := h F H ds vs o.sub (o.vws e)
    cases e2 : p ds with
    | none => rw [e2] at q1; exact q1.elim
    | some x =>
      rw [e2] at q1
      cases x with
      | d d =>
        obtain ⟨v, rv, k⟩ := h1 d e2
        exact k Q (q1 F H v fp [] (by rw [List.append_nil]; exact Ext.refl.sub' fun _ h => List.mem_append_left _ h) (o.ok.one0 (.tv (.fz rv))))
      | nl out =>
        obtain ⟨xs, rx, k⟩ := h2 out e2
        exact k Q fun l n => q1 F _ (.ref l) fp [l] ((Ext.refl.sub' fun _ h => List.mem_append_left _ h : Ext F H (fp ++ ft) F H fp).trans (Ext.fresh n)) (o.ok.fresh n (.ol upd_same rx))
theorem OutOp.of_ref {r : List V → Hp → VK → Prop} {p : List D → Option D} (h : RefOp K r p) : OutOp K r (fun ds => (p ds).map .d) := by
  intro F H ds vs s w
  refine ⟨fun d e => ?_, fun out e => ?_⟩
  · have e : (p ds).map Out.d = some (.d d) := e
    cases q : p ds with
    | none => rw [q] at e; cases e
    | some d' => rw [q] at e; cases e; exact h F H ds vs d s w q
  · have e : (p ds).map Out.d = some (.nl out) := e
    cases q : p ds with
    | none => rw [q] at e; cases e
    | some d' => rw [q] at e; cases e
theorem OutOp.of_new {r : List V → Hp → VK → Prop} {p : List D → Option (List D)} (h : NewOp K r p) : OutOp K r (fun ds => (p ds).map .nl) := by
  intro F H ds vs s w
  refine ⟨fun d e => ?_, fun out e => ?_⟩
  · have e : (p ds).map Out.nl = some (.d d) := e
    cases q : p ds with
    | none => rw [q] at e; cases e
    | some d' => rw [q] at e; cases e
  · have e : (p ds).map Out.nl = some (.nl out) := e
    cases q : p ds with
    | none => rw [q] at e; cases e
    | some d' => rw [q] at e; cases e; exact h F H ds vs out s w q
/-- one rule or the other -/
def orP (p q : List D → Option Out) : List D → Option Out := fun ds => match p ds with | some x => some x | none => q ds
def orR (r r' : List V → Hp → VK → Prop) : List V → Hp → VK → Prop := fun vs H Q => r vs H Q ∨ r' vs H Q
theorem OutOp.or {r r' : List V → Hp → VK → Prop} {p q : List D → Option Out} (h : OutOp K r p) (h' : OutOp K r' q) : OutOp K (orR r r') (orP p q) := by
  intro F H ds vs s w
  obtain ⟨a1, a2⟩ := h F H ds vs s w
  obtain ⟨b1, b2⟩ := h' F H ds vs s w
  unfold orP
  cases e : p ds with
  | none =>
    simp only
    refine ⟨fun d hd => ?_, fun out ho => ?_⟩
    · obtain ⟨v, rv, k⟩ := b1 d hd; exact ⟨v, rv, fun Q q => .inr (k Q q)⟩
    · obtain ⟨v, rv, k⟩ := b2 out ho; exact ⟨v, rv, fun Q q => .inr (k Q q)⟩
  | some x =>
    simp only
    refine ⟨fun d hd => ?_, fun out ho => ?_⟩
    · obtain ⟨v, rv, k⟩ := a1 d (e.trans hd); exact ⟨v, rv, fun Q q => .inl (k Q q)⟩
    · obtain ⟨v, rv, k⟩ := a2 out (e.trans ho); exact ⟨v, rv, fun Q q => .inl (k Q q)⟩
theorem OutOp.imp {r r' : List V → Hp → VK → Prop} {p : List D → Option Out} (h : OutOp K r p) (hr : ∀ vs H Q, r vs H Q → r' vs H Q) : OutOp K r' p := fun F H ds vs s w =>
  ⟨fun d e => let ⟨v, rv, k⟩ := (h F H ds vs s w).1 d e; ⟨v, rv, fun Q q => hr _ _ _ (k Q q)⟩, fun d e => let ⟨v, rv, k⟩ := (h F H ds vs s w).2 d e; ⟨v, rv, fun Q q => hr _ _ _ (k Q q)⟩⟩
theorem l2_or {r r' : R2} : ∀ vs H Q, orR (l2 r) (l2 r') vs H Q → l2 (fun x y H Q => r x y H Q ∨ r' x y H Q) vs H Q := fun vs H Q h => by
  rcases vs with _ | ⟨x, _ | ⟨y, _ | ⟨z, t⟩⟩⟩
  · exact h.elim id id
  · exact h.elim id id
  · exact h
  · exact h.elim id id
theorem OutOp.or2 {r r' : R2} {p q : List D → Option Out} (h : OutOp K (l2 r) p) (h' : OutOp K (l2 r') q) : OutOp K (l2 (fun x y H Q => r x y H Q ∨ r' x y H Q)) (orP p q) := (h.or h').imp l2_or
end

/-! ### numbers -/
section
variable {K : KF}
/-- two numbers -/
def pII (c : Int → Int → Bool) (f : Int → Int → D) : List D → Option Out := fun ds => match ds with
  | [.int i, .int j] => if c i j = true then some (.d (f i j)) else none
  | _ => none
theorem Vws.two {F H : Hp} {a b : D} {vs : List V} (w : Vws K F H [a, b] vs) : ∃ x y, vs = [x, y] ∧ Vw K F H a x ∧ Vw K F H b y := by
  cases w with
  | cons h t =>
    cases t with
    | cons h' t => cases t; exact ⟨_, _, rfl, h, h'⟩
theorem Vws.one {F H : Hp} {a : D} {vs : List V} (w : Vws K F H [a] vs) : ∃ x, vs = [x] ∧ Vw K F H a x := by
  cases w with
  | cons h t => cases t; exact ⟨_, rfl, h⟩
theorem Vws.three {F H : Hp} {a b c : D} {vs : List V} (w : Vws K F H [a, b, c] vs) : ∃ x y z, vs = [x, y, z] ∧ Vw K F H a x ∧ Vw K F H b y ∧ Vw K F H c z := by
  cases w with
  | cons h t =>
    obtain ⟨x, y, rfl, h1, h2⟩ := t.two
    exact ⟨_, _, _, rfl, h, h1, h2⟩
theorem out_II {c : Int → Int → Bool} {f : Int → Int → D} {g : Int → Int → V} {r : R2} (hg : ∀ F i j, Rep K F (f i j) (g i j)) (hr : ∀ i j H (Q : VK), c i j = true → Q (g i j) H → r (.int i) (.int j) H Q) : OutOp K (l2 r) (pII c f) := by
  intro F H ds vs s w
  refine ⟨fun d e => ?_, fun out e => ?_⟩
  · unfold pII at e
    split at e
    · rename_i i j
      split at e
      · rename_i hc
        cases e
        obtain ⟨x, y, rfl, h1, h2⟩ := w.two
        cases h1.int
        cases h2.int
        exact ⟨g i j, hg F i j, fun Q q => hr i j H Q hc q⟩
      · cases e
    · cases e
  · unfold pII at e
    split at e
    · split at e
      · cases e
      · cases e
    · cases e
def pAddI := pII (fun _ _ => true) fun i j => .int (i + j)
def pSub := pII (fun _ _ => true) fun i j => .int (i - j)
def cMulB (i j : Int) : Bool := (decide (-18446744073709551616 < i) && decide (i < 18446744073709551616)) || (decide (-18446744073709551616 < j) && decide (j < 18446744073709551616))
def pMulI := pII cMulB fun i j => .int (i * j)
def cDivB (_ j : Int) : Bool := decide (j ≠ 0) && decide (j.natAbs < 1073741824)
def pDivN := pII cDivB fun i j => .int (i.fdiv j)
def cDivW (_ j : Int) : Bool := decide (0 < j) && decide (j.natAbs.log2 < 9000)
def pDivW := pII cDivW fun i j => .int (i.fdiv j)
def pMod := pII (fun _ j => decide (j ≠ 0)) fun i j => .int (i.fmod j)
def pPow := pII (fun i j => decide (0 ≤ j) && (decide (j ≤ 1000000) && decide (i.natAbs < 18446744073709551616))) fun i j => .int (i ^ j.toNat)
def pLt := pII (fun _ _ => true) fun i j => .bl (decide (i < j))
def pLe := pII (fun _ _ => true) fun i j => .bl (decide (i ≤ j))
def pGt := pII (fun _ _ => true) fun i j => .bl (decide (j < i))
def pGe := pII (fun _ _ => true) fun i j => .bl (decide (j ≤ i))
theorem o_addI : OutOp K (l2 (rI0 fun i j => .int (i + j))) pAddI := out_II (fun _ _ _ => .int _) fun i j H Q _ q => ⟨i, j, rfl, rfl, q⟩
theorem o_sub : OutOp K (l2 (rI0 fun i j => .int (i - j))) pSub := out_II (fun _ _ _ => .int _) fun i j H Q _ q => ⟨i, j, rfl, rfl, q⟩
theorem o_mulI : OutOp K (l2 (rI CMul fun i j => .int (i * j))) pMulI := out_II (fun _ _ _ => .int _) fun i j H Q c q => ⟨i, j, rfl, rfl, by
  unfold cMulB at c
  simp only [Bool.or_eq_true, Bool.and_eq_true, decide_eq_true_eq] at c
  exact c, q⟩
theorem o_divN : OutOp K (l2 (rI CDivN fun i j => .int (i.fdiv j))) pDivN := out_II (fun _ _ _ => .int _) fun i j H Q c q => ⟨i, j, rfl, rfl, by
  unfold cDivB at c
  simp only [Bool.and_eq_true, decide_eq_true_eq] at c
  exact c, q⟩
theorem o_divW : OutOp K (l2 (rI CDivW fun i j => .int (i / j))) pDivW := out_II (fun _ _ _ => .int _) fun i j H Q c q => by
  unfold cDivW at c
  simp only [Bool.and_eq_true, decide_eq_true_eq] at c
  exact ⟨i, j, rfl, rfl, c, by show Q (.int (i / j)) H; rw [← Int.fdiv_eq_ediv_of_nonneg i (Int.le_of_lt c.1)]; exact q⟩
theorem o_mod : OutOp K (l2 (rI (fun _ j => j ≠ 0) fun i j => .int (i.fmod j))) pMod := out_II (fun _ _ _ => .int _) fun i j H Q c q => ⟨i, j, rfl, rfl, by simpa using c, q⟩
theorem o_pow : OutOp K (l2 (rI CPow fun i j => .int (i ^ j.toNat))) pPow := out_II (fun _ _ _ => .int _) fun i j H Q c q => ⟨i, j, rfl, rfl, by
  simp only [Bool.and_eq_true, decide_eq_true_eq] at c
  exact c, q⟩
theorem o_lt : OutOp K (l2 (rI0 fun i j => .bl (decide (i < j)))) pLt := out_II (fun _ _ _ => .bl _) fun i j H Q _ q => ⟨i, j, rfl, rfl, q⟩
theorem o_le : OutOp K (l2 (rI0 fun i j => .bl (decide (i ≤ j)))) pLe := out_II (fun _ _ _ => .bl _) fun i j H Q _ q => ⟨i, j, rfl, rfl, q⟩
theorem o_gt : OutOp K (l2 (rI0 fun i j => .bl (decide (j < i)))) pGt := out_II (fun _ _ _ => .bl _) fun i j H Q _ q => ⟨i, j, rfl, rfl, q⟩
theorem o_ge : OutOp K (l2 (rI0 fun i j => .bl (decide (j ≤ i)))) pGe := out_II (fun _ _ _ => .bl _) fun i j H Q _ q => ⟨i, j, rfl, rfl, q⟩
def pNeg : List D → Option Out := fun ds => match ds with | [.int i] => some (.d (.int (-i))) | _ => none
theorem o_neg : OutOp K (l1 (rU fun i => .int (-i))) pNeg := by
  intro F H ds vs s w
  refine ⟨fun d e => ?_, fun out e => ?_⟩ <;> unfold pNeg at e <;> split at e
  · cases e
    obtain ⟨x, rfl, h1⟩ := w.one
    cases h1.int
    exact ⟨_, .int _, fun Q q => ⟨_, rfl, q⟩⟩
  · cases e
  · cases e
  · cases e

/-! ### lists put together -/
/-- the item lists of two lists -/
def pLL (c : List D → List D → Bool) (f : List D → List D → List D) : List D → Option Out := fun ds => match ds with
  | [.lst a, .lst b] => if c a b = true then some (.nl (f a b)) else none
  | _ => none
def pCat := pLL (fun a b => decide (a.length + b.length ≤ 1000000)) (· ++ ·)
theorem line_1m {n : Nat} (h : n ≤ 1000000) : n ≤ sizeLine := Nat.le_trans h (by decide)
theorem o_cat : OutOp K (l2 rCat) pCat := by
  intro F H ds vs s w
  refine ⟨fun d e => ?_, fun out e => ?_⟩ <;> unfold pCat pLL at e <;> split at e
  · split at e <;> cases e
  · cases e
  · rename_i a b
    split at e
    · rename_i hc
      cases e
      obtain ⟨x, y, rfl, h1, h2⟩ := w.two
      obtain ⟨p, xs, rfl, hp, rx⟩ := h1.lst s
      obtain ⟨q, ys, rfl, hq, ry⟩ := h2.lst s
      exact ⟨xs ++ ys, rx.append ry, fun Q k => ⟨p, q, xs, ys, rfl, rfl, hp, hq, line_1m (by rw [← rx.length, ← ry.length]; exact of_decide_eq_true hc), k⟩⟩
    · cases e
  · cases e
def pRep : List D → Option Out := fun ds => match ds with
  | [.lst a, .int k] => if (decide (-1000000 ≤ k) && decide (k ≤ 1000000)) && decide (a.length * k.toNat ≤ 1000000) then some (.nl (List.replicate k.toNat a).flatten) else none
  | _ => none
theorem o_rep : OutOp K (l2 rRep) pRep := by
  intro F H ds vs s w
  refine ⟨fun d e => ?_, fun out e => ?_⟩ <;> unfold pRep at e <;> split at e
  · split at e <;> cases e
  · cases e
  · rename_i a k
    split at e
    · rename_i hc
      cases e
      simp only [Bool.and_eq_true, decide_eq_true_eq] at hc
      obtain ⟨x, y, rfl, h1, h2⟩ := w.two
      obtain ⟨p, xs, rfl, hp, rx⟩ := h1.lst s
      cases h2.int
      exact ⟨_, rx.rep k.toNat, fun Q q => ⟨p, k, xs, rfl, rfl, hp, by omega, by omega, line_1m (by rw [← rx.length]; exact hc.2), q⟩⟩
    · cases e
  · cases e
def pCatS : List D → Option Out := fun ds => match ds with
  | [.str a, .str b] => if a.length + b.length ≤ 1000000 then some (.d (.str (a ++ b))) else none
  | _ => none
theorem o_catS : OutOp K (l2 fun x y H Q => ∃ i j, x = .str i ∧ y = .str j ∧ i.length + j.length ≤ sizeLine ∧ Q (.str (i ++ j)) H) pCatS := by
  intro F H ds vs s w
  refine ⟨fun d e => ?_, fun out e => ?_⟩ <;> unfold pCatS at e <;> split at e
  · split at e
    · rename_i hc
      cases e
      obtain ⟨x, y, rfl, h1, h2⟩ := w.two
      cases h1.str
      cases h2.str
      exact ⟨_, .str _, fun Q q => ⟨_, _, rfl, rfl, line_1m hc, q⟩⟩
    · cases e
  · cases e
  · split at e <;> cases e
  · cases e
/-- + of numbers, lists, texts -/
def pAdd := orP pAddI (orP pCat pCatS)
theorem o_add : OutOp K (l2 fun x y H Q => (rI0 fun i j => .int (i + j)) x y H Q ∨ (rCat x y H Q ∨ ∃ i j, x = .str i ∧ y = .str j ∧ i.length + j.length ≤ sizeLine ∧ Q (.str (i ++ j)) H)) pAdd := o_addI.or2 (o_cat.or2 o_catS)
def pMul := orP pMulI pRep
theorem o_mul : OutOp K (l2 fun x y H Q => (rI CMul fun i j => .int (i * j)) x y H Q ∨ rRep x y H Q) pMul := o_mulI.or2 o_rep
def pDiv := orP pDivN pDivW
theorem o_div : OutOp K (l2 fun x y H Q => (rI CDivN fun i j => .int (i.fdiv j)) x y H Q ∨ (rI CDivW fun i j => .int (i / j)) x y H Q) pDiv := o_divN.or2 o_divW
end
section
variable {X : Cx}
theorem op_plus : OpR X (binaryOp .Add) (fun x y H Q => (rI0 fun i j => .int (i + j)) x y H Q ∨ (rCat x y H Q ∨ ∃ i j, x = .str i ∧ y = .str j ∧ i.length + j.length ≤ sizeLine ∧ Q (.str (i ++ j)) H)) := op_add.or (op_cat.or op_add_str)
theorem op_times : OpR X (binaryOp .Mult) (fun x y H Q => (rI CMul fun i j => .int (i * j)) x y H Q ∨ rRep x y H Q) := op_mul.or op_rep
theorem op_over : OpR X (binaryOp .FloorDiv) (fun x y H Q => (rI CDivN fun i j => .int (i.fdiv j)) x y H Q ∨ (rI CDivW fun i j => .int (i / j)) x y H Q) := op_fdivN.or op_fdivW
end

/-! ### data as the library has it -/
mutual
def D.py : D → PyData
  | .non => .none
  | .bl b => .bool b
  | .int i => .int i
  | .str x => .str x
  | .lst ds => .list (D.pys ds)
  | .tup ds => .tuple (D.pys ds)
  | .scr ns => .list (ns.map .int)
  | .dK _ _ => .dict []
  | .dT _ _ => .dict []
  | .exc _ => .dict []
def D.pys : List D → List PyData
  | [] => []
  | d :: ds => d.py :: D.pys ds
end
theorem dp_ints {K : KF} {H : Hp} : ∀ ns : List Int, DpAll K H (ns.map V.int) (ns.map PyData.int)
  | [] => .nil
  | n :: ns => .cons (.int n) (dp_ints ns)
mutual
theorem Rep.dp {K : KF} {H : Hp} : ∀ {d : D} {v : V}, Rep K H d v → d.py.canLay0 = true → Dp K H v d.py
  | .non, _, r, _ => by cases r; exact .non
  | .bl b, _, r, _ => by cases r; exact .bl b
  | .int b, _, r, _ => by cases r; exact .int b
  | .str b, _, r, _ => by cases r; exact .str b
  | .lst ds, _, r, h => by
    cases r with
    | lst ha rs => exact .lst (SqL.of ha) (Reps.dp rs (by simpa [D.py, PyData.canLay0] using h))
  | .tup ds, _, r, h => by
    cases r with
    | tup ha rs => exact .tup ha (Reps.dp rs (by simpa [D.py, PyData.canLay0] using h))
  | .scr ns, _, r, h => by
    cases r with
    | scr ha => exact .lst ha (dp_ints ns)
  | .dK _ _, _, r, h => by simp [D.py, PyData.canLay0] at h
  | .dT _ _, _, r, h => by simp [D.py, PyData.canLay0] at h
  | .exc _, _, r, h => by cases r
theorem Reps.dp {K : KF} {H : Hp} : ∀ {ds : List D} {vs : List V}, Reps K H ds vs → PyData.canLayAll0 (D.pys ds) = true → DpAll K H vs (D.pys ds)
  | [], _, r, _ => by cases r; exact .nil
  | d :: ds, _, r, h => by
    cases r with
    | cons r rs =>
      have h' : d.py.canLay0 = true ∧ PyData.canLayAll0 (D.pys ds) = true := by simpa [D.pys, PyData.canLayAll0] using h
      exact .cons (Rep.dp r h'.1) (Reps.dp rs h'.2)
end
theorem Vw.dp {K : KF} {F H : Hp} {d : D} {v : V} (s : Same F H) (w : Vw K F H d v) (h : SeqAt.shaped d.py = true) : Dp K H v d.py := (w.rep s).dp (SeqAt.canLay_of_shaped h)

/-! ### == -/
section
variable {K : KF}
/-- == of what stands in no heap -/
def scEq : D → D → Option Bool
  | .int i, .int j => some (decide (i = j))
  | .str i, .str j => some (decide (i = j))
  | .bl i, .bl j => some (decide (i = j))
  | .non, .non => some true
  | .non, .int _ => some false
  | .int _, .non => some false
  | .int _, .str _ => some false
  | .str _, .int _ => some false
  | .str _, .non => some false
  | .non, .str _ => some false
  | .bl _, .str _ => some false
  | .str _, .bl _ => some false
  | .bl _, .non => some false
  | .non, .bl _ => some false
  | _, _ => none
def pEqS (neg : Bool) : List D → Option Out := fun ds => match ds with
  | [a, b] => (scEq a b).map fun k => .d (.bl (if neg then !k else k))
  | _ => none
def pEqD (neg : Bool) : List D → Option Out := fun ds => match ds with
  | [a, b] => if SeqAt.shaped a.py && SeqAt.shaped b.py then some (.d (.bl (if neg then !PyData.eqv a.py b.py else PyData.eqv a.py b.py))) else none
  | _ => none
def pEq := orP (pEqS false) (pEqD false)
def pNe := orP (pEqS true) (pEqD true)
theorem out_2 {r : R2} {p : List D → Option Out} (h2 : ∀ a b o, p [a, b] = some o → ∃ d, o = .d d) (hn : ∀ ds, (∀ a b, ds ≠ [a, b]) → p ds = none)
    (h : ∀ F H a b x y d, Same F H → Vw K F H a x → Vw K F H b y → p [a, b] = some (.d d) → ∃ v, Rep K F d v ∧ ∀ Q : VK, Q v H → r x y H Q) : OutOp K (l2 r) p := by
  intro F H ds vs s w
  rcases ds with _ | ⟨a, _ | ⟨b, _ | ⟨c, t⟩⟩⟩
  · rw [hn _ (fun _ _ z => by cases z)]; exact ⟨(fun _ e => by cases e), (fun _ e => by cases e)⟩
  · rw [hn _ (fun _ _ z => by cases z)]; exact ⟨(fun _ e => by cases e), (fun _ e => by cases e)⟩
  · obtain ⟨x, y, rfl, h1, h2'⟩ := w.two
    refine ⟨fun d e => h F H a b x y d s h1 h2' e, fun out e => ?_⟩
    obtain ⟨d, z⟩ := h2 a b _ e
    cases z
  · rw [hn _ (fun _ _ z => by cases z)]; exact ⟨(fun _ e => by cases e), (fun _ e => by cases e)⟩
theorem scEq_ok {F H : Hp} {a b : D} {x y : V} {k : Bool} (h1 : Vw K F H a x) (h2 : Vw K F H b y) (e : scEq a b = some k) : scal x y = true ∧ decide (x = y) = k := by
  unfold scEq at e
  split at e <;> first
    | (cases e
       first | cases h1.int | cases h1.str | cases h1.bl | cases h1.non
       first | cases h2.int | cases h2.str | cases h2.bl | cases h2.non
       refine ⟨rfl, ?_⟩
       simp)
    | cases e
theorem o_eqS (neg : Bool) {r : R2} (hr : ∀ x y H (Q : VK), scal x y = true → Q (.bl (if neg then !decide (x = y) else decide (x = y))) H → r x y H Q) : OutOp K (l2 r) (pEqS neg) := by
  refine out_2 (fun a b o e => ?_) (fun ds h => ?_) fun F H a b x y d s h1 h2 e => ?_
  · cases q : scEq a b with
    | none => simp [pEqS, q] at e
    | some k => simp [pEqS, q] at e; exact ⟨_, e.symm⟩
  · unfold pEqS; split
    · rename_i a b; exact absurd rfl (h a b)
    · rfl
  · cases q : scEq a b with
    | none => simp [pEqS, q] at e
    | some k =>
      obtain ⟨z1, z2⟩ := scEq_ok h1 h2 q
      have e' : D.bl (if neg then !k else k) = d := by simpa [pEqS, q] using e
      subst e'
      exact ⟨_, .bl _, fun Q q => hr x y H Q z1 (by rw [z2]; exact q)⟩
theorem o_eqD (neg : Bool) {r : R2} (hr : ∀ x y H d e (Q : VK), Dp K H x d → Dp K H y e → SeqAt.shaped d = true → SeqAt.shaped e = true → Q (.bl (if neg then !PyData.eqv d e else PyData.eqv d e)) H → r x y H Q) : OutOp K (l2 r) (pEqD neg) := by
  refine out_2 (fun a b o e => ?_) (fun ds h => ?_) fun F H a b x y d s h1 h2 e => ?_
  · unfold pEqD at e
    simp only at e
    split at e
    · cases e; exact ⟨_, rfl⟩
    · cases e
  · unfold pEqD; split
    · rename_i a b; exact absurd rfl (h a b)
    · rfl
  · unfold pEqD at e
    simp only at e
    split at e
    · rename_i hc
      rw [Bool.and_eq_true] at hc
      cases e
      exact ⟨_, .bl _, fun Q q => hr x y H _ _ Q (h1.dp s hc.1) (h2.dp s hc.2) hc.1 hc.2 q⟩
    · cases e
theorem o_eq : OutOp K (l2 fun x y H Q => rEq x y H Q ∨ rEqD K x y H Q) pEq :=
  (o_eqS false fun x y H Q h q => ⟨h, q⟩).or2 (o_eqD false fun x y H d e Q h1 h2 h3 h4 q => ⟨d, e, h1, h2, h3, h4, q⟩)
theorem o_ne : OutOp K (l2 fun x y H Q => rNe x y H Q ∨ rNeD K x y H Q) pNe :=
  (o_eqS true fun x y H Q h q => ⟨h, q⟩).or2 (o_eqD true fun x y H d e Q h1 h2 h3 h4 q => ⟨d, e, h1, h2, h3, h4, q⟩)
end
section
variable {X : Cx}
theorem op_eqA (hu : X.A.units + 64 < cLine) : OpR X (compareOp .Eq) (fun x y H Q => rEq x y H Q ∨ rEqD X.K x y H Q) := op_eq.or (op_eqD hu)
theorem op_neA (hu : X.A.units + 64 < cLine) : OpR X (compareOp .NotEq) (fun x y H Q => rNe x y H Q ∨ rNeD X.K x y H Q) := op_ne.or (op_neD hu)
end
end DL

set_option Elab.async false
set_option linter.all false
set_option maxRecDepth 100000
namespace DL
open PySem PySem.Spec L2

/-! ### sorted, of any data that are alike -/
def sortV (ds : List PyData) (xs : List V) : List V := ((xs.zip ds).mergeSort (PySem.W.dataLe false Prod.snd)).map Prod.fst
def rSortedD (K : KF) : List V → Hp → VK → Prop := fun vs H Q => ∃ (a : Addr) (xs : List V) (ds : List PyData), vs = [V.ref a] ∧ SqL K H a xs ∧ DpAll K H xs ds ∧ PySem.W.AllAlike ds ∧ PySem.W.Sortable ds ∧ (∀ d ∈ ds, d.depth ≤ 50) ∧
  ∀ p, H p = none → Q (.ref p) (upd H p (.lst (sortV ds xs)))
theorem dpAll_len {K : KF} {H : Hp} : ∀ {xs : List V} {ds : List PyData}, DpAll K H xs ds → xs.length = ds.length
  | _, _, .nil => rfl
  | _, _, .cons _ t => congrArg Nat.succ (dpAll_len t)
theorem each_rel : ∀ {xs : List V} {us : List Value} {ds : List PyData}, Vals xs us → xs.length = ds.length → PySem.W.EachIs (fun u (b : V × PyData) => RelV b.1 u) us (xs.zip ds)
  | _, _, [], .nil, _ => .nil
  | _, _, d :: ds, .cons r t, h => .cons r (each_rel t (by simpa using h))
theorem each_reads {h : Heap} : ∀ {xs : List V} {us : List Value} {ds : List PyData} {as : List Addr}, ReadsAll h us ds as → xs.length = ds.length → PySem.W.EachIs (fun u (b : V × PyData) => ∃ as, Reads h u b.2 as) us (xs.zip ds)
  | [], _, _, _, .nil, _ => .nil
  | x :: xs, _, _, _, .cons r t, hl => .cons ⟨_, r⟩ (each_reads t (by simpa using hl))
theorem vals_each : ∀ {us : List Value} {bs : List (V × PyData)}, PySem.W.EachIs (fun u (b : V × PyData) => RelV b.1 u) us bs → Vals (bs.map Prod.fst) us
  | _, _, .nil => .nil
  | _, _, .cons r t => .cons r (vals_each t)
section
variable {X : Cx}
theorem cr_sortedD (hu : X.A.units + 64 < cLine) : CallR X (.builtin "sorted") (rSortedD X.K) := by
  intro pins s σ H vs us Q I r h
  obtain ⟨a, xs, ds, rfl, hs, hd, ha, hso, hdep, q⟩ := h
  obtain ⟨its, rv, hl, hz⟩ := I.list hs
  rw [Vals.ref1 r]
  have hlen := dpAll_len hd
  obtain ⟨as, hr⟩ := Dp.readsAll I ds xs its hd rv
  have hm : (xs.zip ds).map Prod.snd = ds := List.map_snd_zip (by omega)
  refine PySem.W.sorted_data (R := fun u (b : V × PyData) => RelV b.1 u) (enc := Prod.snd) hl.isList (each_rel rv hlen) (each_reads hr hlen) (by rw [hm]; exact ha) (by rw [hm]; exact hso) (by rw [List.length_zip]; omega) (fun b hb => ?_) fun out ho eo => ?_
  · have : b.2 ∈ ds := by rw [← hm]; exact List.mem_map.mpr ⟨b, hb, rfl⟩
    have := hdep _ this
    omega
  · obtain ⟨ep, he'⟩ := PyProof.Rows.sortedAll_at s.heap its out.toArray
    have hlen2 : (sortV ds xs).length ≤ sizeLine := by
      unfold sortV
      rw [List.length_map, List.length_mergeSort, List.length_zip]
      omega
    exact ⟨.ref _, upd H (s.heap.objs.size + 1) (.lst (sortV ds xs)), I.laid (t' := s.toks) (fun _ _ => PyProof.Rows.sortedAll_old) (Nat.le_succ _) ⟨hlen2, out, ep, vals_each eo, he'⟩, rfl, q _ (I.hok.fresh (Nat.le_succ _))⟩
end
/-- the sorted list -/
def sortD (ds : List D) : List D := ds.mergeSort (PySem.W.dataLe false D.py)
noncomputable instance {ds : List PyData} : Decidable (PySem.W.AllAlike ds) := Classical.propDecidable _
noncomputable instance {ds : List PyData} : Decidable (PySem.W.Sortable ds) := Classical.propDecidable _
def SortOk (ds : List D) : Prop := PySem.W.AllAlike (D.pys ds) ∧ PySem.W.Sortable (D.pys ds) ∧ PyData.canLayAll0 (D.pys ds) = true ∧ ∀ d ∈ D.pys ds, d.depth ≤ 50
noncomputable instance {ds : List D} : Decidable (SortOk ds) := Classical.propDecidable _
noncomputable def pSorted : List D → Option Out := fun ds => match ds with
  | [.lst xs] => if SortOk xs then some (.nl (sortD xs)) else none
  | _ => none
section
variable {K : KF}
theorem out_1 {r : List V → Hp → VK → Prop} {p : List D → Option Out} (hn : ∀ ds, (∀ a, ds ≠ [a]) → p ds = none)
    (h : ∀ F H a x, Same F H → Vw K F H a x → (∀ d, p [a] = some (.d d) → ∃ v, Rep K F d v ∧ ∀ Q : VK, Q v H → r [x] H Q) ∧
      (∀ out, p [a] = some (.nl out) → ∃ xs, Reps K F out xs ∧ ∀ Q : VK, (∀ l, H l = none → Q (.ref l) (upd H l (.lst xs))) → r [x] H Q)) : OutOp K r p := by
  intro F H ds vs s w
  rcases ds with _ | ⟨a, _ | ⟨b, t⟩⟩
  · rw [hn _ (fun _ z => by cases z)]; exact ⟨(fun _ e => by cases e), (fun _ e => by cases e)⟩
  · obtain ⟨x, rfl, h1⟩ := w.one
    exact h F H a x s h1
  · rw [hn _ (fun _ z => by cases z)]; exact ⟨(fun _ e => by cases e), (fun _ e => by cases e)⟩
theorem pys_map : ∀ ds : List D, D.pys ds = ds.map D.py
  | [] => rfl
  | d :: ds => by rw [D.pys, List.map_cons, pys_map ds]
theorem o_sorted : OutOp K (rSortedD K) pSorted := by
  refine out_1 (fun ds h => ?_) fun F H a x s w => ⟨fun d e => ?_, fun out e => ?_⟩
  · unfold pSorted; split
    · rename_i xs; exact absurd rfl (h (.lst xs))
    · rfl
  · unfold pSorted at e; split at e
    · split at e <;> cases e
    · cases e
  · unfold pSorted at e; split at e
    · rename_i xs q
      cases q
      split at e
      · rename_i hc
        cases e
        obtain ⟨h1, h2, h3, h4⟩ := hc
        obtain ⟨p, vs, rfl, hp, rv⟩ := w.lst s
        have hd := Reps.dp (rv.mono s) h3
        -- the pairs of a value and its data, sorted
        have el : vs.length = xs.length := rv.length.symm
        have key : ∃ ys, Reps K F (sortD xs) ys ∧ ys = sortV (D.pys xs) vs := by
          refine ⟨_, ?_, rfl⟩
          unfold sortD sortV
          have z1 : (vs.zip (D.pys xs)) = (vs.zip xs).map (fun b => (b.1, b.2.py)) := by
            rw [pys_map, List.zip_map_right]
            rfl
          have z2 : (vs.zip xs).map Prod.snd = xs := List.map_snd_zip (by omega)
          have e1 : xs.mergeSort (PySem.W.dataLe false D.py) = ((vs.zip xs).mergeSort (PySem.W.dataLe false fun b => b.2.py)).map Prod.snd := by
            conv => lhs; rw [← z2]
            rw [List.map_mergeSort (r := PySem.W.dataLe false fun b : V × D => b.2.py) (s := PySem.W.dataLe false D.py) (fun a _ b _ => rfl)]
          have e2 : ((vs.zip (D.pys xs)).mergeSort (PySem.W.dataLe false Prod.snd)).map Prod.fst = ((vs.zip xs).mergeSort (PySem.W.dataLe false fun b => b.2.py)).map Prod.fst := by
            rw [z1, ← List.map_mergeSort (r := PySem.W.dataLe false fun b : V × D => b.2.py) (s := PySem.W.dataLe false Prod.snd) (fun a _ b _ => rfl), List.map_map]
            rfl
          rw [e1, e2]
          have each : ∀ (l : List (V × D)), (∀ b ∈ l, Rep K F b.2 b.1) → Reps K F (l.map Prod.snd) (l.map Prod.fst) := fun l => by
            induction l with
            | nil => intro _; exact .nil
            | cons b l ih => intro h; exact .cons (h b (by simp)) (ih fun c hc => h c (by simp [hc]))
          refine each _ fun b hb => ?_
          have hb' : b ∈ vs.zip xs := (List.mergeSort_perm _ _).mem_iff.mp hb
          obtain ⟨i, hi, rfl⟩ := List.mem_iff_getElem.mp hb'
          rw [List.getElem_zip]
          rw [List.length_zip] at hi
          obtain ⟨v, g1, g2⟩ := rv.get (i := i) (List.getElem?_eq_getElem (by omega))
          rw [List.getElem?_eq_getElem (by omega)] at g1
          cases g1
          exact g2
        obtain ⟨ys, k1, k2⟩ := key
        exact ⟨ys, k1, fun Q q => ⟨p, vs, D.pys xs, rfl, SqL.of hp, hd, h1, h2, h4, fun l n => by rw [← k2]; exact q l n⟩⟩
      · cases e
    · cases e

/-! ### in -/
def flatD : D → Bool
  | .non => true
  | .bl _ => true
  | .int _ => true
  | .str _ => true
  | _ => false
def eqF : D → D → Bool
  | .non, .non => true
  | .bl a, .bl b => a == b
  | .bl a, .int b => (if a then 1 else 0) == b
  | .int a, .bl b => a == (if b then 1 else 0)
  | .int a, .int b => a == b
  | .str a, .str b => a == b
  | _, _ => false
theorem flat_V {F H : Hp} {d : D} {v : V} (w : Vw K F H d v) (h : flatD d = true) : flatV v = true := by
  cases d <;> first
    | (cases h; done)
    | (first | cases w.int | cases w.str | cases w.bl | cases w.non
       rfl)
theorem eqF_V {F H : Hp} {d e : D} {v u : V} (w : Vw K F H d v) (w' : Vw K F H e u) (h : flatD d = true) (h' : flatD e = true) : eqV v u = eqF d e := by
  cases d <;> first
    | (cases h; done)
    | (cases e <;> first
        | (cases h'; done)
        | (first | cases w.int | cases w.str | cases w.bl | cases w.non
           first | cases w'.int | cases w'.str | cases w'.bl | cases w'.non
           rfl))
theorem flats_V {F H : Hp} : ∀ {ds : List D} {vs : List V}, Reps K F ds vs → ds.all flatD = true → vs.all flatV = true
  | _, _, .nil, _ => rfl
  | _, _, .cons r t, h => by
    rw [List.all_cons, Bool.and_eq_true] at h ⊢
    exact ⟨flat_V (H := H) (.fz r) h.1, flats_V (H := H) t h.2⟩
theorem inF_V {F H : Hp} {d : D} {v : V} (w : Vw K F H d v) (h : flatD d = true) : ∀ {ds : List D} {vs : List V}, Reps K F ds vs → ds.all flatD = true → inV v vs = ds.any fun z => eqF z d
  | _, _, .nil, _ => rfl
  | _, _, .cons r t, hh => by
    rw [List.all_cons, Bool.and_eq_true] at hh
    show ((eqV _ v) || inV v _) = _
    rw [List.any_cons, inF_V w h t hh.2, eqF_V (.fz r) w hh.1 h]
def pInF (neg : Bool) : List D → Option Out := fun ds => match ds with
  | [x, .lst xs] => if flatD x && xs.all flatD then some (.d (.bl (if neg then !xs.any (fun z => eqF z x) else xs.any fun z => eqF z x))) else none
  | [x, .tup xs] => if flatD x && xs.all flatD then some (.d (.bl (if neg then !xs.any (fun z => eqF z x) else xs.any fun z => eqF z x))) else none
  | _ => none
def pInD (neg : Bool) : List D → Option Out := fun ds => match ds with
  | [x, .lst xs] => if SeqAt.shaped x.py && SeqAt.shaped (D.lst xs).py then some (.d (.bl (if neg then !(D.pys xs).any (fun z => PyData.eqv z x.py) else (D.pys xs).any fun z => PyData.eqv z x.py))) else none
  | _ => none
/-- a sign in a text -/
def sign1 (x : Str) : Option Nat := match x.cps.toList with | [c] => some c | _ => none
def pInS (neg : Bool) : List D → Option Out := fun ds => match ds with
  | [.str a, .str z] => (sign1 a).map fun c => .d (.bl (if neg then !decide (c ∈ z.cps.toList) else decide (c ∈ z.cps.toList)))
  | _ => none
theorem sign1_of {x : Str} {c : Nat} (h : sign1 x = some c) : x = ⟨#[c]⟩ := by
  unfold sign1 at h
  split at h
  · rename_i e
    cases h
    cases x with
    | mk cps => exact congrArg Str.mk (Array.toList_inj.mp e)
  · cases h
theorem o_inF (neg : Bool) : OutOp K (l2 (rIn K neg)) (pInF neg) := by
  refine out_2 (fun a b o e => ?_) (fun ds h => ?_) fun F H a b x y d s h1 h2 e => ?_
  · unfold pInF at e; split at e <;> first
      | (split at e <;> first | (cases e; exact ⟨_, rfl⟩) | cases e)
      | cases e
  · unfold pInF; split <;> first | (exact absurd rfl (h _ _)) | rfl
  · unfold pInF at e; split at e
    · rename_i xs q
      cases q
      split at e
      · rename_i hc
        rw [Bool.and_eq_true] at hc
        cases e
        obtain ⟨p, vs, rfl, hp, rv⟩ := h2.lst s
        refine ⟨_, .bl _, fun Q q => ⟨p, vs, rfl, .inl (SqL.of hp), flat_V h1 hc.1, flats_V (H := H) rv hc.2, ?_⟩⟩
        rw [inF_V h1 hc.1 rv hc.2]; exact q
      · cases e
    · rename_i xs q
      cases q
      split at e
      · rename_i hc
        rw [Bool.and_eq_true] at hc
        cases e
        obtain ⟨p, vs, rfl, hp, rv⟩ := h2.tup
        refine ⟨_, .bl _, fun Q q => ⟨p, vs, rfl, .inr (SqT_mono s hp), flat_V h1 hc.1, flats_V (H := H) rv hc.2, ?_⟩⟩
        rw [inF_V h1 hc.1 rv hc.2]; exact q
      · cases e
    · cases e
theorem o_inD (neg : Bool) {r : R2} (hr : ∀ x y H d ds (Q : VK), Dp K H x d → Dp K H y (.list ds) → SeqAt.shaped d = true → SeqAt.shaped (.list ds) = true → Q (.bl (if neg then !ds.any (fun z => PyData.eqv z d) else ds.any fun z => PyData.eqv z d)) H → r x y H Q) : OutOp K (l2 r) (pInD neg) := by
  refine out_2 (fun a b o e => ?_) (fun ds h => ?_) fun F H a b x y d s h1 h2 e => ?_
  · unfold pInD at e; split at e <;> first
      | (split at e <;> first | (cases e; exact ⟨_, rfl⟩) | cases e)
      | cases e
  · unfold pInD; split <;> first | (exact absurd rfl (h _ _)) | rfl
  · unfold pInD at e; split at e
    · rename_i xs q
      cases q
      split at e
      · rename_i hc
        rw [Bool.and_eq_true] at hc
        cases e
        have hy := h2.dp s hc.2
        exact ⟨_, .bl _, fun Q q => hr x y H _ (D.pys xs) Q (h1.dp s hc.1) hy hc.1 hc.2 q⟩
      · cases e
    · cases e
theorem o_inS (neg : Bool) {r : R2} (hr : ∀ c z H (Q : VK), Q (.bl (if neg then !decide (c ∈ z.cps.toList) else decide (c ∈ z.cps.toList))) H → r (.str ⟨#[c]⟩) (.str z) H Q) : OutOp K (l2 r) (pInS neg) := by
  refine out_2 (fun a b o e => ?_) (fun ds h => ?_) fun F H a b x y d s h1 h2 e => ?_
  · unfold pInS at e; split at e
    · rename_i u z q
      cases q
      cases q : sign1 u with
      | none => rw [q] at e; cases e
      | some c => rw [q] at e; cases e; exact ⟨_, rfl⟩
    · cases e
  · unfold pInS; split <;> first | (exact absurd rfl (h _ _)) | rfl
  · unfold pInS at e; split at e
    · rename_i u z q
      cases q
      cases q : sign1 u with
      | none => rw [q] at e; cases e
      | some c =>
        rw [q] at e; cases e
        cases h1.str
        cases h2.str
        rw [sign1_of q]
        exact ⟨_, .bl _, fun Q q => hr c z H Q q⟩
    · cases e
def pIn := orP (pInF false) (orP (pInD false) (pInS false))
def pNotIn := orP (pInF true) (orP (pInD true) (pInS true))
def rInA (K : KF) : R2 := fun x y H Q => rIn K false x y H Q ∨ (rInD K x y H Q ∨ ∃ (c : Nat) (z : Str), x = .str ⟨#[c]⟩ ∧ y = .str z ∧ Q (.bl (decide (c ∈ z.cps.toList))) H)
def rNotInA (K : KF) : R2 := fun x y H Q => rIn K true x y H Q ∨ (rNotInD K x y H Q ∨ ∃ (c : Nat) (z : Str), x = .str ⟨#[c]⟩ ∧ y = .str z ∧ Q (.bl (!decide (c ∈ z.cps.toList))) H)
theorem o_in : OutOp K (l2 (rInA K)) pIn := (o_inF false).or2 ((o_inD false fun x y H d ds Q a b c e q => ⟨d, ds, a, b, c, e, q⟩).or2 (o_inS false fun c z H Q q => ⟨c, z, rfl, rfl, q⟩))
theorem o_notIn : OutOp K (l2 (rNotInA K)) pNotIn := (o_inF true).or2 ((o_inD true fun x y H d ds Q a b c e q => ⟨d, ds, a, b, c, e, q⟩).or2 (o_inS true fun c z H Q q => ⟨c, z, rfl, rfl, q⟩))
end
section
variable {X : Cx}
theorem op_inA (hu : X.A.units + 65 < cLine) : OpR X (compareOp .In) (rInA X.K) := op_in_seq.or ((op_inD hu).or op_in_sign)
theorem op_notInA (hu : X.A.units + 65 < cLine) : OpR X (compareOp .NotIn) (rNotInA X.K) := op_notIn_seq.or ((op_notInD hu).or op_notIn_sign)
end
/-! is None -/
section
variable {K : KF}
def isNonD : D → Bool
  | .non => true
  | _ => false
def pIsN (neg : Bool) : List D → Option Out := fun ds => match ds with
  | [x, .non] => some (.d (.bl (if neg then !isNonD x else isNonD x)))
  | _ => none
theorem isNon_V {F H : Hp} {d : D} {v : V} (w : Vw K F H d v) : decide (v = .non) = isNonD d := by
  cases w with
  | fz r => cases r <;> simp [isNonD]
  | ol _ _ => simp [isNonD]
  | oK _ _ _ => simp [isNonD]
  | oT _ _ _ => simp [isNonD]
theorem o_isN : OutOp K (l2 fun x y H Q => y = .non ∧ Q (.bl (decide (x = .non))) H) (pIsN false) := by
  refine out_2 (fun a b o e => ?_) (fun ds h => ?_) fun F H a b x y d s h1 h2 e => ?_
  · unfold pIsN at e; split at e <;> first | (cases e; exact ⟨_, rfl⟩) | cases e
  · unfold pIsN; split <;> first | (exact absurd rfl (h _ _)) | rfl
  · unfold pIsN at e; split at e
    · rename_i q; cases q; cases e
      exact ⟨_, .bl _, fun Q q => ⟨h2.non, by rw [isNon_V h1]; exact q⟩⟩
    · cases e
theorem o_notN : OutOp K (l2 fun x y H Q => y = .non ∧ Q (.bl (!decide (x = .non))) H) (pIsN true) := by
  refine out_2 (fun a b o e => ?_) (fun ds h => ?_) fun F H a b x y d s h1 h2 e => ?_
  · unfold pIsN at e; split at e <;> first | (cases e; exact ⟨_, rfl⟩) | cases e
  · unfold pIsN; split <;> first | (exact absurd rfl (h _ _)) | rfl
  · unfold pIsN at e; split at e
    · rename_i q; cases q; cases e
      exact ⟨_, .bl _, fun Q q => ⟨h2.non, by rw [isNon_V h1]; exact q⟩⟩
    · cases e

/-! ### an item, a cut, the length -/
theorem atI_reps {F : Hp} {ds : List D} {vs : List V} {i : Int} {d : D} (r : Reps K F ds vs) (e : atI ds i = some d) : ∃ v, atI vs i = some v ∧ Rep K F d v := by
  unfold atI at e ⊢
  rw [← r.length]
  cases q : ixN ds.length i with
  | none => rw [q] at e; cases e
  | some j => rw [q] at e; exact r.get e
def pIx : List D → Option Out := fun ds => match ds with
  | [.lst xs, .int i] => (atI xs i).map .d
  | [.tup xs, .int i] => (atI xs i).map .d
  | [.scr ns, .int i] => (atI ns i).map fun n => .d (.int n)
  | [.str z, .int i] => if z.length ≤ 1000000 then (atI z.cps.toList i).map fun c => .d (.str ⟨#[c]⟩) else none
  | _ => none
theorem o_ix : OutOp K (l2 (rIx K)) pIx := by
  refine out_2 (fun a b o e => ?_) (fun ds h => ?_) fun F H a b x y d s h1 h2 e => ?_
  · unfold pIx at e; split at e
    · obtain ⟨d, _, h⟩ := Option.map_eq_some_iff.mp e; exact ⟨d, h.symm⟩
    · obtain ⟨d, _, h⟩ := Option.map_eq_some_iff.mp e; exact ⟨d, h.symm⟩
    · obtain ⟨d, _, h⟩ := Option.map_eq_some_iff.mp e; exact ⟨_, h.symm⟩
    · split at e
      · obtain ⟨d, _, h⟩ := Option.map_eq_some_iff.mp e; exact ⟨_, h.symm⟩
      · cases e
    · cases e
  · unfold pIx; split <;> first | (exact absurd rfl (h _ _)) | rfl
  · unfold pIx at e; split at e
    · rename_i xs i q; cases q
      obtain ⟨d', hd, h⟩ := Option.map_eq_some_iff.mp e; cases h
      obtain ⟨p, vs, rfl, hp, rv⟩ := h1.lst s
      cases h2.int
      obtain ⟨v, hv, r⟩ := atI_reps rv hd
      exact ⟨v, r, fun Q q => .inl ⟨p, vs, i, v, rfl, rfl, SqL.of hp, hv, q⟩⟩
    · rename_i xs i q; cases q
      obtain ⟨d', hd, h⟩ := Option.map_eq_some_iff.mp e; cases h
      obtain ⟨p, vs, rfl, hp, rv⟩ := h1.tup
      cases h2.int
      obtain ⟨v, hv, r⟩ := atI_reps rv hd
      exact ⟨v, r, fun Q q => .inr (.inl ⟨p, vs, i, v, rfl, rfl, SqT_mono s hp, hv, q⟩)⟩
    · rename_i ns i q; cases q
      obtain ⟨n, hd, h⟩ := Option.map_eq_some_iff.mp e; cases h
      obtain ⟨p, rfl, hp⟩ := h1.scr
      cases h2.int
      refine ⟨.int n, .int n, fun Q q => .inl ⟨p, ns.map V.int, i, .int n, rfl, rfl, s.seq hp, ?_, q⟩⟩
      unfold atI at hd ⊢
      rw [List.length_map]
      cases q : ixN ns.length i with
      | none => rw [q] at hd; cases hd
      | some j =>
        rw [q] at hd
        have hd : ns[j]? = some n := hd
        show (ns.map V.int)[j]? = _
        rw [List.getElem?_map, hd]; rfl
    · rename_i z i q; cases q
      split at e
      · rename_i hc
        obtain ⟨c, hd, h⟩ := Option.map_eq_some_iff.mp e; cases h
        cases h1.str
        cases h2.int
        exact ⟨_, .str _, fun Q q => .inr (.inr ⟨z, i, c, rfl, rfl, line_1m hc, hd, q⟩)⟩
      · cases e
    · cases e
@[simp] def pLen : List D → Option Out := fun ds => match ds with
  | [.lst xs] => some (.d (.int xs.length))
  | [.tup xs] => some (.d (.int xs.length))
  | [.scr ns] => some (.d (.int ns.length))
  | [.str z] => if z.length ≤ 1000000 then some (.d (.int z.length)) else none
  | _ => none
theorem o_len : OutOp K (fun xs H Q => ∃ x n, xs = [x] ∧ LenV K x H n ∧ Q (.int n) H) pLen := by
  refine out_1 (fun ds h => ?_) fun F H a x s w => ⟨fun d e => ?_, fun out e => ?_⟩
  · unfold pLen; split <;> first | (exact absurd rfl (h _)) | rfl
  · unfold pLen at e; split at e
    · rename_i xs q; cases q; cases e
      obtain ⟨p, vs, rfl, hp, rv⟩ := w.lst s
      exact ⟨_, .int _, fun Q q => ⟨_, _, rfl, .inl ⟨vs, SqL.of hp, rv.length⟩, q⟩⟩
    · rename_i xs q; cases q; cases e
      obtain ⟨p, vs, rfl, hp, rv⟩ := w.tup
      exact ⟨_, .int _, fun Q q => ⟨_, _, rfl, .inr ⟨vs, SqT_mono s hp, rv.length⟩, q⟩⟩
    · rename_i ns q; cases q; cases e
      obtain ⟨p, rfl, hp⟩ := w.scr
      exact ⟨_, .int _, fun Q q => ⟨_, _, rfl, .inl ⟨_, s.seq hp, by rw [List.length_map]⟩, q⟩⟩
    · rename_i z q; cases q
      split at e
      · rename_i hc
        cases e
        cases w.str
        exact ⟨_, .int _, fun Q q => ⟨_, _, rfl, ⟨line_1m hc, rfl⟩, q⟩⟩
      · cases e
    · cases e
  · unfold pLen at e; split at e <;> first | cases e | (split at e <;> cases e)
end

/-! ### cuts -/
section
variable {K : KF} {cl : Str → Addr} {W : WX}
theorem OKV.carry0 {F H F' H' : Hp} {ρ ρ' : List T} {σ : St} {rs : List R} {vs : List V} {fp ft fp' : List Addr} (a : OKV K F H ρ σ rs vs fp ft) (e : Ext F H fp F' H' fp') (b : OK K F' H' ρ' σ fp') : OKV K F' H' ρ' σ rs vs fp' ft := by
  have e' : Ext F H fp F' H' (fp' ++ []) := by rw [List.append_nil]; exact e
  have := a.carry e' b
  simpa using this
theorem Ext.carry0 {F H F' H' F'' H'' : Hp} {fp fp' fp'' ft : List Addr} (e : Ext F H fp F' H' (fp' ++ ft)) (e' : Ext F' H' fp' F'' H'' fp'') : Ext F H fp F'' H'' (fp'' ++ ft) := by
  have e2 : Ext F' H' fp' F'' H'' (fp'' ++ []) := by rw [List.append_nil]; exact e'
  have := e.carry e2
  simpa using this
def PostO (K : KF) (cl : Str → Addr) (W : WX) (σ : St) (F H : Hp) (fp : List Addr) (x : ER (Option Int)) (Q : Option Int → Hp → Prop) : Prop :=
  match x with
  | .ok b ρ => ∀ F' H' fp', Ext F H fp F' H' fp' → OK K F' H' ρ σ fp' → Q b H'
  | .exc c ρ => PostX K cl W σ F H fp c ρ
  | .stuck => False
def SndO (K : KF) (cl : Str → Addr) (W : WX) (t : TO) (g : List T → ER (Option Int)) : Prop := ∀ F H ρ σ fp Q, OK K F H ρ σ fp → PostO K cl W σ F H fp (g ρ) Q → t σ H Q
def oNone : List T → ER (Option Int) := fun ρ => .ok none ρ
def oSome (g : List T → ER R) : List T → ER (Option Int) := fun ρ => (g ρ).bind fun r ρ1 => optE r.z fun d => match d with | .int i => .ok (some i) ρ1 | _ => .stuck
theorem so_none : SndO K cl W tNoPart oNone := fun F H ρ σ fp Q o p => p F H fp Ext.refl o
theorem so_some {t : TE} {g : List T → ER R} (h : SndE K cl W t g) : SndO K cl W (tPart t) (oSome g) := by
  intro F H ρ σ fp Q o p
  refine h _ _ _ _ _ _ o ?_
  unfold oSome at p
  cases q : g ρ with
  | stuck => rw [q] at p; exact p
  | exc c ρ1 => rw [q] at p; exact p
  | ok r ρ1 =>
    rw [q] at p
    intro F1 H1 v fp1 ft1 e1 o1
    have p1 : PostO K cl W σ F H fp (optE r.z fun d => match d with | .int i => .ok (some i) ρ1 | _ => .stuck) Q := p
    clear p
    cases qz : r.z with
    | none => rw [qz] at p1; exact p1.elim
    | some d =>
      rw [qz] at p1
      obtain ⟨_, rv⟩ := o1.z qz
      cases d with
      | int i => cases rv; exact ⟨i, rfl, p1 F1 H1 fp1 e1.drop o1.ok⟩
      | _ => exact p1.elim
def cutD (xs : List D) (lo hi : Option Int) : List D := (xs.drop (HT.sIx xs.length 0 lo)).take (HT.sIx xs.length xs.length hi - HT.sIx xs.length 0 lo)
theorem cut_reps {F : Hp} {ds : List D} {vs : List V} (r : Reps K F ds vs) (lo hi : Option Int) : Reps K F (cutD ds lo hi) (cutV vs lo hi) := by
  unfold cutD cutV
  rw [← r.length]
  exact (r.drop _).take _
def rSlA (K : KF) : V → Option Int → Option Int → Hp → VK → Prop := fun x lo hi H Q => rSlL K x lo hi H Q ∨ rSlS x lo hi H Q
@[simp] def pSl (d : D) (lo hi : Option Int) : Option Out := match d with
  | .lst xs => some (.nl (cutD xs lo hi))
  | .str z => if z.length ≤ 1000000 then some (.d (.str (cutS z lo hi))) else none
  | _ => none
/-- one value, then numbers -/
def eSl (go : List T → ER R) (gl gh : List T → ER (Option Int)) : List T → ER R := fun ρ =>
  (go ρ).bind fun r ρ1 => (gl ρ1).bind fun lo ρ2 => (gh ρ2).bind fun hi ρ3 => fOut (fun ds => match ds with | [d] => pSl d lo hi | _ => none) ρ3 [r]
theorem o_sl (lo hi : Option Int) : OutOp K (l1 fun x H Q => rSlA K x lo hi H Q) (fun ds => match ds with | [d] => pSl d lo hi | _ => none) := by
  refine out_1 (fun ds h => ?_) fun F H a x s w => ⟨fun d e => ?_, fun out e => ?_⟩
  · split <;> first | (exact absurd rfl (h _)) | rfl
  · have e : pSl a lo hi = some (.d d) := e
    unfold pSl at e; split at e
    · cases e
    · split at e
      · rename_i z hc
        cases e
        cases w.str
        exact ⟨_, .str _, fun Q q => .inr ⟨_, rfl, line_1m hc, q⟩⟩
      · cases e
    · cases e
  · have e : pSl a lo hi = some (.nl out) := e
    unfold pSl at e; split at e
    · cases e
      obtain ⟨p, vs, rfl, hp, rv⟩ := w.lst s
      exact ⟨_, cut_reps rv lo hi, fun Q q => .inl ⟨p, vs, rfl, SqL.of hp, q⟩⟩
    · split at e <;> cases e
    · cases e
theorem e_slice {te : TE} {tl th : TO} {go : List T → ER R} {gl gh : List T → ER (Option Int)} (ho : SndE K cl W te go) (hl : SndO K cl W tl gl) (hh : SndO K cl W th gh) : SndE K cl W (tSl (rSlA K) te tl th) (eSl go gl gh) := by
  intro F H ρ σ fp Q o p
  refine ho _ _ _ _ _ _ o ?_
  unfold eSl at p
  cases q : go ρ with
  | stuck => rw [q] at p; exact p
  | exc c ρ1 => rw [q] at p; exact p
  | ok r ρ1 =>
    rw [q] at p
    intro F1 H1 v fp1 ft1 e1 o1
    refine hl _ _ _ _ _ _ o1.ok ?_
    have p1 : PostE K cl W σ F H fp ((gl ρ1).bind fun lo ρ2 => (gh ρ2).bind fun hi ρ3 => fOut (fun ds => match ds with | [d] => pSl d lo hi | _ => none) ρ3 [r]) Q := p
    clear p
    cases q2 : gl ρ1 with
    | stuck => rw [q2] at p1; exact p1
    | exc c ρ2 => rw [q2] at p1; exact PostX.mono e1.drop p1
    | ok lo ρ2 =>
      rw [q2] at p1
      intro F2 H2 fp2 e2 o2
      have o12 := o1.carry0 e2 o2
      have e12 := e1.carry0 e2
      refine hh _ _ _ _ _ _ o12.ok ?_
      have p2 : PostE K cl W σ F H fp ((gh ρ2).bind fun hi ρ3 => fOut (fun ds => match ds with | [d] => pSl d lo hi | _ => none) ρ3 [r]) Q := p1
      clear p1
      cases q3 : gh ρ2 with
      | stuck => rw [q3] at p2; exact p2
      | exc c ρ3 => rw [q3] at p2; exact PostX.mono e12.drop p2
      | ok hi ρ3 =>
        rw [q3] at p2
        intro F3 H3 fp3 e3 o3
        have o13 := o12.carry0 e3 o3
        have e13 := e12.carry0 e3
        exact out_op (o_sl lo hi) F3 H3 ρ3 σ fp3 ft1 [r] [v] Q o13 (PostE.mono e13 p2)
/-- xs[::-1] -/
@[simp] def pRev : List D → Option Out := fun ds => match ds with | [.lst xs] => some (.nl xs.reverse) | _ => none
theorem o_rev : OutOp K (l1 fun x H1 Q => ∃ a xs, x = .ref a ∧ SqL K H1 a xs ∧ ∀ p, H1 p = none → Q (.ref p) (upd H1 p (.lst xs.reverse))) pRev := by
  refine out_1 (fun ds h => ?_) fun F H a x s w => ⟨fun d e => ?_, fun out e => ?_⟩
  · unfold pRev; split <;> first | (exact absurd rfl (h _)) | rfl
  · unfold pRev at e; split at e <;> cases e
  · unfold pRev at e; split at e
    · rename_i xs q; cases q; cases e
      obtain ⟨p, vs, rfl, hp, rv⟩ := w.lst s
      exact ⟨_, rv.reverse, fun Q q => ⟨p, vs, rfl, SqL.of hp, q⟩⟩
    · cases e
theorem e_rev {te : TE} {go : List T → ER R} (ho : SndE K cl W te go) : SndE K cl W (tRevL K te) (eO pRev (aCons go aNil)) := e_call (out_op o_rev) (a_cons ho a_nil)
end
section
variable {X : Cx}
theorem sl_any : SlR X (rSlA X.K) := sl_list.or sl_str
end
end DL

set_option Elab.async false
set_option linter.all false
set_option maxRecDepth 100000
namespace DL
open PySem PySem.Spec L2

section
variable {K : KF}
/-! ### calls of built-ins -/
theorem out_one {r : List V → Hp → VK → Prop} {p : D → Option D} (h : ∀ F H a x d, Same F H → Vw K F H a x → p a = some d → ∃ v, Rep K F d v ∧ ∀ Q : VK, Q v H → r [x] H Q) : OutOp K r (fun ds => match ds with | [a] => (p a).map .d | _ => none) := by
  refine out_1 (fun ds h => ?_) fun F H a x s w => ⟨fun d e => ?_, fun out e => ?_⟩
  · split <;> first | (exact absurd rfl (h _)) | rfl
  · have e : (p a).map Out.d = some (.d d) := e
    obtain ⟨d', hd, q⟩ := Option.map_eq_some_iff.mp e
    cases q
    exact h F H a x d s w hd
  · have e : (p a).map Out.d = some (.nl out) := e
    obtain ⟨d', hd, q⟩ := Option.map_eq_some_iff.mp e
    cases q
theorem out_oneN {r : List V → Hp → VK → Prop} {p : D → Option (List D)} (h : ∀ F H a x out, Same F H → Vw K F H a x → p a = some out → ∃ xs, Reps K F out xs ∧ ∀ Q : VK, (∀ l, H l = none → Q (.ref l) (upd H l (.lst xs))) → r [x] H Q) : OutOp K r (fun ds => match ds with | [a] => (p a).map .nl | _ => none) := by
  refine out_1 (fun ds h => ?_) fun F H a x s w => ⟨fun d e => ?_, fun out e => ?_⟩
  · split <;> first | (exact absurd rfl (h _)) | rfl
  · have e : (p a).map Out.nl = some (.d d) := e
    obtain ⟨d', hd, q⟩ := Option.map_eq_some_iff.mp e
    cases q
  · have e : (p a).map Out.nl = some (.nl out) := e
    obtain ⟨d', hd, q⟩ := Option.map_eq_some_iff.mp e
    cases q
    exact h F H a x out s w hd
def p1 (p : D → Option D) : List D → Option Out := fun ds => match ds with | [a] => (p a).map .d | _ => none
def p1N (p : D → Option (List D)) : List D → Option Out := fun ds => match ds with | [a] => (p a).map .nl | _ => none
@[simp] def strD : D → Option D
  | .int i => if i.natAbs.log2 < 1920 then some (.str (Str.ofString (toString i))) else none
  | _ => none
theorem o_str : OutOp K (fun xs H Q => ∃ i, xs = [.int i] ∧ i.natAbs.log2 < 1920 ∧ Q (.str (toString i)) H) (p1 strD) := out_one fun F H a x d s w e => by
  unfold strD at e; split at e
  · split at e
    · rename_i hc; cases e; cases w.int
      exact ⟨_, .str _, fun Q q => ⟨_, rfl, hc, q⟩⟩
    · cases e
  · cases e
@[simp] def intD : D → Option D
  | .int i => some (.int i)
  | .bl k => some (.int (if k then 1 else 0))
  | .str a => if a.length ≤ 640 then (PySem.intText? a).map .int else none
  | _ => none
def rIntA : List V → Hp → VK → Prop := fun xs H Q => ((∃ i, xs = [.int i] ∧ Q (.int i) H) ∨ ∃ k, xs = [.bl k] ∧ Q (.int (if k then 1 else 0)) H) ∨ ∃ a n, xs = [.str a] ∧ PySem.intText? a = some n ∧ a.length ≤ 640 ∧ Q (.int n) H
theorem o_int : OutOp K rIntA (p1 intD) := out_one fun F H a x d s w e => by
  unfold intD at e; split at e
  · cases e; cases w.int; exact ⟨_, .int _, fun Q q => .inl (.inl ⟨_, rfl, q⟩)⟩
  · cases e; cases w.bl; exact ⟨_, .int _, fun Q q => .inl (.inr ⟨_, rfl, q⟩)⟩
  · split at e
    · rename_i z hc
      obtain ⟨n, hn, q⟩ := Option.map_eq_some_iff.mp e
      cases q; cases w.str
      exact ⟨_, .int _, fun Q q => .inr ⟨_, n, rfl, hn, hc, q⟩⟩
    · cases e
  · cases e
@[simp] def absD : D → Option D
  | .int i => some (.int (if i < 0 then -i else i))
  | _ => none
theorem o_abs : OutOp K (fun xs H Q => ∃ i, xs = [.int i] ∧ Q (.int (if i < 0 then -i else i)) H) (p1 absD) := out_one fun F H a x d s w e => by
  unfold absD at e; split at e
  · cases e; cases w.int; exact ⟨_, .int _, fun Q q => ⟨_, rfl, q⟩⟩
  · cases e
def pMax2 := pII (fun _ _ => true) fun i j => .int (if j > i then j else i)
def pMin2 := pII (fun _ _ => true) fun i j => .int (if j < i then j else i)
theorem o_max2 : OutOp K (fun xs H Q => ∃ i j, xs = [.int i, .int j] ∧ Q (.int (if j > i then j else i)) H) pMax2 :=
  (out_II (r := fun x y H Q => ∃ i j, x = .int i ∧ y = .int j ∧ Q (.int (if j > i then j else i)) H) (fun _ _ _ => .int _) fun i j H Q _ q => ⟨i, j, rfl, rfl, q⟩).imp fun vs H Q h => by
    rcases vs with _ | ⟨x, _ | ⟨y, _ | ⟨z, t⟩⟩⟩ <;> first | exact h.elim | (obtain ⟨i, j, rfl, rfl, q⟩ := h; exact ⟨i, j, rfl, q⟩)
theorem o_min2 : OutOp K (fun xs H Q => ∃ i j, xs = [.int i, .int j] ∧ Q (.int (if j < i then j else i)) H) pMin2 :=
  (out_II (r := fun x y H Q => ∃ i j, x = .int i ∧ y = .int j ∧ Q (.int (if j < i then j else i)) H) (fun _ _ _ => .int _) fun i j H Q _ q => ⟨i, j, rfl, rfl, q⟩).imp fun vs H Q h => by
    rcases vs with _ | ⟨x, _ | ⟨y, _ | ⟨z, t⟩⟩⟩ <;> first | exact h.elim | (obtain ⟨i, j, rfl, rfl, q⟩ := h; exact ⟨i, j, rfl, q⟩)
/-- whole numbers all -/
@[simp] def asInts : List D → Option (List Int)
  | [] => some []
  | .int i :: ds => (asInts ds).map (i :: ·)
  | _ :: _ => none
theorem asInts_eq : ∀ {ds : List D} {ns : List Int}, asInts ds = some ns → ds = ns.map D.int
  | [], ns, e => by cases e; rfl
  | d :: ds, ns, e => by
    unfold asInts at e
    split at e
    · rename_i q; cases q
    · rename_i i ds' q
      cases q
      obtain ⟨m, hm, q⟩ := Option.map_eq_some_iff.mp e
      cases q
      rw [asInts_eq hm]; rfl
    · cases e
theorem asInts_map : ∀ ns : List Int, asInts (ns.map D.int) = some ns
  | [] => rfl
  | n :: ns => by rw [List.map_cons, asInts, asInts_map ns]; rfl
def asStrs : List D → Option (List Str)
  | [] => some []
  | .str i :: ds => (asStrs ds).map (i :: ·)
  | _ :: _ => none
theorem asStrs_eq : ∀ {ds : List D} {ns : List Str}, asStrs ds = some ns → ds = ns.map D.str
  | [], ns, e => by cases e; rfl
  | d :: ds, ns, e => by
    unfold asStrs at e
    split at e
    · rename_i q; cases q
    · rename_i i ds' q
      cases q
      obtain ⟨m, hm, q⟩ := Option.map_eq_some_iff.mp e
      cases q
      rw [asStrs_eq hm]; rfl
    · cases e
theorem asStrs_map : ∀ ns : List Str, asStrs (ns.map D.str) = some ns
  | [] => rfl
  | n :: ns => by rw [List.map_cons, asStrs, asStrs_map ns]; rfl
def maxL : List Int → Int
  | [] => 0
  | n :: ns => ns.foldl (fun a b => if b > a then b else a) n
def minL : List Int → Int
  | [] => 0
  | n :: ns => ns.foldl (fun a b => if b < a then b else a) n
theorem maxF_spec : ∀ (ns : List Int) (n : Int), (ns.foldl (fun a b => if b > a then b else a) n = n ∨ ns.foldl (fun a b => if b > a then b else a) n ∈ ns) ∧ n ≤ ns.foldl (fun a b => if b > a then b else a) n ∧ ∀ y ∈ ns, y ≤ ns.foldl (fun a b => if b > a then b else a) n
  | [], n => ⟨.inl rfl, Int.le_refl _, fun _ h => by cases h⟩
  | m :: ns, n => by
    obtain ⟨h1, h2, h3⟩ := maxF_spec ns (if m > n then m else n)
    rw [List.foldl_cons]
    have hm : m ≤ (if m > n then m else n) ∧ n ≤ (if m > n then m else n) ∧ ((if m > n then m else n) = m ∨ (if m > n then m else n) = n) := by split <;> omega
    refine ⟨?_, by omega, fun y hy => ?_⟩
    · rcases h1 with h | h
      · rcases hm.2.2 with z | z
        · exact .inr (by rw [h, z]; simp)
        · exact .inl (by rw [h, z])
      · exact .inr (by simp [h])
    · rcases List.mem_cons.mp hy with rfl | hy
      · omega
      · exact h3 y hy
theorem minF_spec : ∀ (ns : List Int) (n : Int), (ns.foldl (fun a b => if b < a then b else a) n = n ∨ ns.foldl (fun a b => if b < a then b else a) n ∈ ns) ∧ ns.foldl (fun a b => if b < a then b else a) n ≤ n ∧ ∀ y ∈ ns, ns.foldl (fun a b => if b < a then b else a) n ≤ y
  | [], n => ⟨.inl rfl, Int.le_refl _, fun _ h => by cases h⟩
  | m :: ns, n => by
    obtain ⟨h1, h2, h3⟩ := minF_spec ns (if m < n then m else n)
    rw [List.foldl_cons]
    have hm : (if m < n then m else n) ≤ m ∧ (if m < n then m else n) ≤ n ∧ ((if m < n then m else n) = m ∨ (if m < n then m else n) = n) := by split <;> omega
    refine ⟨?_, by omega, fun y hy => ?_⟩
    · rcases h1 with h | h
      · rcases hm.2.2 with z | z
        · exact .inr (by rw [h, z]; simp)
        · exact .inl (by rw [h, z])
      · exact .inr (by simp [h])
    · rcases List.mem_cons.mp hy with rfl | hy
      · omega
      · exact h3 y hy
theorem maxL_spec {ns : List Int} (h : ns ≠ []) : maxL ns ∈ ns ∧ ∀ y ∈ ns, y ≤ maxL ns := by
  cases ns with
  | nil => exact absurd rfl h
  | cons n ns =>
    obtain ⟨h1, h2, h3⟩ := maxF_spec ns n
    refine ⟨?_, fun y hy => ?_⟩
    · show ns.foldl _ n ∈ _
      rcases h1 with h | h
      · rw [h]; simp
      · simp [h]
    · rcases List.mem_cons.mp hy with rfl | hy
      · exact h2
      · exact h3 y hy
theorem minL_spec {ns : List Int} (h : ns ≠ []) : minL ns ∈ ns ∧ ∀ y ∈ ns, minL ns ≤ y := by
  cases ns with
  | nil => exact absurd rfl h
  | cons n ns =>
    obtain ⟨h1, h2, h3⟩ := minF_spec ns n
    refine ⟨?_, fun y hy => ?_⟩
    · show ns.foldl _ n ∈ _
      rcases h1 with h | h
      · rw [h]; simp
      · simp [h]
    · rcases List.mem_cons.mp hy with rfl | hy
      · exact h2
      · exact h3 y hy
def onInts (c : List Int → Bool) (f : List Int → D) : D → Option D
  | .lst xs => (asInts xs).bind fun ns => if c ns = true then some (f ns) else none
  | .scr ns => if c ns = true then some (f ns) else none
  | _ => none
theorem onInts_of {F H : Hp} {c : List Int → Bool} {f : List Int → D} {a d : D} {x : V} (s : Same F H) (w : Vw K F H a x) (e : onInts c f a = some d) : ∃ p ns, x = .ref p ∧ SqL K H p (ns.map V.int) ∧ c ns = true ∧ d = f ns := by
  unfold onInts at e; split at e
  · rename_i xs
    cases q : asInts xs with
    | none => rw [q] at e; cases e
    | some ns =>
      rw [q] at e
      have e : (if c ns = true then some (f ns) else none) = some d := e
      split at e
      · rename_i hc
        cases e
        obtain ⟨p, vs, rfl, hp, rv⟩ := w.lst s
        rw [asInts_eq q] at rv
        rw [rv.of_ints] at hp
        exact ⟨p, ns, rfl, SqL.of hp, hc, rfl⟩
      · cases e
  · rename_i ns
    split at e
    · rename_i hc
      cases e
      obtain ⟨p, rfl, hp⟩ := w.scr
      exact ⟨p, ns, rfl, s.seq hp, hc, rfl⟩
    · cases e
  · cases e
def sumD := onInts (fun _ => true) fun ns => .int ns.sum
def maxD := onInts (fun ns => !ns.isEmpty) fun ns => .int (maxL ns)
def minD := onInts (fun ns => !ns.isEmpty) fun ns => .int (minL ns)
theorem o_sum : OutOp K (rSum K) (p1 sumD) := out_one fun F H a x d s w e => by
  obtain ⟨p, ns, rfl, h, _, rfl⟩ := onInts_of s w e
  exact ⟨_, .int _, fun Q q => ⟨p, ns, rfl, h, q⟩⟩
theorem ne_of_emp {ns : List Int} (h : (!ns.isEmpty) = true) : ns ≠ [] := by
  rintro rfl; cases h
theorem o_max : OutOp K (rMax K) (p1 maxD) := out_one fun F H a x d s w e => by
  obtain ⟨p, ns, rfl, h, hc, rfl⟩ := onInts_of s w e
  have ne := ne_of_emp hc
  obtain ⟨m1, m2⟩ := maxL_spec ne
  refine ⟨_, .int _, fun Q q => ⟨p, ns, rfl, h, List.length_pos_iff.mpr ne, fun m h1 h2 => ?_⟩⟩
  have : m = maxL ns := Int.le_antisymm (m2 m h1) (h2 _ m1)
  rw [this]; exact q
theorem o_min : OutOp K (rMin K) (p1 minD) := out_one fun F H a x d s w e => by
  obtain ⟨p, ns, rfl, h, hc, rfl⟩ := onInts_of s w e
  have ne := ne_of_emp hc
  obtain ⟨m1, m2⟩ := minL_spec ne
  refine ⟨_, .int _, fun Q q => ⟨p, ns, rfl, h, List.length_pos_iff.mpr ne, fun m h1 h2 => ?_⟩⟩
  have : m = minL ns := Int.le_antisymm (h2 _ m1) (m2 m h1)
  rw [this]; exact q
/-- list(x) -/
@[simp] def listD : D → Option (List D)
  | .lst xs => some xs
  | .tup xs => some xs
  | .scr ns => some (ns.map .int)
  | _ => none
theorem o_list : OutOp K (fun xs H Q => ∃ p ys, xs = [.ref p] ∧ (SqL K H p ys ∨ SqT K H p ys) ∧ ∀ l, H l = none → Q (.ref l) (upd H l (.lst ys))) (p1N listD) := out_oneN fun F H a x out s w e => by
  unfold listD at e; split at e
  · cases e
    obtain ⟨p, vs, rfl, hp, rv⟩ := w.lst s
    exact ⟨vs, rv, fun Q q => ⟨p, vs, rfl, .inl (SqL.of hp), q⟩⟩
  · cases e
    obtain ⟨p, vs, rfl, hp, rv⟩ := w.tup
    exact ⟨vs, rv, fun Q q => ⟨p, vs, rfl, .inr (SqT_mono s hp), q⟩⟩
  · cases e
    obtain ⟨p, rfl, hp⟩ := w.scr
    exact ⟨_, Reps.ints _, fun Q q => ⟨p, _, rfl, .inl (s.seq hp), q⟩⟩
  · cases e
/-- list(range(n)), list(range(a, b)) -/
def rgD (a b : Int) : List D := (List.range (b - a).toNat).map fun i => D.int (a + (i : Nat))
theorem rg_reps {F : Hp} (a b : Int) : Reps K F (rgD a b) (rgV a b) := by
  unfold rgD rgV
  generalize List.range (b - a).toNat = l
  induction l with
  | nil => exact .nil
  | cons i l ih => exact .cons (.int _) ih
@[simp] def bigB (i : Int) : Bool := decide (-1000000 ≤ i) && decide (i ≤ 1000000)
@[simp] def listRg1 : D → Option (List D)
  | .int n => if bigB n = true then some (rgD 0 n) else none
  | _ => none
theorem rgOk_of {a b : Int} (h : bigB a = true) (h' : bigB b = true) : RgOk a b := by
  unfold bigB at h h'
  simp only [Bool.and_eq_true, decide_eq_true_eq] at h h'
  refine ⟨by omega, by omega, by omega, by omega, ?_⟩
  have : b - a ≤ 2000000 := by omega
  have : (b - a).toNat ≤ 2000000 := by omega
  exact Nat.le_trans this (by decide)
theorem o_listRg1 : OutOp K (l1 fun x H1 Q => ∃ n, x = .int n ∧ RgOk 0 n ∧ ∀ q, H1 q = none → Q (.ref q) (upd H1 q (.lst (rgV 0 n)))) (p1N listRg1) := out_oneN fun F H a x out s w e => by
  unfold listRg1 at e; split at e
  · split at e
    · rename_i n hc
      cases e
      cases w.int
      exact ⟨_, rg_reps 0 n, fun Q q => ⟨n, rfl, rgOk_of (by rfl) hc, q⟩⟩
    · cases e
  · cases e
def pListRg2 : List D → Option Out := fun ds => match ds with
  | [.int a, .int b] => if bigB a && bigB b then some (.nl (rgD a b)) else none
  | _ => none
theorem o_listRg2 : OutOp K (l2 fun x y H1 Q => ∃ i j, x = .int i ∧ y = .int j ∧ RgOk i j ∧ ∀ q, H1 q = none → Q (.ref q) (upd H1 q (.lst (rgV i j)))) pListRg2 := by
  intro F H ds vs s w
  refine ⟨fun d e => ?_, fun out e => ?_⟩ <;> unfold pListRg2 at e <;> split at e
  · split at e <;> cases e
  · cases e
  · split at e
    · rename_i a b hc
      rw [Bool.and_eq_true] at hc
      cases e
      obtain ⟨x, y, rfl, h1, h2⟩ := w.two
      cases h1.int
      cases h2.int
      exact ⟨_, rg_reps a b, fun Q q => ⟨a, b, rfl, rfl, rgOk_of hc.1 hc.2, q⟩⟩
    · cases e
  · cases e
end
section
variable {K : KF} {cl : Str → Addr} {W : WX}
theorem e_listRg1 {ta : TE} {ga : List T → ER R} (ha : SndE K cl W ta ga) : SndE K cl W (tLstRg (tRg1 ta)) (eO (p1N listRg1) (aCons ga aNil)) := by
  intro F H ρ σ fp Q o p
  have := e_call (out_op o_listRg1) (a_cons ha a_nil) F H ρ σ fp Q o p
  have h : ta σ H fun x H1 => ∃ n, x = .int n ∧ RgOk 0 n ∧ ∀ q, H1 q = none → Q (.ref q) (upd H1 q (.lst (rgV 0 n))) := this
  exact h
theorem e_listRg2 {ta tb : TE} {ga gb : List T → ER R} (ha : SndE K cl W ta ga) (hb : SndE K cl W tb gb) : SndE K cl W (tLstRg (tRg2 ta tb)) (eO pListRg2 (aCons ga (aCons gb aNil))) := by
  intro F H ρ σ fp Q o p
  have := e_call (out_op o_listRg2) (a_cons ha (a_cons hb a_nil)) F H ρ σ fp Q o p
  have h : ta σ H fun x H1 => tb σ H1 fun y H2 => ∃ i j, x = .int i ∧ y = .int j ∧ RgOk i j ∧ ∀ q, H2 q = none → Q (.ref q) (upd H2 q (.lst (rgV i j))) := this
  exact h

/-! ### isinstance -/
inductive Cl where | int | bool | list | str | tuple | dict
def Cl.s : Cl → String
  | .int => "int"
  | .bool => "bool"
  | .list => "list"
  | .str => "str"
  | .tuple => "tuple"
  | .dict => "dict"
def tyN : D → String
  | .non => "NoneType"
  | .bl _ => "bool"
  | .int _ => "int"
  | .str _ => "str"
  | .lst _ => "list"
  | .scr _ => "list"
  | .tup _ => "tuple"
  | .dK _ _ => "dict"
  | .dT _ _ => "dict"
  | .exc _ => "?"
@[simp] def isaD : Cl → D → Bool
  | .int, .int _ => true
  | .int, .bl _ => true
  | .bool, .bl _ => true
  | .list, .lst _ => true
  | .list, .scr _ => true
  | .str, .str _ => true
  | .tuple, .tup _ => true
  | .dict, .dK _ _ => true
  | .dict, .dT _ _ => true
  | _, _ => false
@[simp] def isExc : D → Bool
  | .exc _ => true
  | _ => false
@[simp] def pIsa (c : Cl) : D → Option D := fun d => if isExc d then none else some (.bl (isaD c d))
theorem kits : ∀ a ∈ ["NoneType", "bool", "int", "str", "list", "tuple", "dict"], ∀ b ∈ ["int", "bool", "list", "str", "tuple", "dict"], kitB a b = some (a == b || (a == "bool" && b == "int")) := by decide +kernel
theorem tyx_of {F H : Hp} {d : D} {v : V} (s : Same F H) (w : Vw K F H d v) (h : isExc d = false) : TyX K H v (.type (tyN d)) := by
  cases d with
  | non => cases w.non; exact .base .non
  | bl b => cases w.bl; exact .base (.bl b)
  | int b => cases w.int; exact .base (.int b)
  | str b => cases w.str; exact .base (.str b)
  | lst ds => obtain ⟨a, vs, rfl, ha, _⟩ := w.lst s; exact .base (.lst ha)
  | scr ns =>
    obtain ⟨a, rfl, ha⟩ := w.scr
    rcases s.seq ha with (ha | ⟨o, ha⟩) | ⟨o, its, n, hk, hc, _⟩
    · exact .base (.lst ha)
    · exact .base (.frz ha)
    · exact .kList hk hc
  | tup ds =>
    obtain ⟨a, vs, rfl, ha, _⟩ := w.tup
    rcases SqT_mono s ha with (ha | ⟨o, ha⟩) | ⟨o, its, n, hk, hc, _⟩
    · exact .base (.tup ha)
    · exact .fTuple ha
    · exact .kTuple hk hc
  | dK ks ds => obtain ⟨a, vs, rfl, ha, _⟩ := w.dK s; exact .base (.dK ha)
  | dT ks ds => obtain ⟨a, vs, rfl, ha, _⟩ := w.dT s; exact .base (.dT ha)
  | exc c => cases h
theorem kit_of_d (c : Cl) (d : D) (h : isExc d = false) : PySem.W.kitOne K (.type (tyN d)) (.type c.s) = some (isaD c d) := by
  have k := kits (tyN d) (by cases d <;> first | (cases h; done) | simp [tyN]) c.s (by cases c <;> simp [Cl.s])
  rw [kit_ty k]
  cases c <;> cases d <;> first | (cases h; done) | rfl
theorem o_isa (c : Cl) : OutOp K (fun vs H Q => ∃ x, vs = [x] ∧ rIsi K [x, .ty c.s] H Q) (p1 (pIsa c)) := out_one fun F H a x d s w e => by
  unfold pIsa at e
  by_cases h : isExc a = true
  · rw [if_pos h] at e; cases e
  · rw [if_neg h] at e; cases e
    have h : isExc a = false := by simpa using h
    exact ⟨_, .bl _, fun Q q => ⟨x, rfl, x, .ty c.s, .type (tyN a), .type c.s, isaD c a, rfl, .ty _, tyx_of s w h, kit_of_d c a h, q⟩⟩
theorem e_isa (c : Cl) {ta : TE} {ga : List T → ER R} (ha : SndE K cl W ta ga) : SndE K cl W (tCB (rIsi K) (tCons ta (tCons (tC (.ty c.s)) tNil))) (eO (p1 (pIsa c)) (aCons ga aNil)) := by
  intro F H ρ σ fp Q o p
  have h : ta σ H fun x H1 => ∃ x', [x] = [x'] ∧ rIsi K [x', .ty c.s] H1 Q := e_call (out_op (o_isa c)) (a_cons ha a_nil) F H ρ σ fp Q o p
  -- the same reading
  show ta σ H fun x H1 => rIsi K [x, .ty c.s] H1 Q
  have e : (fun x H1 => ∃ x', [x] = [x'] ∧ rIsi K [x', .ty c.s] H1 Q) = fun x H1 => rIsi K [x, .ty c.s] H1 Q := by
    funext x H1
    apply propext
    constructor
    · rintro ⟨x', e, q⟩; cases e; exact q
    · intro q; exact ⟨x, rfl, q⟩
  rw [← e]
  exact h
end

/-! ### methods -/
section
variable {K : KF} {cl : Str → Addr} {W : WX}
def pSplit : List D → Option Out := fun ds => match ds with
  | [.str a, .str b] => if (!(b.length == 0)) && decide (a.length ≤ 100000) then some (.nl ((Txt.split a b).map .str)) else none
  | _ => none
theorem o_split : OutOp K (lm fun x xs H Q => ∃ a b, x = .str a ∧ xs = [.str b] ∧ (b.length == 0) = false ∧ a.length + 2 ≤ sizeLine ∧ rNewStrs (Txt.split a b) H Q) pSplit := by
  intro F H ds vs s w
  refine ⟨fun d e => ?_, fun out e => ?_⟩ <;> unfold pSplit at e <;> split at e
  · split at e <;> cases e
  · cases e
  · split at e
    · rename_i a b hc
      rw [Bool.and_eq_true] at hc
      cases e
      obtain ⟨x, y, rfl, h1, h2⟩ := w.two
      cases h1.str
      cases h2.str
      refine ⟨_, Reps.strs _, fun Q q => ⟨a, b, rfl, rfl, by simpa using hc.1, ?_, q⟩⟩
      have : a.length ≤ 100000 := of_decide_eq_true hc.2
      exact Nat.le_trans (Nat.add_le_add_right this 2) (by decide)
    · cases e
  · cases e
def pJoin : List D → Option Out := fun ds => match ds with
  | [.str a, .lst xs] => (asStrs xs).bind fun ys => if (ys.map (·.length)).sum + ys.length * a.length ≤ 1000000 then some (.d (.str (Txt.join a ys))) else none
  | _ => none
theorem o_join : OutOp K (lm fun x xs H Q => ∃ a p, ∃ ys : List Str, x = .str a ∧ xs = [.ref p] ∧ (SqL K H p (ys.map V.str) ∨ SqT K H p (ys.map V.str)) ∧ (ys.map (·.length)).sum + ys.length * a.length ≤ 16777216 ∧ Q (.str (Txt.join a ys)) H) pJoin := by
  intro F H ds vs s w
  refine ⟨fun d e => ?_, fun out e => ?_⟩ <;> unfold pJoin at e <;> split at e
  · rename_i a xs
    cases q : asStrs xs with
    | none => rw [q] at e; cases e
    | some ys =>
      rw [q] at e
      have e : (if (ys.map (·.length)).sum + ys.length * a.length ≤ 1000000 then some (Out.d (.str (Txt.join a ys))) else none) = some (.d d) := e
      split at e
      · rename_i hc
        cases e
        obtain ⟨x, y, rfl, h1, h2⟩ := w.two
        cases h1.str
        obtain ⟨p, vs, rfl, hp, rv⟩ := h2.lst s
        rw [asStrs_eq q] at rv
        rw [rv.of_strs] at hp
        exact ⟨_, .str _, fun Q q => ⟨a, p, ys, rfl, rfl, .inl (SqL.of hp), Nat.le_trans hc (by decide), q⟩⟩
      · cases e
  · cases e
  · rename_i a xs
    cases q : asStrs xs with
    | none => rw [q] at e; cases e
    | some ys =>
      rw [q] at e
      have e : (if (ys.map (·.length)).sum + ys.length * a.length ≤ 1000000 then some (Out.d (.str (Txt.join a ys))) else none) = some (.nl out) := e
      split at e <;> cases e
  · cases e
/-- list.append, pop, insert, extend, reverse -/
def mAppend : List D → List D → Option (List D × D) := fun cs ds => match ds with
  | [x] => if cs.length ≤ 1000000 then some (cs ++ [x], .non) else none
  | _ => none
theorem line_lt {n : Nat} (h : n ≤ 1000000) : n < sizeLine := Nat.lt_of_le_of_lt h (by decide)
theorem m_append : MutOp K rAppend mAppend := by
  intro F H a xs cs vs ds cs' d s ha rc rd e
  unfold mAppend at e; split at e
  · split at e
    · rename_i x hc
      cases e
      cases rd with
      | cons r t =>
        cases t
        exact ⟨xs ++ [_], .non, rc.append (.cons r .nil), .non, fun Q q => ⟨a, xs, _, rfl, rfl, ha, line_lt (by rw [← rc.length]; exact hc), q⟩⟩
    · cases e
  · cases e
def mPop : List D → List D → Option (List D × D) := fun cs ds => match ds with
  | [] => cs[cs.length - 1]?.map fun x => (cs.dropLast, x)
  | _ => none
theorem m_pop : MutOp K rPop mPop := by
  intro F H a xs cs vs ds cs' d s ha rc rd e
  unfold mPop at e; split at e
  · obtain ⟨x, hx, q⟩ := Option.map_eq_some_iff.mp e
    cases q
    cases rd
    obtain ⟨v, hv, r⟩ := rc.get hx
    exact ⟨xs.dropLast, v, rc.dropLast, r, fun Q q => ⟨a, xs, v, rfl, rfl, ha, by rw [← rc.length]; exact hv, q⟩⟩
  · cases e
def mPopAt : List D → List D → Option (List D × D) := fun cs ds => match ds with
  | [.int i] => if cs.length ≤ 1000000 then (ixN cs.length i).bind fun k => cs[k]?.map fun x => (cs.eraseIdx k, x) else none
  | _ => none
theorem m_popAt : MutOp K rPopAt mPopAt := by
  intro F H a xs cs vs ds cs' d s ha rc rd e
  unfold mPopAt at e; split at e
  · rename_i i
    split at e
    · rename_i hc
      cases q : ixN cs.length i with
      | none => rw [q] at e; cases e
      | some k =>
        rw [q] at e
        have e : cs[k]?.map (fun x => (cs.eraseIdx k, x)) = some (cs', d) := e
        obtain ⟨x, hx, q'⟩ := Option.map_eq_some_iff.mp e
        cases q'
        cases rd with
        | cons r t =>
          cases t
          cases r
          obtain ⟨v, hv, r⟩ := rc.get hx
          have qq := ixN_seq q
          rw [rc.length] at qq hc
          exact ⟨xs.eraseIdx k, v, rc.eraseIdx k, r, fun Q q => ⟨a, xs, i, k, v, rfl, rfl, ha, by omega, by omega, qq.1, hv, q⟩⟩
    · cases e
  · cases e
def mReverse : List D → List D → Option (List D × D) := fun cs ds => match ds with
  | [] => some (cs.reverse, .non)
  | _ => none
theorem m_reverse : MutOp K rReverse mReverse := by
  intro F H a xs cs vs ds cs' d s ha rc rd e
  unfold mReverse at e; split at e
  · cases e
    cases rd
    exact ⟨xs.reverse, .non, rc.reverse, .non, fun Q q => ⟨a, xs, rfl, rfl, ha, q⟩⟩
  · cases e
def mExtend : List D → List D → Option (List D × D) := fun cs ds => match ds with
  | [.lst ys] => if cs.length + ys.length ≤ 1000000 then some (cs ++ ys, .non) else none
  | _ => none
theorem m_extend : MutOp K rExtend mExtend := by
  intro F H a xs cs vs ds cs' d s ha rc rd e
  unfold mExtend at e; split at e
  · split at e
    · rename_i ys hc
      cases e
      cases rd with
      | cons r t =>
        cases t
        cases r with
        | lst hb rb =>
          exact ⟨_, .non, rc.append rb, .non, fun Q q => ⟨a, _, xs, _, rfl, rfl, ha, s _ _ hb, line_1m (by rw [← rc.length, ← rb.length]; exact hc), q⟩⟩
    · cases e
  · cases e
end

/-! ### what is walked -/
/-- a list that stands at a at every turn -/
def LstAt (K : KF) (F0 : Hp) (ρ0 : List T) (σ0 : St) (a : Addr) (ds : List D) (w : List Nat) : Prop :=
  ∀ F H ρ σ fp, Same F0 F → OK K F H ρ σ fp → chkW w ρ0 ρ → chkS w σ0 σ → ∃ xs, SqL K H a xs ∧ Reps K F ds xs
structure LSrc where
  ds : List D
  w : List Nat
def lsrc (ρ : List T) : R → Option LSrc
  | .tv (.fz (.lst ds)) => some ⟨ds, []⟩
  | .tv (.fz (.scr ns)) => some ⟨ns.map .int, []⟩
  | .tv (.ol ds) => some ⟨ds, []⟩
  | .bw j => match ρ[j]? with
    | some (.ol ds) => some ⟨ds, [j]⟩
    | _ => none
  | _ => none
section
variable {K : KF} {cl : Str → Addr} {W : WX} {F H : Hp} {ρ : List T} {σ : St} {fp ft : List Addr}
theorem LstAt.mono {F0 F0' : Hp} {a : Addr} {ds : List D} {w : List Nat} {ρ0 : List T} {σ0 : St} (h : LstAt K F0 ρ0 σ0 a ds w) (s : Same F0 F0') : LstAt K F0' ρ0 σ0 a ds w := fun F H ρ σ fp s' => h F H ρ σ fp (s.trans s')
theorem lsrc_ok {r : R} {v : V} {x : LSrc} (o : OKV K F H ρ σ [r] [v] fp ft) (e : lsrc ρ r = some x) :
    ∃ F' fp' a, Ext F H (fp ++ ft) F' H fp' ∧ OK K F' H ρ σ fp' ∧ v = .ref a ∧ LstAt K F' ρ σ a x.ds x.w := by
  unfold lsrc at e; split at e
  · rename_i ds
    cases e
    obtain ⟨_, r⟩ := o.z (d := .lst ds) rfl
    cases r with
    | lst ha ra => exact ⟨F, fp, _, Ext.refl.sub' fun _ h => List.mem_append_left _ h, o.ok, rfl, fun F' H' ρ' σ' fp' s o' _ _ => ⟨_, SqL.of (o'.sub _ _ (s _ _ ha)), ra.mono s⟩⟩
  · rename_i ns
    cases e
    obtain ⟨_, r⟩ := o.z (d := .scr ns) rfl
    cases r with
    | scr ha => exact ⟨F, fp, _, Ext.refl.sub' fun _ h => List.mem_append_left _ h, o.ok, rfl, fun F' H' ρ' σ' fp' s o' _ _ => ⟨_, o'.sub.seq (s.seq ha), Reps.ints _⟩⟩
  · rename_i ds
    cases e
    obtain ⟨F', fp', ft', e', o', r'⟩ := o.frz1 (d := .lst ds) (ρ' := ρ) rfl
    cases r' with
    | lst ha ra => exact ⟨F', fp', _, e'.drop, o'.ok, rfl, fun F2 H2 ρ2 σ2 fp2 s o2 _ _ => ⟨_, SqL.of (o2.sub _ _ (s _ _ ha)), ra.mono s⟩⟩
  · rename_i j
    split at e
    · rename_i ds q
      cases e
      obtain ⟨f, x, _⟩ := id o.rp
      cases x with
      | cons x t =>
        cases x with
        | bw hj =>
          obtain ⟨f0, s0, _⟩ := o.sl
          obtain ⟨v', f1, h1, h2, _⟩ := s0.get q (by intro z; cases z)
          rw [hj] at h1; cases h1
          cases h2 with
          | ol ha ra =>
            refine ⟨F, fp, _, Ext.refl.sub' fun _ h => List.mem_append_left _ h, o.ok, rfl, fun F2 H2 ρ2 σ2 fp2 s o2 c1 c2 => ?_⟩
            have c1 : ρ2[j]? = ρ[j]? := c1 j (by simp)
            have c2 : σ2[j]? = σ[j]? := c2 j (by simp)
            obtain ⟨f2, s2, _⟩ := o2.sl
            obtain ⟨v2, g, k1, k2, _⟩ := s2.get (c1.trans q) (by intro z; cases z)
            rw [c2, hj] at k1; cases k1
            cases k2 with
            | ol hb rb => exact ⟨_, SqL.of hb, rb⟩
    · cases e
  · cases e
theorem iter_lst {F0 : Hp} {ρ0 : List T} {σ0 : St} {a : Addr} {ds : List D} {w : List Nat} (h : LstAt K F0 ρ0 σ0 a ds w) : IterOk K F0 ρ0 σ0 (Itl K a) ds w := by
  refine ⟨fun i d F H ρ σ fp s o c1 c2 hd => ?_, fun F H ρ σ fp s o c1 c2 => ?_⟩
  · obtain ⟨xs, hs, r⟩ := h F H ρ σ fp s o c1 c2
    obtain ⟨v, hv, rv⟩ := r.get hd
    refine ⟨⟨xs, v, hs, hv⟩, fun x H' y => ?_⟩
    obtain ⟨rfl, y⟩ := y
    have := y xs hs
    rw [hv] at this; cases this
    exact ⟨F, Ext.refl, o, rv⟩
  · obtain ⟨xs, hs, r⟩ := h F H ρ σ fp s o c1 c2
    exact ⟨xs, hs, by rw [r.length]; exact Nat.le_refl _⟩
/-- for x in a list -/
def iLst (g : List T → ER R) : List T → ER Src := fun ρ => (g ρ).bind fun r ρ1 => optE (lsrc ρ1 r) fun x => .ok ⟨x.ds, x.w⟩ ρ1
theorem i_list {t : TE} {g : List T → ER R} (h : SndE K cl W t g) : SndI K cl W (iList K t) (iLst g) := by
  intro F H ρ σ fp Q o p
  show t σ H fun x H1 => ∃ a, x = .ref a ∧ (∃ xs, SqL K H1 a xs) ∧ Q (Itl K a) H1
  refine h _ _ _ _ _ _ o ?_
  unfold iLst at p
  cases q : g ρ with
  | stuck => rw [q] at p; exact p
  | exc c ρ1 => rw [q] at p; exact p
  | ok r ρ1 =>
    rw [q] at p
    intro F1 H1 v fp1 ft1 e1 o1
    have p1 : PostI K cl W σ F H fp (optE (lsrc ρ1 r) fun x => .ok ⟨x.ds, x.w⟩ ρ1) Q := p
    clear p
    cases e : lsrc ρ1 r with
    | none => rw [e] at p1; exact p1.elim
    | some x =>
      rw [e] at p1
      obtain ⟨F', fp', a, e', o', rfl, la⟩ := lsrc_ok o1 e
      refine ⟨a, rfl, ?_, p1 F' H1 fp' (Itl K a) (e1.trans e') o' (iter_lst la)⟩
      obtain ⟨xs, hs, _⟩ := la F' H1 ρ1 σ fp' (Same.refl _) o' chkW_refl fun _ _ => rfl
      exact ⟨xs, hs⟩
/-- for x in a tuple -/
def iTpl (g : List T → ER R) : List T → ER Src := fun ρ => (g ρ).bind fun r ρ1 => optE r.z fun d => match d with | .tup ds => .ok ⟨ds, []⟩ ρ1 | _ => .stuck
theorem i_tup {t : TE} {g : List T → ER R} (h : SndE K cl W t g) : SndI K cl W (iTup K t) (iTpl g) := by
  intro F H ρ σ fp Q o p
  show t σ H fun x H1 => ∃ a, x = .ref a ∧ (∃ xs, SqT K H1 a xs) ∧ Q (Itt K a) H1
  refine h _ _ _ _ _ _ o ?_
  unfold iTpl at p
  cases q : g ρ with
  | stuck => rw [q] at p; exact p
  | exc c ρ1 => rw [q] at p; exact p
  | ok r ρ1 =>
    rw [q] at p
    intro F1 H1 v fp1 ft1 e1 o1
    have p1 : PostI K cl W σ F H fp (optE r.z fun d => match d with | .tup ds => .ok ⟨ds, []⟩ ρ1 | _ => .stuck) Q := p
    clear p
    cases e : r.z with
    | none => rw [e] at p1; exact p1.elim
    | some d =>
      rw [e] at p1
      obtain ⟨_, rv⟩ := o1.z e
      cases d with
      | tup ds =>
        cases rv with
        | tup ha ra =>
          rename_i a vs
          refine ⟨a, rfl, ⟨vs, SqT_mono o1.sub ha⟩, p1 F1 H1 fp1 (Itt K a) e1.drop o1.ok ⟨fun i d F H ρ σ fp s o c1 c2 hd => ?_, fun F H ρ σ fp s o c1 c2 => ?_⟩⟩
          · obtain ⟨v, hv, rv⟩ := ra.get hd
            have hs : SqT K H a vs := SqT_mono o.sub (SqT_mono s ha)
            refine ⟨⟨vs, v, hs, hv⟩, fun x H' y => ?_⟩
            obtain ⟨rfl, y⟩ := y
            have := y vs hs
            rw [hv] at this; cases this
            exact ⟨F, Ext.refl, o, rv.mono s⟩
          · exact ⟨vs, SqT_mono o.sub (SqT_mono s ha), by show vs.length ≤ ds.length; rw [ra.length]; exact Nat.le_refl _⟩
      | _ => exact p1.elim
/-- for i in range(..) -/
def iRg1 (g : List T → ER R) : List T → ER Src := fun ρ => (g ρ).bind fun r ρ1 => optE r.z fun d => match d with | .int n => if bigB n = true then .ok ⟨rgD 0 n, []⟩ ρ1 else .stuck | _ => .stuck
theorem iter_range {F0 : Hp} {ρ0 : List T} {σ0 : St} (a b : Int) : IterOk K F0 ρ0 σ0 (Itr a (b - a).toNat) (rgD a b) [] := by
  refine ⟨fun i d F H ρ σ fp s o c1 c2 hd => ?_, fun F H ρ σ fp s o c1 c2 => ?_⟩
  · unfold rgD at hd
    rw [List.getElem?_map] at hd
    obtain ⟨j, hj, rfl⟩ := Option.map_eq_some_iff.mp hd
    have hi := (List.getElem?_eq_some_iff.mp hj).1
    rw [List.length_range] at hi
    rw [List.getElem?_range hi] at hj
    cases hj
    refine ⟨hi, fun x H' y => ?_⟩
    obtain ⟨rfl, rfl⟩ := y
    exact ⟨F, Ext.refl, o, .int _⟩
  · show (b - a).toNat ≤ (rgD a b).length
    unfold rgD
    rw [List.length_map, List.length_range]
    exact Nat.le_refl _
theorem big_62 {n : Int} (h : bigB n = true) : -(2 ^ 62) ≤ n ∧ n < 2 ^ 62 := by
  unfold bigB at h
  simp only [Bool.and_eq_true, decide_eq_true_eq] at h
  omega
theorem i_range1 {t : TE} {g : List T → ER R} (h : SndE K cl W t g) : SndI K cl W (iRng1 (tCons t tNil)) (iRg1 g) := by
  intro F H ρ σ fp Q o p
  show t σ H fun x H1 => ∃ j : Int, [x] = [.int j] ∧ -(2 ^ 62) ≤ j ∧ j < 2 ^ 62 ∧ Q (Itr 0 j.toNat) H1
  refine h _ _ _ _ _ _ o ?_
  unfold iRg1 at p
  cases q : g ρ with
  | stuck => rw [q] at p; exact p
  | exc c ρ1 => rw [q] at p; exact p
  | ok r ρ1 =>
    rw [q] at p
    intro F1 H1 v fp1 ft1 e1 o1
    have p1 : PostI K cl W σ F H fp (optE r.z fun d => match d with | .int n => if bigB n = true then .ok ⟨rgD 0 n, []⟩ ρ1 else .stuck | _ => .stuck) Q := p
    clear p
    cases e : r.z with
    | none => rw [e] at p1; exact p1.elim
    | some d =>
      rw [e] at p1
      obtain ⟨_, rv⟩ := o1.z e
      cases d with
      | int n =>
        cases rv
        have p2 : PostI K cl W σ F H fp (if bigB n = true then .ok ⟨rgD 0 n, []⟩ ρ1 else .stuck) Q := p1
        by_cases c : bigB n = true
        · rw [if_pos c] at p2
          have := iter_range (K := K) (F0 := F1) (ρ0 := ρ1) (σ0 := σ) 0 n
          rw [Int.sub_zero] at this
          exact ⟨n, rfl, (big_62 c).1, (big_62 c).2, p2 F1 H1 fp1 _ e1.drop o1.ok this⟩
        · rw [if_neg c] at p2; exact p2.elim
      | _ => exact p1.elim
def rgSrc (d d' : D) (ρ : List T) : ER Src := match d, d' with
  | .int a, .int b => if (bigB a && bigB b) = true then .ok ⟨rgD a b, []⟩ ρ else .stuck
  | _, _ => .stuck
def iRg2 (g g' : List T → ER R) : List T → ER Src := fun ρ => (g ρ).bind fun r ρ1 => (g' ρ1).bind fun r' ρ2 => optE r.z fun d => optE r'.z fun d' => rgSrc d d' ρ2
theorem i_range2 {t t' : TE} {g g' : List T → ER R} (h : SndE K cl W t g) (h' : SndE K cl W t' g') : SndI K cl W (iRng2 (tCons t (tCons t' tNil))) (iRg2 g g') := by
  intro F H ρ σ fp Q o p
  show t σ H fun x H1 => t' σ H1 fun y H2 => ∃ i j : Int, [x, y] = [.int i, .int j] ∧ (-(2 ^ 62) ≤ i ∧ i < 2 ^ 62 ∧ -(2 ^ 62) ≤ j ∧ j < 2 ^ 62) ∧ Q (Itr i (j - i).toNat) H2
  refine h _ _ _ _ _ _ o ?_
  unfold iRg2 at p
  cases q : g ρ with
  | stuck => rw [q] at p; exact p
  | exc c ρ1 => rw [q] at p; exact p
  | ok r ρ1 =>
    rw [q] at p
    intro F1 H1 v fp1 ft1 e1 o1
    refine h' _ _ _ _ _ _ o1.ok ?_
    have p0 : PostI K cl W σ F H fp ((g' ρ1).bind fun r' ρ2 => optE r.z fun d => optE r'.z fun d' => rgSrc d d' ρ2) Q := p
    clear p
    cases q2 : g' ρ1 with
    | stuck => rw [q2] at p0; exact p0
    | exc c ρ2 => rw [q2] at p0; exact PostX.mono e1.drop p0
    | ok r' ρ2 =>
      rw [q2] at p0
      intro F2 H2 v' fp2 ft2 e2 o2
      have p1 : PostI K cl W σ F H fp (optE r.z fun d => optE r'.z fun d' => rgSrc d d' ρ2) Q := p0
      clear p0
      cases e : r.z with
      | none => rw [e] at p1; exact p1.elim
      | some d =>
        rw [e] at p1
        have p3 : PostI K cl W σ F H fp (optE r'.z fun d' => rgSrc d d' ρ2) Q := p1
        clear p1
        obtain ⟨_, rv⟩ := o1.z e
        cases e' : r'.z with
        | none => rw [e'] at p3; exact p3.elim
        | some d' =>
          rw [e'] at p3
          have p4 : PostI K cl W σ F H fp (rgSrc d d' ρ2) Q := p3
          clear p3
          obtain ⟨_, rv'⟩ := o2.z e'
          cases d with
          | int a =>
            cases d' with
            | int b =>
              cases rv
              cases rv'
              have p2 : PostI K cl W σ F H fp (if (bigB a && bigB b) = true then .ok ⟨rgD a b, []⟩ ρ2 else .stuck) Q := p4
              by_cases c : (bigB a && bigB b) = true
              · rw [if_pos c] at p2
                rw [Bool.and_eq_true] at c
                exact ⟨a, b, rfl, ⟨(big_62 c.1).1, (big_62 c.1).2, (big_62 c.2).1, (big_62 c.2).2⟩, p2 F2 H2 fp2 _ (e1.drop.trans e2.drop) o2.ok (iter_range a b)⟩
              · rw [if_neg c] at p2; exact p2.elim
            | _ => exact p4.elim
          | _ => exact p4.elim
/-- for c in a text -/
def signsD (x : Str) : List D := x.cps.toList.map fun c => D.str ⟨#[c]⟩
def iStrD (g : List T → ER R) : List T → ER Src := fun ρ => (g ρ).bind fun r ρ1 => optE r.z fun d => match d with | .str x => .ok ⟨signsD x, []⟩ ρ1 | _ => .stuck
theorem i_str {t : TE} {g : List T → ER R} (h : SndE K cl W t g) : SndI K cl W (iStr t) (iStrD g) := by
  intro F H ρ σ fp Q o p
  show t σ H fun v H1 => ∃ x, v = .str x ∧ Q (Its x) H1
  refine h _ _ _ _ _ _ o ?_
  unfold iStrD at p
  cases q : g ρ with
  | stuck => rw [q] at p; exact p
  | exc c ρ1 => rw [q] at p; exact p
  | ok r ρ1 =>
    rw [q] at p
    intro F1 H1 v fp1 ft1 e1 o1
    have p1 : PostI K cl W σ F H fp (optE r.z fun d => match d with | .str x => .ok ⟨signsD x, []⟩ ρ1 | _ => .stuck) Q := p
    clear p
    cases e : r.z with
    | none => rw [e] at p1; exact p1.elim
    | some d =>
      rw [e] at p1
      obtain ⟨_, rv⟩ := o1.z e
      cases d with
      | str x =>
        cases rv
        refine ⟨x, rfl, p1 F1 H1 fp1 (Its x) e1.drop o1.ok ⟨fun i d F H ρ σ fp s o c1 c2 hd => ?_, fun F H ρ σ fp s o c1 c2 => ?_⟩⟩
        · have hd : (x.cps.toList.map fun c => D.str ⟨#[c]⟩)[i]? = some d := hd
          rw [List.getElem?_map] at hd
          obtain ⟨c, hc, rfl⟩ := Option.map_eq_some_iff.mp hd
          have hi := (List.getElem?_eq_some_iff.mp hc).1
          refine ⟨(by show i < x.cps.size; simpa using hi), fun y H' z => ?_⟩
          obtain ⟨rfl, c', hc', rfl⟩ := z
          have hc2 : x.cps[i]? = some c := by simpa using hc
          rw [hc2] at hc'; cases hc'
          exact ⟨F, Ext.refl, o, .str _⟩
        · show x.cps.size ≤ (signsD x).length
          unfold signsD
          simp
      | _ => exact p1.elim
/-- a new pair each turn -/
theorem pair_turn {F H H' : Hp} {ρ : List T} {σ : St} {fp : List Addr} {T0 : Addr} {x y : V} {d e : D} (o : OK K F H ρ σ fp) (n : H T0 = none) (h : H' = upd H T0 (.tup [x, y])) (rx : Rep K F d x) (ry : Rep K F e y) :
    ∃ F', Ext F H fp F' H' fp ∧ OK K F' H' ρ σ fp ∧ Rep K F' (.tup [d, e]) (.ref T0) := by
  subst h
  have nF : F T0 = none := by
    cases q : F T0 with
    | none => rfl
    | some z => rw [o.sub T0 z q] at n; cases n
  have rp : Rep K (upd F T0 (.tup [x, y])) (.tup [d, e]) (.ref T0) := .tup (.inl (.inl upd_same)) (.cons (rx.mono (upd_same_of nF)) (.cons (ry.mono (upd_same_of nF)) .nil))
  obtain ⟨o2, e2⟩ := o.freshF n rp
  exact ⟨_, e2, o2.ok, rp⟩
def enumD (ds : List D) : List D := (List.range ds.length).zipWith (fun i d => D.tup [.int (i : Nat), d]) ds
def iEnumD (g : List T → ER R) : List T → ER Src := fun ρ => (g ρ).bind fun r ρ1 => optE (lsrc ρ1 r) fun x => .ok ⟨enumD x.ds, x.w⟩ ρ1
theorem enumD_get {ds : List D} {i : Nat} {e : D} (h : (enumD ds)[i]? = some e) : ∃ d, ds[i]? = some d ∧ e = .tup [.int (i : Nat), d] := by
  unfold enumD at h
  rw [List.getElem?_zipWith] at h
  cases q : ds[i]? with
  | none => rw [q] at h; simp at h
  | some d =>
    have hi := (List.getElem?_eq_some_iff.mp q).1
    rw [q, List.getElem?_range hi] at h
    simp at h
    exact ⟨d, rfl, h.symm⟩
theorem i_enum {t : TE} {g : List T → ER R} (h : SndE K cl W t g) : SndI K cl W (iEnum K (tCons t tNil)) (iEnumD g) := by
  intro F H ρ σ fp Q o p
  show t σ H fun x H1 => ∃ a xs, [x] = [.ref a] ∧ SqL K H1 a xs ∧ Q (Ite K a) H1
  refine h _ _ _ _ _ _ o ?_
  unfold iEnumD at p
  cases q : g ρ with
  | stuck => rw [q] at p; exact p
  | exc c ρ1 => rw [q] at p; exact p
  | ok r ρ1 =>
    rw [q] at p
    intro F1 H1 v fp1 ft1 e1 o1
    have p1 : PostI K cl W σ F H fp (optE (lsrc ρ1 r) fun x => .ok ⟨enumD x.ds, x.w⟩ ρ1) Q := p
    clear p
    cases e : lsrc ρ1 r with
    | none => rw [e] at p1; exact p1.elim
    | some x =>
      rw [e] at p1
      obtain ⟨F', fp', a, e', o', rfl, la⟩ := lsrc_ok o1 e
      obtain ⟨xs, hs, _⟩ := la F' H1 ρ1 σ fp' (Same.refl _) o' chkW_refl fun _ _ => rfl
      refine ⟨a, xs, rfl, hs, p1 F' H1 fp' (Ite K a) (e1.trans e') o' ⟨fun i d F H ρ σ fp s o c1 c2 hd => ?_, fun F H ρ σ fp s o c1 c2 => ?_⟩⟩
      · obtain ⟨d0, hd0, rfl⟩ := enumD_get hd
        obtain ⟨ys, hy, ry⟩ := la F H ρ σ fp s o c1 c2
        obtain ⟨y, hy2, ryy⟩ := ry.get hd0
        have wk : Walk (Ite K a) ys.length (fun H => SqL K H a ys) (YPair (fun i => some (.int (i : Nat))) (fun i => ys[i]?)) := walk_enum
        have hi := (List.getElem?_eq_some_iff.mp hy2).1
        refine ⟨wk.goes i H hi hy, fun v H' z => ?_⟩
        obtain ⟨T0, x0, y0, rfl, nT, hH, hx0, hy0⟩ := wk.yields i H v H' hi hy z
        cases hx0
        have hy0 : ys[i]? = some y0 := hy0
        rw [hy2] at hy0; cases hy0
        exact pair_turn o nT hH (.int _) ryy
      · obtain ⟨ys, hy, ry⟩ := la F H ρ σ fp s o c1 c2
        have wk : Walk (Ite K a) ys.length (fun H => SqL K H a ys) (YPair (fun i => some (.int (i : Nat))) (fun i => ys[i]?)) := walk_enum
        have el : (enumD x.ds).length = ys.length := by
          unfold enumD
          rw [List.length_zipWith, List.length_range, ry.length]; omega
        show (Ite K a).stop (enumD x.ds).length H
        rw [el]
        exact wk.stops H hy
def zipD (ds es : List D) : List D := List.zipWith (fun d e => D.tup [d, e]) ds es
def iZipD (g g' : List T → ER R) : List T → ER Src := fun ρ => (g ρ).bind fun r ρ1 => (g' ρ1).bind fun r' ρ2 => optE (lsrc ρ2 r) fun x => optE (lsrc ρ2 r') fun y => .ok ⟨zipD x.ds y.ds, x.w ++ y.w⟩ ρ2
theorem zipD_get {ds es : List D} {i : Nat} {z : D} (h : (zipD ds es)[i]? = some z) : ∃ d e, ds[i]? = some d ∧ es[i]? = some e ∧ z = .tup [d, e] := by
  unfold zipD at h
  rw [List.getElem?_zipWith] at h
  cases q : ds[i]? with
  | none => rw [q] at h; simp at h
  | some d =>
    cases q2 : es[i]? with
    | none => rw [q, q2] at h; simp at h
    | some e => rw [q, q2] at h; simp at h; exact ⟨d, e, rfl, rfl, h.symm⟩
theorem OKV.second {r r' : R} {v v' : V} (o : OKV K F H ρ σ [r, r'] [v, v'] fp ft) : ∃ f1 f2, OKV K F H ρ σ [r] [v] fp f1 ∧ OKV K F H ρ σ [r'] [v'] fp f2 ∧ ft.Perm (f1 ++ f2) := by
  obtain ⟨f1, f2, x, o2, p⟩ := o.uncons
  refine ⟨f1, f2, ?_, o2, p⟩
  have pm : ∀ a, a ∈ f1 → a ∈ ft := fun a ha => p.mem_iff.mpr (List.mem_append_left _ ha)
  have nd : ft.Nodup := (List.nodup_append.mp o.nd).2.1
  exact o.ok.one x (fun a ha => ⟨fun m => o.apart m (pm a ha), o.out a (List.mem_append_right _ (pm a ha))⟩) (List.nodup_append.mp (p.nodup_iff.mp nd)).1
theorem i_zip {t t' : TE} {g g' : List T → ER R} (h : SndE K cl W t g) (h' : SndE K cl W t' g') : SndI K cl W (iZip K (tCons t (tCons t' tNil))) (iZipD g g') := by
  intro F H ρ σ fp Q o p
  show t σ H fun x H1 => t' σ H1 fun y H2 => ∃ a b xs ys, [x, y] = [.ref a, .ref b] ∧ SqL K H2 a xs ∧ SqL K H2 b ys ∧ Q (Itz K a b) H2
  refine h _ _ _ _ _ _ o ?_
  unfold iZipD at p
  cases q : g ρ with
  | stuck => rw [q] at p; exact p
  | exc c ρ1 => rw [q] at p; exact p
  | ok r ρ1 =>
    rw [q] at p
    intro F1 H1 v fp1 ft1 e1 o1
    refine h' _ _ _ _ _ _ o1.ok ?_
    have p0 : PostI K cl W σ F H fp ((g' ρ1).bind fun r' ρ2 => optE (lsrc ρ2 r) fun x => optE (lsrc ρ2 r') fun y => .ok ⟨zipD x.ds y.ds, x.w ++ y.w⟩ ρ2) Q := p
    clear p
    cases q2 : g' ρ1 with
    | stuck => rw [q2] at p0; exact p0
    | exc c ρ2 => rw [q2] at p0; exact PostX.mono e1.drop p0
    | ok r' ρ2 =>
      rw [q2] at p0
      intro F2 H2 v' fp2 ft2 e2 o2
      have p1 : PostI K cl W σ F H fp (optE (lsrc ρ2 r) fun x => optE (lsrc ρ2 r') fun y => .ok ⟨zipD x.ds y.ds, x.w ++ y.w⟩ ρ2) Q := p0
      clear p0
      have o12 : OKV K F2 H2 ρ2 σ [r, r'] [v, v'] fp2 (ft1 ++ ft2) := o1.carry e2 o2
      have e12 := e1.carry e2
      cases ea : lsrc ρ2 r with
      | none => rw [ea] at p1; exact p1.elim
      | some x =>
        rw [ea] at p1
        have p2 : PostI K cl W σ F H fp (optE (lsrc ρ2 r') fun y => .ok ⟨zipD x.ds y.ds, x.w ++ y.w⟩ ρ2) Q := p1
        clear p1
        cases eb : lsrc ρ2 r' with
        | none => rw [eb] at p2; exact p2.elim
        | some y =>
          rw [eb] at p2
          -- the first, then the second
          obtain ⟨f1, f2, oa, ob, pm⟩ := o12.second
          obtain ⟨F3, fp3, a, e3, o3, rfl, la⟩ := lsrc_ok oa ea
          have nd12 := o12.nd
          have ob3 : OKV K F3 H2 ρ2 σ [r'] [v'] fp3 f2 := by
            have disj : ∀ b ∈ f2, b ∉ fp2 ++ f1 := fun b hb hm => by
              rcases List.mem_append.mp hm with z | z
              · exact o12.apart z (pm.mem_iff.mpr (List.mem_append_right _ hb))
              · exact (List.nodup_append.mp (pm.nodup_iff.mp (List.nodup_append.mp nd12).2.1)).2.2 b z b hb rfl
            have nf : ∀ b ∈ f2, b ∉ fp3 := fun b hb hm => by
              rcases e3.fps b hm with z | z
              · exact disj b hb z
              · exact ob.domT b hb z
            obtain ⟨g0, rg, pg⟩ := ob.rp
            refine ⟨o3.sub, o3.sl, ⟨g0, rg.frame e3.sub fun _ _ _ h => h, pg⟩, List.nodup_append.mpr ⟨by have := o3.nd; rwa [List.append_nil] at this, (List.nodup_append.mp ob.nd).2.1, fun b hb c hc z => nf c hc (z ▸ hb)⟩, fun b hb => ?_⟩
            rcases List.mem_append.mp hb with z | z
            · exact o3.out b (by rw [List.append_nil]; exact z)
            · cases qq : F3 b with
              | none => rfl
              | some u =>
                rcases e3.dom b (by rw [qq]; exact fun z => nomatch z) with k | k | k
                · exact absurd (ob.out b (List.mem_append_right _ z)) k
                · exact (disj b z k).elim
                · exact absurd k (ob.domT b z)
          obtain ⟨F4, fp4, b, e4, o4, rfl, lb⟩ := lsrc_ok ob3 eb
          have la4 := la.mono e4.sub
          have sub1 : ∀ z, z ∈ fp2 ++ f1 → z ∈ fp2 ++ (ft1 ++ ft2) := fun z hz => (List.mem_append.mp hz).elim (List.mem_append_left _) fun k => List.mem_append_right _ (pm.mem_iff.mpr (List.mem_append_left _ k))
          have sub2 : ∀ z, z ∈ f2 → z ∈ fp2 ++ (ft1 ++ ft2) := fun z hz => List.mem_append_right _ (pm.mem_iff.mpr (List.mem_append_right _ hz))
          have e34 : Ext F2 H2 (fp2 ++ (ft1 ++ ft2)) F4 H2 fp4 := by
            refine ⟨e3.sub.trans e4.sub, fun z hz => ?_, fun z hz => ?_, fun _ _ h _ => h⟩
            · rcases e4.dom z hz with k | k | k
              · exact (e3.dom z k).imp id fun k => k.imp (sub1 z) id
              · rcases List.mem_append.mp k with k | k
                · exact .inr ((e3.fps z k).imp (sub1 z) id)
                · exact .inr (.inl (sub2 z k))
              · exact .inr (.inr k)
            · rcases e4.fps z hz with k | k
              · rcases List.mem_append.mp k with k | k
                · exact (e3.fps z k).imp (sub1 z) id
                · exact .inl (sub2 z k)
              · exact .inr k
          obtain ⟨xs, hxs, rxs⟩ := la4 F4 H2 ρ2 σ fp4 (Same.refl _) o4 chkW_refl fun _ _ => rfl
          obtain ⟨ys, hys, rys⟩ := lb F4 H2 ρ2 σ fp4 (Same.refl _) o4 chkW_refl fun _ _ => rfl
          have cl1 : ∀ {ρ'}, chkW (x.w ++ y.w) ρ2 ρ' → chkW x.w ρ2 ρ' := fun h j hj => h j (List.mem_append_left _ hj)
          have cl2 : ∀ {ρ'}, chkW (x.w ++ y.w) ρ2 ρ' → chkW y.w ρ2 ρ' := fun h j hj => h j (List.mem_append_right _ hj)
          have cs1 : ∀ {σ'}, chkS (x.w ++ y.w) σ σ' → chkS x.w σ σ' := fun h j hj => h j (List.mem_append_left _ hj)
          have cs2 : ∀ {σ'}, chkS (x.w ++ y.w) σ σ' → chkS y.w σ σ' := fun h j hj => h j (List.mem_append_right _ hj)
          refine ⟨a, b, xs, ys, rfl, hxs, hys, p2 F4 H2 fp4 (Itz K a b) (e12.trans e34) o4 ⟨fun i d F H ρ σ' fp s o c1 c2 hd => ?_, fun F H ρ σ' fp s o c1 c2 => ?_⟩⟩
          · obtain ⟨d1, d2, hd1, hd2, rfl⟩ := zipD_get hd
            obtain ⟨us, hus, rus⟩ := la4 F H ρ σ' fp s o (cl1 c1) (cs1 c2)
            obtain ⟨ws, hws, rws⟩ := lb F H ρ σ' fp s o (cl2 c1) (cs2 c2)
            obtain ⟨u, hu, ru⟩ := rus.get hd1
            obtain ⟨w', hw, rw'⟩ := rws.get hd2
            have wk := walk_zip (K := K) (a := a) (b := b) (xs := us) (ys := ws) rfl
            have h1 := (List.getElem?_eq_some_iff.mp hu).1
            have h2 := (List.getElem?_eq_some_iff.mp hw).1
            refine ⟨wk.goes i H (by omega) ⟨hus, hws⟩, fun v H' z => ?_⟩
            obtain ⟨T0, x0, y0, rfl, nT, hH, hx0, hy0⟩ := wk.yields i H v H' (by omega) ⟨hus, hws⟩ z
            have hx0 : us[i]? = some x0 := hx0
            have hy0 : ws[i]? = some y0 := hy0
            rw [hu] at hx0; cases hx0
            rw [hw] at hy0; cases hy0
            exact pair_turn o nT hH ru rw'
          · obtain ⟨us, hus, rus⟩ := la4 F H ρ σ' fp s o (cl1 c1) (cs1 c2)
            obtain ⟨ws, hws, rws⟩ := lb F H ρ σ' fp s o (cl2 c1) (cs2 c2)
            have wk := walk_zip (K := K) (a := a) (b := b) (xs := us) (ys := ws) rfl
            have el : (zipD x.ds y.ds).length = min us.length ws.length := by
              unfold zipD
              rw [List.length_zipWith, rus.length, rws.length]
            show (Itz K a b).stop (zipD x.ds y.ds).length H
            rw [el]
            exact wk.stops H ⟨hus, hws⟩
end
end DL

set_option Elab.async false
set_option linter.all false
set_option maxRecDepth 100000
namespace DL
open PySem PySem.Spec L2

theorem bt_len : bootBuiltins "len" = some (.builtin "len") := by decide +kernel
theorem bt_int : bootBuiltins "int" = some (.type "int") := by decide +kernel
theorem bt_str : bootBuiltins "str" = some (.type "str") := by decide +kernel
theorem bt_bool : bootBuiltins "bool" = some (.type "bool") := by decide +kernel
theorem bt_list : bootBuiltins "list" = some (.type "list") := by decide +kernel
theorem bt_tuple : bootBuiltins "tuple" = some (.type "tuple") := by decide +kernel
theorem bt_set : bootBuiltins "set" = some (.type "set") := by decide +kernel
theorem bt_dict : bootBuiltins "dict" = some (.type "dict") := by decide +kernel
theorem bt_isinstance : bootBuiltins "isinstance" = some (.builtin "isinstance") := by decide +kernel
theorem bt_max : bootBuiltins "max" = some (.builtin "max") := by decide +kernel
theorem bt_min : bootBuiltins "min" = some (.builtin "min") := by decide +kernel
theorem bt_sum : bootBuiltins "sum" = some (.builtin "sum") := by decide +kernel
theorem bt_sorted : bootBuiltins "sorted" = some (.builtin "sorted") := by decide +kernel
theorem bt_abs : bootBuiltins "abs" = some (.builtin "abs") := by decide +kernel

/-- the slots of a list are stored to, the others kept -/
theorem kpC_sub {a b : List Nat} (h : b.all (fun i => a.contains i) = true) : ∀ i, kpC a i = true → kpC b i = true := fun i hi => by
  unfold kpC at hi ⊢
  cases q : b.contains i with
  | false => rfl
  | true =>
    have := List.all_eq_true.mp h i (by simpa using q)
    rw [this] at hi; cases hi

section
variable {P : Program} {w : World} {K : KF} {mg : Str → Option Value} {base : Heap} {cl : Str → Addr}
/-- a def of the text, where it stands -/
def FunAt (K : KF) (mg : Str → Option Value) (x : Str) (st : Stmt) : Prop := ∃ a fd, Fun K x x st a fd ∧ mg x = some (.ref a)
/-- a def that may be called, and what it does -/
def Cal (P : Program) (w : World) (K : KF) (mg : Str → Option Value) (base : Heap) (cl : Str → Addr) (x : Str) (k : Nat) (ps : List Str) (m : Fn) : Prop :=
  ∃ a fd, FnOk P w K mg base (L2.CX P w) k a fd ps (spD K cl ps.length m) ∧ mg x = some (.ref a) ∧ PySem.W.keepIn K (.ref a) = true ∧ Binds K fd ps []
theorem hx_blk {X : Cx} : ∀ σ, PassesAt (L2.CX X.prog X.w) X σ (WE WF σ) := fun σ _ _ _ _ _ _ h => by
  obtain ⟨_, _, _, _, _, _, _, _, _, _, _, _, z⟩ := h
  exact z.elim
theorem cx_no {H : Hp} {s : Shared} {e : Value} {s' : Shared} {l : List Env} (h : L2.CX P w l H s (fun _ _ _ => False) e s') : False := by
  obtain ⟨_, _, _, _, _, _, _, _, _, _, _, _, z⟩ := h
  exact z
theorem hu64 {k : Nat} {A : Around} (hr : Room k A) : A.units + 64 < cLine := hr.units
theorem hu65 {k : Nat} {A : Around} (hr : Room (k + 1) A) : A.units + 65 < cLine := by
  have := hr.un
  omega
end

/-! ### x op= e -/
section
variable {K : KF} {cl : Str → Addr} {W : WX} {kp : Kp}
theorem s_aug {i : Nat} {te : TE} {r : R2} {ge : List T → ER R} {f : List T → List R → ER R} (hk : kp i = false) (ho : OpS K cl W (l2 r) f) (he : SndE K cl W te ge) : SndS K cl W kp (tAug i te r) (sSet i (eCall f (aCons (eVar i) (aCons ge aNil)))) := by
  intro F H ρ σ fp E o p
  have h : tAsg (tOp r (tVar i) te) (gName i) E σ H := s_set hk (e_op ho (e_var i) he) F H ρ σ fp E o p
  exact h
theorem o_ipAdd : OutOp K (l2 (ipI fun i j => i + j)) pAddI := out_II (fun _ _ _ => .int _) fun i j H Q _ q => ⟨i, j, rfl, rfl, q⟩
theorem o_ipSub : OutOp K (l2 (ipI fun i j => i - j)) pSub := out_II (fun _ _ _ => .int _) fun i j H Q _ q => ⟨i, j, rfl, rfl, q⟩

/-! ### a raise -/
def sRaise (c : Str) : List T → SR := fun ρ => .exc c ρ
theorem s_raise (c : Str) : SndS K cl W kp (fun _ σ H => W (.ref (cl c)) none σ H) (sRaise c) := fun F H ρ σ fp E o p => p F H σ fp Ext.refl o KeepS.refl

/-! ### constants of the module that are tuples of texts -/
theorem rep_tupK {F : Hp} {a : Addr} {ss : List Str} (h : ∃ (o : Obj) (its : Array Value) (n : Nat), K.lookup a = some o ∧ o.cls = .type "tuple" ∧ o.data = .seq its n ∧ its.size ≤ sizeLine ∧ Vals (ss.map V.str) its.toList) : Rep K F (.tup (ss.map .str)) (.ref a) :=
  .tup (.inr h) (Reps.strs ss)
end

/-! ### the law -/
theorem law_sp {cl : Str → Addr} {m : Fn} (h : ∀ ns : List Int, ns.length ≤ 63 → ∃ ts, m [.fz (.scr ns)] = .ok (.fz (.bl true)) ts) (K : KF) (H : Hp) (a : Addr) (ns : List Int) (hl : ns.length ≤ 63) (hs : SqL K H a (ns.map V.int)) :
    spD K cl 1 m [.ref a] H (fun v _ => v = .bl true) fun _ _ _ => False := by
  obtain ⟨ts, e⟩ := h ns hl
  refine ⟨H, [.fz (.scr ns)], [], rfl, ⟨Same.refl _, ⟨[] ++ [], .cons (.fz (.scr hs)) .nil, .refl _⟩, ⟨[], .nil, .refl _⟩, .nil, fun _ h => by cases h⟩, ?_⟩
  rw [e]
  intro F' H' v fp' ft' e' o'
  obtain ⟨f, x, _⟩ := o'.rp
  cases x with
  | cons x t =>
    cases x with
    | tv x =>
      cases x with
      | fz x => cases x; rfl
end DL

set_option Elab.async false
set_option linter.all false
set_option maxRecDepth 100000
namespace DL
open PySem PySem.Spec L2
section
variable {P : Program} {w : World} {K : KF} {mg : Str → Option Value} {base : Heap} {N : List Str} {qual : Str} {sc : Scope} {f : Addr} {cd : Value} {A : Around} {outer : List Env} {s : Shared} {H : Hp} {E : XK}
theorem tk_def : Takes (cxOf (L2.CX P w) P w K mg base N qual sc f cd A outer s H E) (WE1 E) := takes_of rfl rfl rfl rfl
theorem po_def : PassesOwn (model P w) (cxOf (L2.CX P w) P w K mg base N qual sc f cd A outer s H E).A (cxOf (L2.CX P w) P w K mg base N qual sc f cd A outer s H E).env (cxOf (L2.CX P w) P w K mg base N qual sc f cd A outer s H E).xe := passes_of rfl
end
section
variable {K : KF} {cl : Str → Addr} {W : WX} {kp : Kp}
def tstYes : List T → ER Bool := fun ρ => .ok true ρ
theorem t_yes : SndT K cl W tYes tstYes := fun F H ρ σ fp Q o p => p F H fp Ext.refl o
end
section
variable {X : Cx}
theorem call_intA : CallR X (.type "int") rIntA := call_int1.or call_int_str
/-! ### the same rules with the frozen part named: their readings then say nothing of the context -/
theorem ix_seqK (K : KF) (h : X.K = K := by rfl) : IxR X (rIx K) := h ▸ ix_seq
theorem op_eqK (K : KF) (hu : X.A.units + 64 < cLine) (h : X.K = K := by rfl) : OpR X (compareOp .Eq) (fun x y H Q => rEq x y H Q ∨ rEqD K x y H Q) := h ▸ op_eqA hu
theorem op_neK (K : KF) (hu : X.A.units + 64 < cLine) (h : X.K = K := by rfl) : OpR X (compareOp .NotEq) (fun x y H Q => rNe x y H Q ∨ rNeD K x y H Q) := h ▸ op_neA hu
theorem op_inK (K : KF) (hu : X.A.units + 65 < cLine) (h : X.K = K := by rfl) : OpR X (compareOp .In) (rInA K) := h ▸ op_inA hu
theorem op_notInK (K : KF) (hu : X.A.units + 65 < cLine) (h : X.K = K := by rfl) : OpR X (compareOp .NotIn) (rNotInA K) := h ▸ op_notInA hu
theorem sl_anyK (K : KF) (h : X.K = K := by rfl) : SlR X (rSlA K) := h ▸ sl_any
theorem call_lenK (K : KF) (h : X.K = K := by rfl) : CallR X (.builtin "len") (fun xs H Q => ∃ x n, xs = [x] ∧ LenV K x H n ∧ Q (.int n) H) := h ▸ call_len
theorem call_list_ofK (K : KF) (h : X.K = K := by rfl) : CallR X (.type "list") (fun xs H Q => ∃ p ys, xs = [.ref p] ∧ (SqL K H p ys ∨ SqT K H p ys) ∧ ∀ l, H l = none → Q (.ref l) (upd H l (.lst ys))) := h ▸ call_list_of
theorem call_isi2 (K : KF) (h : X.K = K := by rfl) : CallR X (.builtin "isinstance") (rIsi K) := h ▸ call_isi
theorem cr_sortedK (K : KF) (hu : X.A.units + 64 < cLine) (h : X.K = K := by rfl) : CallR X (.builtin "sorted") (rSortedD K) := h ▸ cr_sortedD hu
theorem cr_sumK (K : KF) (hc : X.calm = true) (h : X.K = K := by rfl) : CallR X (.builtin "sum") (rSum K) := h ▸ cr_sum hc
theorem cr_maxK (K : KF) (hc : X.calm = true) (h : X.K = K := by rfl) : CallR X (.builtin "max") (rMax K) := h ▸ cr_max hc
theorem cr_minK (K : KF) (hc : X.calm = true) (h : X.K = K := by rfl) : CallR X (.builtin "min") (rMin K) := h ▸ cr_min hc
theorem mt_joinK (K : KF) (h : X.K = K := by rfl) : MtR X "str.join" (fun x xs H Q => ∃ a p, ∃ ys : List Str, x = .str a ∧ xs = [.ref p] ∧ (SqL K H p (ys.map V.str) ∨ SqT K H p (ys.map V.str)) ∧
    (ys.map (·.length)).sum + ys.length * a.length ≤ 16777216 ∧ Q (.str (Txt.join a ys)) H) := h ▸ mt_join
theorem pe_revLK (K : KF) {e : Expr} {te : TE} {k : Nat} {p1 p2 p3 pos : Pos} (he : PE X e te) (h : X.K = K := by rfl) : PE X (.Subscript e (.Slice none none (some (.UnaryOp .USub (.Constant (.int 1) k p1) p2)) p3) pos) (tRevL K te) := h ▸ pe_revL he
theorem pi_listK (K : KF) {tg l : Expr} {tl : TE} (hl : PE X l tl) (h : X.K = K := by rfl) : PI X tg l (iList K tl) := h ▸ pi_list hl
theorem pi_tupK (K : KF) {tg l : Expr} {tl : TE} (hl : PE X l tl) (h : X.K = K := by rfl) : PI X tg l (iTup K tl) := h ▸ pi_tup hl
theorem pi_enumK (K : KF) {e : Expr} {ta : TA} {p pos tpos : Pos} {elts : List Expr} {kk : Nat} (hg : Gl X "enumerate") (hm : X.mg "enumerate" = none) (ha : PA X [e] ta) (hs : starEach [e] X.env = [(false, eval e X.env)] := by rfl) (h : X.K = K := by rfl) :
    PI X (.Tuple elts kk tpos) (.Call (.Name "enumerate" p) [e] [] pos) (iEnum K ta) := h ▸ pi_enum hg hm ha hs
theorem pi_zipK (K : KF) {e e2 : Expr} {ta : TA} {p pos tpos : Pos} {elts : List Expr} {kk : Nat} (hg : Gl X "zip") (hm : X.mg "zip" = none) (ha : PA X [e, e2] ta)
    (hs : starEach [e, e2] X.env = (false, eval e X.env) :: starEach [e2] X.env := by rfl) (hpl : (backTo pos (starEach [e2] X.env)).any (·.1) = false := by rfl) (h : X.K = K := by rfl) :
    PI X (.Tuple elts kk tpos) (.Call (.Name "zip" p) [e, e2] [] pos) (iZip K ta) := h ▸ pi_zip hg hm ha hs hpl
section
variable {o e : Expr} {es : List Expr} {to : TE} {t : TA} {name : Str} {apos cpos : Pos} {T id : String} {r : V → List V → Hp → VK → Prop}
theorem pe_bm0K (K : KF) (pa : PlainAttrs T) (slot : Slot T name id) (hty : typeOf (.builtin id) = pure (.type "method_descriptor")) (hm : MtR X id r) (ho : PE X o to)
    (hbase : attributeBase o name X.env (eval o X.env) = eval o X.env := by rfl) (hline : (apos.endLine == cpos.line) = true := by rfl) (h : X.K = K := by rfl) : PE X (.Call (.Attribute o name apos) [] [] cpos) (tBM0 K T r to) := h ▸ pe_bm0 pa slot hty hm ho hbase hline
theorem pe_bmK (K : KF) (pa : PlainAttrs T) (slot : Slot T name id) (hty : typeOf (.builtin id) = pure (.type "method_descriptor")) (hm : MtR X id r) (ho : PE X o to) (ha : PA X (e :: es) t)
    (hbase : attributeBase o name X.env (eval o X.env) = eval o X.env := by rfl)
    (hfew : ((backTo cpos (starEach (e :: es) X.env)).all (fun x => !x.1) && (backToKw cpos (keywordEach [] X.env)).all (fun x => x.1.isSome)
      && decide ((e :: es).length + ([] : List Keyword).length + (if ([] : List Keyword).isEmpty then 0 else 1) < 30)) = true := by rfl)
    (hline : (apos.endLine == cpos.line) = true := by rfl) (hs : starEach (e :: es) X.env = (false, eval e X.env) :: starEach es X.env := by rfl) (hplain : (backTo cpos (starEach es X.env)).any (·.1) = false := by rfl) (h : X.K = K := by rfl) :
    PE X (.Call (.Attribute o name apos) (e :: es) [] cpos) (tBM K T r to t) := h ▸ pe_bm pa slot hty hm ho ha hbase hfew hline hs hplain
end
end
end DL

set_option Elab.async false
set_option linter.all false
set_option maxRecDepth 100000
/-! EV: how the mirrors are evaluated: simp lemmas, one a construct; nothing is unfolded ahead of its turn. -/
namespace DL
open PySem PySem.Spec L2

/-! ### expressions -/
def vr (i : Nat) (x : Option T) (ρ : List T) : ER R :=
  match x with
  | some (.fz d) => .ok (.tv (.fz d)) ρ
  | some .dead => .stuck
  | some _ => .ok (.bw i) ρ
  | none => .stuck
@[simp] theorem vr_fz (i : Nat) (d : D) (ρ : List T) : vr i (some (.fz d)) ρ = .ok (.tv (.fz d)) ρ := rfl
@[simp] theorem vr_ol (i : Nat) (ds : List D) (ρ : List T) : vr i (some (.ol ds)) ρ = .ok (.bw i) ρ := rfl
@[simp] theorem ev_var (i : Nat) (ρ : List T) : eVar i ρ = vr i ρ[i]? ρ := rfl
@[simp] theorem ev_c (d : D) (ρ : List T) : eC d ρ = .ok (.tv (.fz d)) ρ := rfl
@[simp] theorem bind_ok {α β : Type} (a : α) (ρ : List T) (f : α → List T → ER β) : (ER.ok a ρ).bind f = f a ρ := rfl
@[simp] theorem bindN_ok {α β : Type} (a : α) (ρ : List T) (f : α → List T → ER β) : (ER.ok a ρ).bindN f = f a ρ := rfl
@[simp] theorem toS_ok {α : Type} (a : α) (ρ : List T) (f : α → List T → SR) : (ER.ok a ρ).toS f = f a ρ := rfl
@[simp] theorem optE_some {α β : Type} (a : α) (f : α → ER β) : optE (some a) f = f a := rfl
@[simp] theorem optS_some {α : Type} (a : α) (f : α → SR) : optS (some a) f = f a := rfl
def ac1 (x : ER R) (gs : List T → ER (List R)) : ER (List R) := x.bind fun r ρ1 => (gs ρ1).bind fun rs ρ2 => .ok (r :: rs) ρ2
def ac2 (r : R) (x : ER (List R)) : ER (List R) := x.bind fun rs ρ2 => .ok (r :: rs) ρ2
@[simp] theorem ev_anil (ρ : List T) : aNil ρ = .ok [] ρ := rfl
@[simp] theorem ev_acons (g : List T → ER R) (gs : List T → ER (List R)) (ρ : List T) : aCons g gs ρ = ac1 (g ρ) gs := rfl
@[simp] theorem ac1_ok (r : R) (ρ : List T) (gs : List T → ER (List R)) : ac1 (.ok r ρ) gs = ac2 r (gs ρ) := rfl
@[simp] theorem ac2_ok (r : R) (rs : List R) (ρ : List T) : ac2 r (.ok rs ρ) = .ok (r :: rs) ρ := rfl
def cl1 (x : ER (List R)) (f : List T → List R → ER R) : ER R := x.bind fun rs ρ1 => f ρ1 rs
@[simp] theorem ev_call (f : List T → List R → ER R) (ga : List T → ER (List R)) (ρ : List T) : eCall f ga ρ = cl1 (ga ρ) f := rfl
@[simp] theorem ev_o (p : List D → Option Out) (ga : List T → ER (List R)) (ρ : List T) : eO p ga ρ = cl1 (ga ρ) (fOut p) := rfl
@[simp] theorem cl1_ok (rs : List R) (ρ : List T) (f : List T → List R → ER R) : cl1 (.ok rs ρ) f = f ρ rs := rfl
def fo1 (x : Option (List D)) (p : List D → Option Out) (ρ : List T) : ER R := optE x fun ds => optE (p ds) fun x => match x with
  | .d d => .ok (.tv (.fz d)) ρ
  | .nl out => .ok (.tv (.ol out)) ρ
def fo2 (x : Option Out) (ρ : List T) : ER R := optE x fun x => match x with
  | .d d => .ok (.tv (.fz d)) ρ
  | .nl out => .ok (.tv (.ol out)) ρ
@[simp] theorem ev_fout (p : List D → Option Out) (ρ : List T) (rs : List R) : fOut p ρ rs = fo1 (dats ρ rs) p ρ := rfl
@[simp] theorem fo1_some (ds : List D) (p : List D → Option Out) (ρ : List T) : fo1 (some ds) p ρ = fo2 (p ds) ρ := rfl
@[simp] theorem fo2_d (d : D) (ρ : List T) : fo2 (some (.d d)) ρ = .ok (.tv (.fz d)) ρ := rfl
@[simp] theorem fo2_nl (ds : List D) (ρ : List T) : fo2 (some (.nl ds)) ρ = .ok (.tv (.ol ds)) ρ := rfl
def dc1 (x : Option D) (ρ : List T) (rs : List R) : Option (List D) := x.bind fun d => (dats ρ rs).bind fun ds => some (d :: ds)
def dc2 (d : D) (x : Option (List D)) : Option (List D) := x.bind fun ds => some (d :: ds)
@[simp] theorem ev_dats0 (ρ : List T) : dats ρ [] = some [] := rfl
@[simp] theorem ev_dats (ρ : List T) (r : R) (rs : List R) : dats ρ (r :: rs) = dc1 (dat ρ r) ρ rs := rfl
@[simp] theorem dc1_some (d : D) (ρ : List T) (rs : List R) : dc1 (some d) ρ rs = dc2 d (dats ρ rs) := rfl
@[simp] theorem dc2_some (d : D) (ds : List D) : dc2 d (some ds) = some (d :: ds) := rfl
def fz1 (i : Nat) (ρ : List T) (x : Option T) : Option (D × List T) := x.bind fun t => t.d.bind fun d => some (d, ρ.set i (.fz d))
@[simp] theorem ev_frz_tv (t : T) (ρ : List T) : frz1 ρ (.tv t) = t.d.map fun d => (d, ρ) := by show (t.d.bind fun d => some (d, ρ)) = _; cases t.d <;> rfl
@[simp] theorem ev_frz_bw (i : Nat) (ρ : List T) : frz1 ρ (.bw i) = fz1 i ρ ρ[i]? := rfl
@[simp] theorem fz1_fz (i : Nat) (ρ : List T) (d : D) : fz1 i ρ (some (.fz d)) = some (d, ρ.set i (.fz d)) := rfl
@[simp] theorem fz1_ol (i : Nat) (ρ : List T) (ds : List D) : fz1 i ρ (some (.ol ds)) = some (.lst ds, ρ.set i (.fz (.lst ds))) := rfl
def fs1 (x : Option (D × List T)) (rs : List R) : Option (List D × List T) := x.bind fun (d, ρ1) => (frzs ρ1 rs).bind fun (ds, ρ2) => some (d :: ds, ρ2)
def fs2 (d : D) (x : Option (List D × List T)) : Option (List D × List T) := x.bind fun (ds, ρ2) => some (d :: ds, ρ2)
@[simp] theorem ev_frzs0 (ρ : List T) : frzs ρ [] = some ([], ρ) := rfl
@[simp] theorem ev_frzs (ρ : List T) (r : R) (rs : List R) : frzs ρ (r :: rs) = fs1 (frz1 ρ r) rs := rfl
@[simp] theorem fs1_some (d : D) (ρ : List T) (rs : List R) : fs1 (some (d, ρ)) rs = fs2 d (frzs ρ rs) := rfl
@[simp] theorem fs2_some (d : D) (ds : List D) (ρ : List T) : fs2 d (some (ds, ρ)) = some (d :: ds, ρ) := rfl
def fl1 (x : Option (List D × List T)) : ER R := optE x fun (ds, ρ1) => if ds.length ≤ 1000 then .ok (.tv (.ol ds)) ρ1 else .stuck
def ft1 (x : Option (List D × List T)) : ER R := optE x fun (ds, ρ1) => if ds.length ≤ 1000 then .ok (.tv (.fz (.tup ds))) ρ1 else .stuck
@[simp] theorem ev_flst (ρ : List T) (rs : List R) : fLst ρ rs = fl1 (frzs ρ rs) := rfl
@[simp] theorem ev_ftup (ρ : List T) (rs : List R) : fTup ρ rs = ft1 (frzs ρ rs) := rfl
@[simp] theorem fl1_some (ds : List D) (ρ : List T) : fl1 (some (ds, ρ)) = if ds.length ≤ 1000 then .ok (.tv (.ol ds)) ρ else .stuck := rfl
@[simp] theorem ft1_some (ds : List D) (ρ : List T) : ft1 (some (ds, ρ)) = if ds.length ≤ 1000 then .ok (.tv (.fz (.tup ds))) ρ else .stuck := rfl
/-! tests -/
def tb1 (x : ER R) : ER Bool := x.bind fun r ρ1 => optE r.b fun b => .ok b ρ1
@[simp] theorem ev_tstB (g : List T → ER R) (ρ : List T) : tstB g ρ = tb1 (g ρ) := rfl
@[simp] theorem tb1_ok (b : Bool) (ρ : List T) : tb1 (.ok (.tv (.fz (.bl b))) ρ) = .ok b ρ := rfl
def ta1 (x : ER Bool) (g : List T → ER Bool) : ER Bool := x.bind fun b ρ1 => if b = true then g ρ1 else .ok false ρ1
def to1 (x : ER Bool) (g : List T → ER Bool) : ER Bool := x.bind fun b ρ1 => if b = true then .ok true ρ1 else g ρ1
def tn1 (x : ER Bool) : ER Bool := x.bind fun b ρ1 => .ok (!b) ρ1
@[simp] theorem ev_tstAnd (f g : List T → ER Bool) (ρ : List T) : tstAnd f g ρ = ta1 (f ρ) g := rfl
@[simp] theorem ev_tstOr (f g : List T → ER Bool) (ρ : List T) : tstOr f g ρ = to1 (f ρ) g := rfl
@[simp] theorem ev_tstNot (f : List T → ER Bool) (ρ : List T) : tstNot f ρ = tn1 (f ρ) := rfl
@[simp] theorem ev_tstYes (ρ : List T) : tstYes ρ = .ok true ρ := rfl
@[simp] theorem ta1_ok (b : Bool) (ρ : List T) (g : List T → ER Bool) : ta1 (.ok b ρ) g = if b = true then g ρ else .ok false ρ := rfl
@[simp] theorem to1_ok (b : Bool) (ρ : List T) (g : List T → ER Bool) : to1 (.ok b ρ) g = if b = true then .ok true ρ else g ρ := rfl
@[simp] theorem tn1_ok (b : Bool) (ρ : List T) : tn1 (.ok b ρ) = .ok (!b) ρ := rfl
def av1 (x : ER Bool) (g : List T → ER R) : ER R := x.bind fun b ρ1 => if b = true then g ρ1 else .ok (.tv (.fz (.bl false))) ρ1
def ov1 (x : ER Bool) (g : List T → ER R) : ER R := x.bind fun b ρ1 => if b = true then .ok (.tv (.fz (.bl true))) ρ1 else g ρ1
def nv1 (x : ER Bool) : ER R := x.bind fun b ρ1 => .ok (.tv (.fz (.bl (!b)))) ρ1
def if1 (x : ER Bool) (g1 g2 : List T → ER R) : ER R := x.bind fun b ρ1 => if b = true then g1 ρ1 else g2 ρ1
@[simp] theorem ev_andV (f g : List T → ER R) (ρ : List T) : eAndV f g ρ = av1 (tb1 (f ρ)) g := rfl
@[simp] theorem ev_orV (f g : List T → ER R) (ρ : List T) : eOrV f g ρ = ov1 (tb1 (f ρ)) g := rfl
@[simp] theorem ev_notV (f : List T → ER R) (ρ : List T) : eNotV f ρ = nv1 (tb1 (f ρ)) := rfl
@[simp] theorem ev_if (t : List T → ER Bool) (f g : List T → ER R) (ρ : List T) : eIf t f g ρ = if1 (t ρ) f g := rfl
@[simp] theorem av1_ok (b : Bool) (ρ : List T) (g : List T → ER R) : av1 (.ok b ρ) g = if b = true then g ρ else .ok (.tv (.fz (.bl false))) ρ := rfl
@[simp] theorem ov1_ok (b : Bool) (ρ : List T) (g : List T → ER R) : ov1 (.ok b ρ) g = if b = true then .ok (.tv (.fz (.bl true))) ρ else g ρ := rfl
@[simp] theorem nv1_ok (b : Bool) (ρ : List T) : nv1 (.ok b ρ) = .ok (.tv (.fz (.bl (!b)))) ρ := rfl
@[simp] theorem if1_ok (b : Bool) (ρ : List T) (f g : List T → ER R) : if1 (.ok b ρ) f g = if b = true then f ρ else g ρ := rfl
def cn1 (f f' : List T → List R → ER R) (x : ER R) (gb gc : List T → ER R) : ER R := x.bind fun x ρ1 => (gb ρ1).bind (ch2 f f' gc x)
def cn2 (f f' : List T → List R → ER R) (x : R) (y : ER R) (gc : List T → ER R) : ER R := y.bind (ch2 f f' gc x)
def cn3 (f f' : List T → List R → ER R) (x : R) (y : Option D) (gc : List T → ER R) (ρ2 : List T) : ER R := optE y fun d => (f ρ2 [x, .tv (.fz d)]).bind (ch3 f' gc d)
def cn4 (f' : List T → List R → ER R) (d : D) (x : ER R) (gc : List T → ER R) : ER R := x.bind (ch3 f' gc d)
def cn5 (f' : List T → List R → ER R) (d : D) (x : ER R) : ER R := x.bind fun w ρ4 => f' ρ4 [.tv (.fz d), w]
@[simp] theorem ev_chain (f f' : List T → List R → ER R) (ga gb gc : List T → ER R) (ρ : List T) : eChain f f' ga gb gc ρ = cn1 f f' (ga ρ) gb gc := rfl
@[simp] theorem cn1_ok (f f' : List T → List R → ER R) (x : R) (ρ : List T) (gb gc : List T → ER R) : cn1 f f' (.ok x ρ) gb gc = cn2 f f' x (gb ρ) gc := rfl
@[simp] theorem cn2_ok (f f' : List T → List R → ER R) (x y : R) (ρ : List T) (gc : List T → ER R) : cn2 f f' x (.ok y ρ) gc = cn3 f f' x y.z gc ρ := rfl
@[simp] theorem cn3_ok (f f' : List T → List R → ER R) (x : R) (d : D) (ρ : List T) (gc : List T → ER R) : cn3 f f' x (some d) gc ρ = cn4 f' d (f ρ [x, .tv (.fz d)]) gc := rfl
@[simp] theorem cn4_ok (f' : List T → List R → ER R) (d : D) (b : Bool) (ρ : List T) (gc : List T → ER R) : cn4 f' d (.ok (.tv (.fz (.bl b))) ρ) gc = if b = true then cn5 f' d (gc ρ) else .ok (.tv (.fz (.bl false))) ρ := rfl
@[simp] theorem cn5_ok (f' : List T → List R → ER R) (d : D) (w : R) (ρ : List T) : cn5 f' d (.ok w ρ) = f' ρ [.tv (.fz d), w] := rfl
/-! methods -/
def me1 (ty : Ty) (f : List T → List R → ER R) (x : ER R) (ga : List T → ER (List R)) : ER R := x.bind fun r ρ1 => if tyR ty ρ1 r = true then (ga ρ1).bind fun rs ρ2 => f ρ2 (r :: rs) else .stuck
def me2 (f : List T → List R → ER R) (r : R) (x : ER (List R)) : ER R := x.bind fun rs ρ2 => f ρ2 (r :: rs)
def tr1 (ty : Ty) (x : Option D) : Bool := match x with
  | some d => tyD ty d
  | none => false
@[simp] theorem ev_tyR (ty : Ty) (ρ : List T) (r : R) : tyR ty ρ r = tr1 ty (dat ρ r) := rfl
@[simp] theorem tr1_some (ty : Ty) (d : D) : tr1 ty (some d) = tyD ty d := rfl
@[simp] theorem ev_meth (ty : Ty) (f : List T → List R → ER R) (go : List T → ER R) (ga : List T → ER (List R)) (ρ : List T) : eMeth ty f go ga ρ = me1 ty f (go ρ) ga := rfl
@[simp] theorem me1_ok (ty : Ty) (f : List T → List R → ER R) (r : R) (ρ : List T) (ga : List T → ER (List R)) : me1 ty f (.ok r ρ) ga = if tyR ty ρ r = true then me2 f r (ga ρ) else .stuck := rfl
@[simp] theorem me2_ok (f : List T → List R → ER R) (r : R) (rs : List R) (ρ : List T) : me2 f r (.ok rs ρ) = f ρ (r :: rs) := rfl
def mu1 (p : List D → List D → Option (List D × D)) (i : Nat) (x : Option (List D × List T)) : ER R := optE x fun x => fMut2 p i x.1 x.2
def mu2 (p : List D → List D → Option (List D × D)) (i : Nat) (ds : List D) (ρ : List T) (x : Option T) : ER R :=
  match x with
  | some (.ol cs) => optE (p cs ds) fun x => .ok (.tv (.fz x.2)) (ρ.set i (.ol x.1))
  | _ => .stuck
def mu3 (i : Nat) (ρ : List T) (x : Option (List D × D)) : ER R := optE x fun x => .ok (.tv (.fz x.2)) (ρ.set i (.ol x.1))
@[simp] theorem ev_fmut (p : List D → List D → Option (List D × D)) (ρ : List T) (i : Nat) (as : List R) : fMut p ρ (.bw i :: as) = mu1 p i (frzs ρ as) := rfl
@[simp] theorem mu1_ok (p : List D → List D → Option (List D × D)) (i : Nat) (ds : List D) (ρ : List T) : mu1 p i (some (ds, ρ)) = mu2 p i ds ρ ρ[i]? := rfl
@[simp] theorem mu2_ok (p : List D → List D → Option (List D × D)) (i : Nat) (ds cs : List D) (ρ : List T) : mu2 p i ds ρ (some (.ol cs)) = mu3 i ρ (p cs ds) := rfl
@[simp] theorem mu3_ok (i : Nat) (ρ : List T) (cs : List D) (d : D) : mu3 i ρ (some (cs, d)) = .ok (.tv (.fz d)) (ρ.set i (.ol cs)) := rfl
/-! slices -/
@[simp] theorem ev_oNone (ρ : List T) : oNone ρ = .ok none ρ := rfl
def os1 (x : ER R) : ER (Option Int) := x.bind fun r ρ1 => optE r.z fun d => match d with | .int i => .ok (some i) ρ1 | _ => .stuck
@[simp] theorem ev_oSome (g : List T → ER R) (ρ : List T) : oSome g ρ = os1 (g ρ) := rfl
@[simp] theorem os1_ok (i : Int) (ρ : List T) : os1 (.ok (.tv (.fz (.int i))) ρ) = .ok (some i) ρ := rfl
def sl1 (x : ER R) (gl gh : List T → ER (Option Int)) : ER R := x.bind fun r ρ1 => (gl ρ1).bind fun lo ρ2 => (gh ρ2).bind fun hi ρ3 => fOut (fun ds => match ds with | [d] => pSl d lo hi | _ => none) ρ3 [r]
def sl2 (r : R) (x : ER (Option Int)) (gh : List T → ER (Option Int)) : ER R := x.bind fun lo ρ2 => (gh ρ2).bind fun hi ρ3 => fOut (fun ds => match ds with | [d] => pSl d lo hi | _ => none) ρ3 [r]
def sl3 (r : R) (lo : Option Int) (x : ER (Option Int)) : ER R := x.bind fun hi ρ3 => fOut (fun ds => match ds with | [d] => pSl d lo hi | _ => none) ρ3 [r]
def sl4 (x : Option D) (lo hi : Option Int) (ρ : List T) : ER R := match x with
  | some d => fo2 (pSl d lo hi) ρ
  | none => .stuck
@[simp] theorem ev_sl (go : List T → ER R) (gl gh : List T → ER (Option Int)) (ρ : List T) : eSl go gl gh ρ = sl1 (go ρ) gl gh := rfl
@[simp] theorem sl1_ok (r : R) (ρ : List T) (gl gh : List T → ER (Option Int)) : sl1 (.ok r ρ) gl gh = sl2 r (gl ρ) gh := rfl
@[simp] theorem sl2_ok (r : R) (lo : Option Int) (ρ : List T) (gh : List T → ER (Option Int)) : sl2 r (.ok lo ρ) gh = sl3 r lo (gh ρ) := rfl
@[simp] theorem sl3_ok (r : R) (lo hi : Option Int) (ρ : List T) : sl3 r lo (.ok hi ρ) = sl4 (dat ρ r) lo hi ρ := by
  show fOut _ ρ [r] = _
  rw [ev_fout, ev_dats]
  cases dat ρ r <;> rfl
@[simp] theorem sl4_ok (d : D) (lo hi : Option Int) (ρ : List T) : sl4 (some d) lo hi ρ = fo2 (pSl d lo hi) ρ := rfl
/-! calls -/
def ta2 (t : T) (x : Option (List T × List T)) : Option (List T × List T) := x.bind fun x => some (t :: x.1, x.2)
def ta3 (i : Nat) (ρ : List T) (rs : List R) (x : Option T) : Option (List T × List T) := match x with
  | some .dead => none
  | some t => (takeA (ρ.set i .dead) rs).bind fun x => some (t :: x.1, x.2)
  | none => none
@[simp] theorem ev_take0 (ρ : List T) : takeA ρ [] = some ([], ρ) := rfl
@[simp] theorem ev_take_tv (ρ : List T) (t : T) (rs : List R) : takeA ρ (.tv t :: rs) = ta2 t (takeA ρ rs) := rfl
@[simp] theorem ev_take_bw (ρ : List T) (i : Nat) (rs : List R) : takeA ρ (.bw i :: rs) = ta3 i ρ rs ρ[i]? := rfl
@[simp] theorem ta3_ol (ρ : List T) (i : Nat) (rs : List R) (ds : List D) : ta3 i ρ rs (some (.ol ds)) = ta2 (.ol ds) (takeA (ρ.set i .dead) rs) := rfl
@[simp] theorem ta2_some (t : T) (ts ρ : List T) : ta2 t (some (ts, ρ)) = some (t :: ts, ρ) := rfl
@[simp] theorem ev_put0 (ρ : List T) (ts : List T) : putA ρ [] ts = ρ := by unfold putA; rfl
@[simp] theorem ev_put_tv (ρ : List T) (t u : T) (rs : List R) (ts : List T) : putA ρ (.tv t :: rs) (u :: ts) = putA ρ rs ts := rfl
@[simp] theorem ev_put_bw (ρ : List T) (i : Nat) (u : T) (rs : List R) (ts : List T) : putA ρ (.bw i :: rs) (u :: ts) = (putA ρ rs ts).set i u := rfl
def fn1 (n : Nat) (m : Fn) (rs : List R) (x : Option (List T × List T)) : ER R :=
  optE x fun x => if x.1.length = n then (match m x.1 with
    | .ok t ts => .ok (.tv t) (putA x.2 rs ts)
    | .exc c ts => .exc c (putA x.2 rs ts)
    | .stuck => .stuck) else .stuck
def fn2 (rs : List R) (ρ : List T) (x : FR) : ER R := match x with
    | .ok t ts => .ok (.tv t) (putA ρ rs ts)
    | .exc c ts => .exc c (putA ρ rs ts)
    | .stuck => .stuck
def fn0 (n : Nat) (m : Fn) (x : ER (List R)) : ER R := x.bind fun rs ρ1 => callF n m ρ1 rs
@[simp] theorem ev_fn (n : Nat) (m : Fn) (ga : List T → ER (List R)) (ρ : List T) : eFn n m ga ρ = fn0 n m (ga ρ) := rfl
@[simp] theorem fn0_ok (n : Nat) (m : Fn) (rs : List R) (ρ : List T) : fn0 n m (.ok rs ρ) = fn1 n m rs (takeA ρ rs) := rfl
@[simp] theorem fn1_some (n : Nat) (m : Fn) (rs : List R) (ts ρ : List T) : fn1 n m rs (some (ts, ρ)) = if ts.length = n then fn2 rs ρ (m ts) else .stuck := rfl
@[simp] theorem fn2_ok (rs : List R) (ρ : List T) (t : T) (ts : List T) : fn2 rs ρ (.ok t ts) = .ok (.tv t) (putA ρ rs ts) := rfl
/-! ### statements -/
def sq1 (x : SR) (u : List T → SR) : SR := match x with
  | .nx ρ1 => u ρ1
  | x => x
@[simp] theorem ev_seq (g u : List T → SR) (ρ : List T) : sSeq g u ρ = sq1 (g ρ) u := rfl
@[simp] theorem sq1_nx (ρ : List T) (u : List T → SR) : sq1 (.nx ρ) u = u ρ := rfl
@[simp] theorem sq1_rt (t : T) (ρ : List T) (u : List T → SR) : sq1 (.rt t ρ) u = .rt t ρ := rfl
@[simp] theorem sq1_bk (ρ : List T) (u : List T → SR) : sq1 (.bk ρ) u = .bk ρ := rfl
@[simp] theorem sq1_ct (ρ : List T) (u : List T → SR) : sq1 (.ct ρ) u = .ct ρ := rfl
@[simp] theorem sq1_exc (c : Str) (ρ : List T) (u : List T → SR) : sq1 (.exc c ρ) u = .exc c ρ := rfl
@[simp] theorem ev_next (ρ : List T) : sNext ρ = .nx ρ := rfl
@[simp] theorem ev_brk (ρ : List T) : sBrk ρ = .bk ρ := rfl
@[simp] theorem ev_cnt (ρ : List T) : sCnt ρ = .ct ρ := rfl
def ex1 (x : ER R) : SR := x.toS fun _ ρ1 => .nx ρ1
@[simp] theorem ev_expr (g : List T → ER R) (ρ : List T) : sExpr g ρ = ex1 (g ρ) := rfl
@[simp] theorem ex1_ok (r : R) (ρ : List T) : ex1 (.ok r ρ) = .nx ρ := rfl
def si1 (x : ER Bool) (a b : List T → SR) : SR := x.toS fun c ρ1 => if c = true then a ρ1 else b ρ1
@[simp] theorem ev_sif (g : List T → ER Bool) (a b : List T → SR) (ρ : List T) : sIf g a b ρ = si1 (g ρ) a b := rfl
@[simp] theorem si1_ok (c : Bool) (ρ : List T) (a b : List T → SR) : si1 (.ok c ρ) a b = if c = true then a ρ else b ρ := rfl
def re1 (x : ER R) : SR := x.toS fun r ρ1 => optS (toRet ρ1 r) fun (t, ρ2) => .rt t ρ2
def re2 (x : Option (T × List T)) : SR := optS x fun (t, ρ2) => .rt t ρ2
def re3 (i : Nat) (ρ : List T) (x : Option T) : Option (T × List T) := match x with
    | some .dead => none
    | some t => some (t, ρ.set i .dead)
    | none => none
@[simp] theorem ev_ret (g : List T → ER R) (ρ : List T) : sRet g ρ = re1 (g ρ) := rfl
@[simp] theorem re1_tv (t : T) (ρ : List T) : re1 (.ok (.tv t) ρ) = .rt t ρ := rfl
@[simp] theorem re1_bw (i : Nat) (ρ : List T) : re1 (.ok (.bw i) ρ) = re2 (re3 i ρ ρ[i]?) := rfl
@[simp] theorem re3_ol (i : Nat) (ρ : List T) (ds : List D) : re3 i ρ (some (.ol ds)) = some (.ol ds, ρ.set i .dead) := rfl
@[simp] theorem re2_some (t : T) (ρ : List T) : re2 (some (t, ρ)) = .rt t ρ := rfl
@[simp] theorem ev_retN (ρ : List T) : sRetN ρ = .rt (.fz .non) ρ := rfl
def se1 (i : Nat) (x : ER R) : SR := x.toS fun r ρ1 => optS (toSlot ρ1 r) fun (t, ρ2) => .nx (ρ2.set i t)
def se2 (i : Nat) (x : Option (D × List T)) : SR := optS (x.bind fun (d, ρ1) => some (.fz d, ρ1)) fun ((t, ρ2) : T × List T) => .nx (ρ2.set i t)
@[simp] theorem ev_set (i : Nat) (g : List T → ER R) (ρ : List T) : sSet i g ρ = se1 i (g ρ) := rfl
@[simp] theorem se1_tv (i : Nat) (t : T) (ρ : List T) : se1 i (.ok (.tv t) ρ) = .nx (ρ.set i t) := rfl
@[simp] theorem se1_bw (i j : Nat) (ρ : List T) : se1 i (.ok (.bw j) ρ) = se2 i (fz1 j ρ ρ[j]?) := rfl
@[simp] theorem se2_some (i : Nat) (d : D) (ρ : List T) : se2 i (some (d, ρ)) = .nx (ρ.set i (.fz d)) := rfl
def as1 (G : D → List T → Option (List T)) (x : ER R) : SR := x.toS fun r ρ1 => optS (frz1 ρ1 r) fun (d, ρ2) => optS (G d ρ2) fun ρ3 => .nx ρ3
def as2 (G : D → List T → Option (List T)) (x : Option (D × List T)) : SR := optS x fun (d, ρ2) => optS (G d ρ2) fun ρ3 => .nx ρ3
def as3 (x : Option (List T)) : SR := optS x fun ρ3 => .nx ρ3
@[simp] theorem ev_asg (G : D → List T → Option (List T)) (g : List T → ER R) (ρ : List T) : sAsg G g ρ = as1 G (g ρ) := rfl
@[simp] theorem as1_ok (G : D → List T → Option (List T)) (r : R) (ρ : List T) : as1 G (.ok r ρ) = as2 G (frz1 ρ r) := rfl
@[simp] theorem as2_some (G : D → List T → Option (List T)) (d : D) (ρ : List T) : as2 G (some (d, ρ)) = as3 (G d ρ) := rfl
@[simp] theorem as3_some (ρ : List T) : as3 (some ρ) = .nx ρ := rfl
@[simp] theorem ev_tgName (i : Nat) (d : D) (ρ : List T) : tgName i d ρ = some (ρ.set i (.fz d)) := rfl
@[simp] theorem ev_tgNil (ρ : List T) : tgNil [] ρ = some ρ := rfl
def tc1 (Gs : List D → List T → Option (List T)) (ds : List D) (x : Option (List T)) : Option (List T) := x.bind fun ρ1 => Gs ds ρ1
@[simp] theorem ev_tgCons (G : D → List T → Option (List T)) (Gs : List D → List T → Option (List T)) (d : D) (ds : List D) (ρ : List T) : tgCons G Gs (d :: ds) ρ = tc1 Gs ds (G d ρ) := rfl
@[simp] theorem tc1_some (Gs : List D → List T → Option (List T)) (ds : List D) (ρ : List T) : tc1 Gs ds (some ρ) = Gs ds ρ := rfl
@[simp] theorem ev_tgTup (n : Nat) (Gs : List D → List T → Option (List T)) (ds : List D) (ρ : List T) : tgTup n Gs (.tup ds) ρ = if ds.length = n then Gs ds ρ else none := rfl
def su1 (d : D) (x : ER R) (gi : List T → ER R) : Option (List T) := match x with
  | .ok (.bw i) ρ1 => match gi ρ1 with
    | .ok (.tv (.fz (.int k))) ρ2 => match ρ2[i]? with
      | some (.ol cs) => (ixN cs.length k).bind fun j => some (ρ2.set i (.ol (cs.set j d)))
      | _ => none
    | _ => none
  | _ => none
def su2 (d : D) (i : Nat) (x : ER R) : Option (List T) := match x with
    | .ok (.tv (.fz (.int k))) ρ2 => match ρ2[i]? with
      | some (.ol cs) => (ixN cs.length k).bind fun j => some (ρ2.set i (.ol (cs.set j d)))
      | _ => none
    | _ => none
def su3 (d : D) (i : Nat) (k : Int) (ρ : List T) (x : Option T) : Option (List T) := match x with
      | some (.ol cs) => (ixN cs.length k).bind fun j => some (ρ.set i (.ol (cs.set j d)))
      | _ => none
def su4 (d : D) (i : Nat) (ρ : List T) (cs : List D) (x : Option Nat) : Option (List T) := x.bind fun j => some (ρ.set i (.ol (cs.set j d)))
@[simp] theorem ev_tgSubL (go gi : List T → ER R) (d : D) (ρ : List T) : tgSubL go gi d ρ = su1 d (go ρ) gi := rfl
@[simp] theorem su1_ok (d : D) (i : Nat) (ρ : List T) (gi : List T → ER R) : su1 d (.ok (.bw i) ρ) gi = su2 d i (gi ρ) := rfl
@[simp] theorem su2_ok (d : D) (i : Nat) (k : Int) (ρ : List T) : su2 d i (.ok (.tv (.fz (.int k))) ρ) = su3 d i k ρ ρ[i]? := rfl
@[simp] theorem su3_ok (d : D) (i : Nat) (k : Int) (ρ : List T) (cs : List D) : su3 d i k ρ (some (.ol cs)) = su4 d i ρ cs (ixN cs.length k) := rfl
@[simp] theorem su4_ok (d : D) (i : Nat) (ρ : List T) (cs : List D) (j : Nat) : su4 d i ρ cs (some j) = some (ρ.set i (.ol (cs.set j d))) := rfl
/-! loops -/
noncomputable def lp1 (kpb : Kp) (x : ER Src) (G : D → List T → Option (List T)) (body : List T → SR) : SR := x.toS fun s ρ1 => if wOk s.w kpb = true then loopS s.w ρ1 G body s.items ρ1 else .stuck
@[simp] theorem ev_for (kpb : Kp) (gi : List T → ER Src) (G : D → List T → Option (List T)) (body : List T → SR) (ρ : List T) : sFor kpb gi G body ρ = lp1 kpb (gi ρ) G body := rfl
@[simp] theorem lp1_ok (kpb : Kp) (ds : List D) (w : List Nat) (ρ : List T) (G : D → List T → Option (List T)) (body : List T → SR) : lp1 kpb (.ok ⟨ds, w⟩ ρ) G body = if wOk w kpb = true then loopS w ρ G body ds ρ else .stuck := rfl
noncomputable def cp1 (vs : List Nat) (x : ER Src) (G : D → List T → Option (List T)) (gt : List T → ER Bool) (ge : List T → ER R) : ER R :=
  x.bind fun s ρ1 => if s.items.length ≤ 100000 ∧ wOkC s.w vs = true then (compL s.w (wipeT ρ1 vs) vs G gt ge s.items [] (wipeT ρ1 vs)).bind fun acc ρ2 => .ok (.tv (.ol acc)) ρ2 else .stuck
def cp2 (x : ER (List D)) : ER R := x.bind fun acc ρ2 => .ok (.tv (.ol acc)) ρ2
@[simp] theorem ev_comp (vs : List Nat) (gi : List T → ER Src) (G : D → List T → Option (List T)) (gt : List T → ER Bool) (ge : List T → ER R) (ρ : List T) : eComp vs gi G gt ge ρ = cp1 vs (gi ρ) G gt ge := rfl
@[simp] theorem cp1_ok (vs : List Nat) (ds : List D) (w : List Nat) (ρ : List T) (G : D → List T → Option (List T)) (gt : List T → ER Bool) (ge : List T → ER R) :
    cp1 vs (.ok ⟨ds, w⟩ ρ) G gt ge = if ds.length ≤ 100000 ∧ wOkC w vs = true then cp2 (compL w (wipeT ρ vs) vs G gt ge ds [] (wipeT ρ vs)) else .stuck := rfl
@[simp] theorem cp2_ok (acc : List D) (ρ : List T) : cp2 (.ok acc ρ) = .ok (.tv (.ol acc)) ρ := rfl
def il1 (x : ER R) : ER Src := x.bind fun r ρ1 => optE (lsrc ρ1 r) fun x => .ok ⟨x.ds, x.w⟩ ρ1
def il2 (x : Option LSrc) (ρ : List T) : ER Src := optE x fun x => .ok ⟨x.ds, x.w⟩ ρ
@[simp] theorem ev_iLst (g : List T → ER R) (ρ : List T) : iLst g ρ = il1 (g ρ) := rfl
@[simp] theorem il1_ok (r : R) (ρ : List T) : il1 (.ok r ρ) = il2 (lsrc ρ r) ρ := rfl
@[simp] theorem il2_some (ds : List D) (w : List Nat) (ρ : List T) : il2 (some ⟨ds, w⟩) ρ = .ok ⟨ds, w⟩ ρ := rfl
def ls1 (j : Nat) (x : Option T) : Option LSrc := match x with
    | some (.ol ds) => some ⟨ds, [j]⟩
    | _ => none
@[simp] theorem ev_lsrc_lst (ρ : List T) (ds : List D) : lsrc ρ (.tv (.fz (.lst ds))) = some ⟨ds, []⟩ := rfl
@[simp] theorem ev_lsrc_scr (ρ : List T) (ns : List Int) : lsrc ρ (.tv (.fz (.scr ns))) = some ⟨ns.map .int, []⟩ := rfl
@[simp] theorem ev_lsrc_ol (ρ : List T) (ds : List D) : lsrc ρ (.tv (.ol ds)) = some ⟨ds, []⟩ := rfl
@[simp] theorem ev_lsrc_bw (ρ : List T) (j : Nat) : lsrc ρ (.bw j) = ls1 j ρ[j]? := rfl
@[simp] theorem ls1_ol (j : Nat) (ds : List D) : ls1 j (some (.ol ds)) = some ⟨ds, [j]⟩ := rfl
def it1 (x : ER R) : ER Src := x.bind fun r ρ1 => optE r.z fun d => match d with | .tup ds => .ok ⟨ds, []⟩ ρ1 | _ => .stuck
@[simp] theorem ev_iTpl (g : List T → ER R) (ρ : List T) : iTpl g ρ = it1 (g ρ) := rfl
@[simp] theorem it1_ok (ds : List D) (ρ : List T) : it1 (.ok (.tv (.fz (.tup ds))) ρ) = .ok ⟨ds, []⟩ ρ := rfl
def ir1 (x : ER R) : ER Src := x.bind fun r ρ1 => optE r.z fun d => match d with | .int n => if bigB n = true then .ok ⟨rgD 0 n, []⟩ ρ1 else .stuck | _ => .stuck
@[simp] theorem ev_iRg1 (g : List T → ER R) (ρ : List T) : iRg1 g ρ = ir1 (g ρ) := rfl
@[simp] theorem ir1_ok (n : Int) (ρ : List T) : ir1 (.ok (.tv (.fz (.int n))) ρ) = if bigB n = true then .ok ⟨rgD 0 n, []⟩ ρ else .stuck := rfl
def ir2 (x : ER R) (g' : List T → ER R) : ER Src := x.bind fun r ρ1 => (g' ρ1).bind fun r' ρ2 => optE r.z fun d => optE r'.z fun d' => rgSrc d d' ρ2
def ir3 (r : R) (x : ER R) : ER Src := x.bind fun r' ρ2 => optE r.z fun d => optE r'.z fun d' => rgSrc d d' ρ2
@[simp] theorem ev_iRg2 (g g' : List T → ER R) (ρ : List T) : iRg2 g g' ρ = ir2 (g ρ) g' := rfl
@[simp] theorem ir2_ok (r : R) (ρ : List T) (g' : List T → ER R) : ir2 (.ok r ρ) g' = ir3 r (g' ρ) := rfl
@[simp] theorem ir3_ok (a b : Int) (ρ : List T) : ir3 (.tv (.fz (.int a))) (.ok (.tv (.fz (.int b))) ρ) = if (bigB a && bigB b) = true then .ok ⟨rgD a b, []⟩ ρ else .stuck := rfl
def is1 (x : ER R) : ER Src := x.bind fun r ρ1 => optE r.z fun d => match d with | .str x => .ok ⟨signsD x, []⟩ ρ1 | _ => .stuck
@[simp] theorem ev_iStr (g : List T → ER R) (ρ : List T) : iStrD g ρ = is1 (g ρ) := rfl
@[simp] theorem is1_ok (x : Str) (ρ : List T) : is1 (.ok (.tv (.fz (.str x))) ρ) = .ok ⟨signsD x, []⟩ ρ := rfl
def ie1 (x : ER R) : ER Src := x.bind fun r ρ1 => optE (lsrc ρ1 r) fun x => .ok ⟨enumD x.ds, x.w⟩ ρ1
def ie2 (x : Option LSrc) (ρ : List T) : ER Src := optE x fun x => .ok ⟨enumD x.ds, x.w⟩ ρ
@[simp] theorem ev_iEnum (g : List T → ER R) (ρ : List T) : iEnumD g ρ = ie1 (g ρ) := rfl
@[simp] theorem ie1_ok (r : R) (ρ : List T) : ie1 (.ok r ρ) = ie2 (lsrc ρ r) ρ := rfl
@[simp] theorem ie2_some (ds : List D) (w : List Nat) (ρ : List T) : ie2 (some ⟨ds, w⟩) ρ = .ok ⟨enumD ds, w⟩ ρ := rfl
def iz1 (x : ER R) (g' : List T → ER R) : ER Src := x.bind fun r ρ1 => (g' ρ1).bind fun r' ρ2 => optE (lsrc ρ2 r) fun x => optE (lsrc ρ2 r') fun y => .ok ⟨zipD x.ds y.ds, x.w ++ y.w⟩ ρ2
def iz2 (r : R) (x : ER R) : ER Src := x.bind fun r' ρ2 => optE (lsrc ρ2 r) fun x => optE (lsrc ρ2 r') fun y => .ok ⟨zipD x.ds y.ds, x.w ++ y.w⟩ ρ2
def iz3 (x y : Option LSrc) (ρ : List T) : ER Src := optE x fun x => optE y fun y => .ok ⟨zipD x.ds y.ds, x.w ++ y.w⟩ ρ
@[simp] theorem ev_iZip (g g' : List T → ER R) (ρ : List T) : iZipD g g' ρ = iz1 (g ρ) g' := rfl
@[simp] theorem iz1_ok (r : R) (ρ : List T) (g' : List T → ER R) : iz1 (.ok r ρ) g' = iz2 r (g' ρ) := rfl
@[simp] theorem iz2_ok (r r' : R) (ρ : List T) : iz2 r (.ok r' ρ) = iz3 (lsrc ρ r) (lsrc ρ r') ρ := rfl
@[simp] theorem iz3_ok (ds es : List D) (w v : List Nat) (ρ : List T) : iz3 (some ⟨ds, w⟩) (some ⟨es, v⟩) ρ = .ok ⟨zipD ds es, w ++ v⟩ ρ := rfl
/-! the def -/
def rn1 (x : SR) (n : Nat) (kp : Kp) : FR := match x with
  | .rt t ρ => .ok t (finL kp 0 n ρ)
  | .nx ρ => .ok (.fz .non) (finL kp 0 n ρ)
  | .exc c ρ => .exc c (finL kp 0 n ρ)
  | _ => .stuck
theorem ev_run (N n : Nat) (kp : Kp) (g : List T → SR) (ts : List T) : runF N n kp g ts = rn1 (g (ts ++ List.replicate (N - n) .dead)) n kp := rfl
@[simp] theorem rn1_rt (t : T) (ρ : List T) (n : Nat) (kp : Kp) : rn1 (.rt t ρ) n kp = .ok t (finL kp 0 n ρ) := rfl
@[simp] theorem rn1_nx (ρ : List T) (n : Nat) (kp : Kp) : rn1 (.nx ρ) n kp = .ok (.fz .non) (finL kp 0 n ρ) := rfl
@[simp] theorem rn1_exc (c : Str) (ρ : List T) (n : Nat) (kp : Kp) : rn1 (.exc c ρ) n kp = .exc c (finL kp 0 n ρ) := rfl

/-! ### operations on data -/
@[simp] theorem ev_pII (c : Int → Int → Bool) (f : Int → Int → D) (i j : Int) : pII c f [.int i, .int j] = if c i j = true then some (.d (f i j)) else none := rfl
@[simp] theorem ev_pLt (i j : Int) : pLt [.int i, .int j] = some (.d (.bl (decide (i < j)))) := rfl
@[simp] theorem ev_pLe (i j : Int) : pLe [.int i, .int j] = some (.d (.bl (decide (i ≤ j)))) := rfl
@[simp] theorem ev_pGt (i j : Int) : pGt [.int i, .int j] = some (.d (.bl (decide (j < i)))) := rfl
@[simp] theorem ev_pGe (i j : Int) : pGe [.int i, .int j] = some (.d (.bl (decide (j ≤ i)))) := rfl
@[simp] theorem ev_pSub (i j : Int) : pSub [.int i, .int j] = some (.d (.int (i - j))) := rfl
@[simp] theorem ev_pAddI (i j : Int) : pAddI [.int i, .int j] = some (.d (.int (i + j))) := rfl
@[simp] theorem ev_pAdd (i j : Int) : pAdd [.int i, .int j] = some (.d (.int (i + j))) := rfl
theorem ev_pAddL (a b : List D) : pAdd [.lst a, .lst b] = if a.length + b.length ≤ 1000000 then some (.nl (a ++ b)) else none := by
  unfold pAdd orP pAddI pII pCat pLL
  by_cases h : a.length + b.length ≤ 1000000 <;> simp [h, pCatS]
theorem ev_pMulC (i j : Int) : pMul [.int i, .int j] = if cMulB i j = true then some (.d (.int (i * j))) else none := by
  unfold pMul orP pMulI pII
  by_cases h : cMulB i j = true <;> simp [h, pRep]
@[simp] theorem ev_pMulL (a : List D) (k : Int) : pMul [.lst a, .int k] = pRep [.lst a, .int k] := rfl
theorem ev_pDivC (i j : Int) : pDiv [.int i, .int j] = if cDivB i j = true then some (.d (.int (i.fdiv j))) else if cDivW i j = true then some (.d (.int (i.fdiv j))) else none := by
  unfold pDiv orP pDivN pDivW pII
  by_cases h : cDivB i j = true <;> simp [h]
theorem ev_pModC (i j : Int) : pMod [.int i, .int j] = if j = 0 then none else some (.d (.int (i.fmod j))) := by
  unfold pMod pII
  by_cases h : j = 0 <;> simp [h]
@[simp] theorem ev_pNeg (i : Int) : pNeg [.int i] = some (.d (.int (-i))) := rfl
@[simp] theorem ev_p1 (p : D → Option D) (a : D) : p1 p [a] = (p a).map .d := rfl
@[simp] theorem ev_p1N (p : D → Option (List D)) (a : D) : p1N p [a] = (p a).map .nl := rfl
@[simp] theorem ev_ixL (xs : List D) (i : Int) : pIx [.lst xs, .int i] = (atI xs i).map .d := rfl
@[simp] theorem ev_ixT (xs : List D) (i : Int) : pIx [.tup xs, .int i] = (atI xs i).map .d := rfl
@[simp] theorem ev_ixS (ns : List Int) (i : Int) : pIx [.scr ns, .int i] = (atI ns i).map fun n => .d (.int n) := rfl
@[simp] theorem ev_ixZ (z : Str) (i : Int) : pIx [.str z, .int i] = if z.length ≤ 1000000 then (atI z.cps.toList i).map fun c => .d (.str ⟨#[c]⟩) else none := rfl
@[simp] theorem kpC_ap (vs : List Nat) (i : Nat) : kpC vs i = !vs.contains i := rfl
@[simp] theorem chkW_nil (ρ0 ρ : List T) : chkW [] ρ0 ρ = True := eq_true fun _ h => by cases h
@[simp] theorem chkW_cons (j : Nat) (w : List Nat) (ρ0 ρ : List T) : chkW (j :: w) ρ0 ρ = (ρ[j]? = ρ0[j]? ∧ chkW w ρ0 ρ) := by unfold chkW; simp
theorem cMulB_l {i : Int} (j : Int) (h1 : -18446744073709551616 < i) (h2 : i < 18446744073709551616) : cMulB i j = true := by unfold cMulB; simp [h1, h2]
theorem cMulB_r (i : Int) {j : Int} (h1 : -18446744073709551616 < j) (h2 : j < 18446744073709551616) : cMulB i j = true := by unfold cMulB; simp [h1, h2]
@[simp] theorem mul_l {i j : Int} (h1 : -18446744073709551616 < i) (h2 : i < 18446744073709551616) : pMul [.int i, .int j] = some (.d (.int (i * j))) := by rw [ev_pMulC, if_pos (cMulB_l j h1 h2)]
@[simp] theorem mul_r {i j : Int} (h1 : -18446744073709551616 < j) (h2 : j < 18446744073709551616) : pMul [.int i, .int j] = some (.d (.int (i * j))) := by rw [ev_pMulC, if_pos (cMulB_r i h1 h2)]
@[simp] theorem div_ok {i j : Int} (h1 : j ≠ 0) (h2 : j.natAbs < 1073741824) : pDiv [.int i, .int j] = some (.d (.int (i.fdiv j))) := by rw [ev_pDivC, if_pos (by unfold cDivB; simp [h1, h2])]
@[simp] theorem mod_ok {i j : Int} (h1 : j ≠ 0) : pMod [.int i, .int j] = some (.d (.int (i.fmod j))) := by rw [ev_pModC, if_neg h1]
theorem atI_of {α : Type} (xs : List α) (k : Nat) (h : k < xs.length) : atI xs ((k : Nat) : Int) = some xs[k] := by
  unfold atI ixN
  rw [if_pos (by omega), if_pos (by omega)]
  simp [h]
@[simp] theorem pEq_int (i j : Int) : pEq [.int i, .int j] = some (.d (.bl (decide (i = j)))) := rfl
@[simp] theorem pNe_int (i j : Int) : pNe [.int i, .int j] = some (.d (.bl (!decide (i = j)))) := rfl
@[simp] theorem pEq_str (i j : Str) : pEq [.str i, .str j] = some (.d (.bl (decide (i = j)))) := rfl
@[simp] theorem pNe_str (i j : Str) : pNe [.str i, .str j] = some (.d (.bl (!decide (i = j)))) := rfl
@[simp] theorem pEq_bl (i j : Bool) : pEq [.bl i, .bl j] = some (.d (.bl (decide (i = j)))) := rfl
@[simp] theorem pNe_bl (i j : Bool) : pNe [.bl i, .bl j] = some (.d (.bl (!decide (i = j)))) := rfl
@[simp] theorem ix3_0 {α : Type} (a b c : α) : atI [a, b, c] 0 = some a := rfl
@[simp] theorem ix3_1 {α : Type} (a b c : α) : atI [a, b, c] 1 = some b := rfl
@[simp] theorem ix3_2 {α : Type} (a b c : α) : atI [a, b, c] 2 = some c := rfl
@[simp] theorem ixN_3_0 : ixN 3 0 = some 0 := rfl
@[simp] theorem ixN_3_1 : ixN 3 1 = some 1 := rfl
@[simp] theorem ixN_3_2 : ixN 3 2 = some 2 := rfl
end DL

set_option Elab.async false
set_option linter.all false
set_option maxRecDepth 100000
namespace DL
open PySem PySem.Spec L2
section
variable {w : List Nat} {ρ0 : List T} {vs : List Nat} {G : D → List T → Option (List T)} {gt : List T → ER Bool} {ge : List T → ER R} {body : List T → SR}
def ct4 (vs : List Nat) (x : Option (D × List T)) : Option (Option D × List T) := x.map fun x => (some x.1, wipeT x.2 vs)
def ct3 (vs : List Nat) (x : ER R) : Option (Option D × List T) := match x with
  | .ok r ρ3 => ct4 vs (frz1 ρ3 r)
  | _ => none
def ct2 (vs : List Nat) (x : ER Bool) (ge : List T → ER R) : Option (Option D × List T) := match x with
  | .ok b ρ2 => if b = true then ct3 vs (ge ρ2) else some (none, wipeT ρ2 vs)
  | _ => none
def ct1 (vs : List Nat) (x : Option (List T)) (gt : List T → ER Bool) (ge : List T → ER R) : Option (Option D × List T) := x.bind fun ρ1 => ct2 vs (gt ρ1) ge
@[simp] theorem ct1_ok (ρ : List T) : ct1 vs (some ρ) gt ge = ct2 vs (gt ρ) ge := rfl
@[simp] theorem ct2_ok (b : Bool) (ρ : List T) : ct2 vs (.ok b ρ) ge = if b = true then ct3 vs (ge ρ) else some (none, wipeT ρ vs) := rfl
@[simp] theorem ct3_ok (r : R) (ρ : List T) : ct3 vs (.ok r ρ) = ct4 vs (frz1 ρ r) := rfl
@[simp] theorem ct4_ok (d : D) (ρ : List T) : ct4 vs (some (d, ρ)) = some (some d, wipeT ρ vs) := rfl
theorem compL_step (d : D) (ds acc : List D) (ρ : List T) {y : Option D} {ρ' : List T} (h : ct1 vs (G d ρ) gt ge = some (y, ρ')) (hc : chkW w ρ0 ρ') :
    compL w ρ0 vs G gt ge (d :: ds) acc ρ = compL w ρ0 vs G gt ge ds (acc ++ y.toList) ρ' := by
  conv => lhs; unfold compL
  cases h1 : G d ρ with
  | none => rw [h1] at h; cases h
  | some ρ1 =>
    rw [h1, ct1_ok] at h
    rw [optE_some]
    cases h2 : gt ρ1 with
    | ok b ρ2 =>
      rw [h2, ct2_ok] at h
      rw [bindN_ok]
      cases b with
      | true =>
        rw [if_pos rfl] at h ⊢
        cases h3 : ge ρ2 with
        | ok r ρ3 =>
          rw [h3, ct3_ok] at h
          rw [bindN_ok]
          cases h4 : frz1 ρ3 r with
          | none => rw [h4] at h; cases h
          | some x =>
            rw [h4] at h
            cases h
            rw [optE_some, if_pos hc]
            rfl
        | _ => rw [h3] at h; cases h
      | false =>
        rw [if_neg (by decide)] at h ⊢
        cases h
        rw [if_pos hc]
        simp
    | _ => rw [h2] at h; cases h
theorem compL_from (I : Nat → List D → List T → Prop) : ∀ (items : List D) (k : Nat) (acc : List D) (ρ : List T), I k acc ρ →
    (∀ i d acc ρ, items[i]? = some d → I (k + i) acc ρ → ∃ y ρ', ct1 vs (G d ρ) gt ge = some (y, ρ') ∧ chkW w ρ0 ρ' ∧ I (k + i + 1) (acc ++ y.toList) ρ') →
    ∃ acc' ρ', compL w ρ0 vs G gt ge items acc ρ = .ok acc' ρ' ∧ I (k + items.length) acc' ρ'
  | [], k, acc, ρ, h0, _ => ⟨acc, ρ, rfl, h0⟩
  | d :: ds, k, acc, ρ, h0, step => by
    obtain ⟨y, ρ1, e1, e2, e3⟩ := step 0 d acc ρ rfl h0
    obtain ⟨acc', ρ', p, q⟩ := compL_from I ds (k + 1) _ ρ1 e3 fun i d' acc ρ hi hI => by
      have e : k + 1 + i = k + (i + 1) := by omega
      rw [e] at hI ⊢
      exact step (i + 1) d' acc ρ hi hI
    refine ⟨acc', ρ', ?_, ?_⟩
    · rw [compL_step d ds acc ρ e1 e2]; exact p
    · have e : k + (d :: ds).length = k + 1 + ds.length := by rw [List.length_cons]; omega
      rw [e]
      exact q
/-- a comprehension by an invariant -/
theorem compL_inv (I : Nat → List D → List T → Prop) (items : List D) (acc : List D) (ρ : List T) (h0 : I 0 acc ρ)
    (step : ∀ i d acc ρ, items[i]? = some d → I i acc ρ → ∃ y ρ', ct1 vs (G d ρ) gt ge = some (y, ρ') ∧ chkW w ρ0 ρ' ∧ I (i + 1) (acc ++ y.toList) ρ') :
    ∃ acc' ρ', compL w ρ0 vs G gt ge items acc ρ = .ok acc' ρ' ∧ I items.length acc' ρ' := by
  obtain ⟨a, b, p, q⟩ := compL_from (w := w) (ρ0 := ρ0) (vs := vs) (G := G) (gt := gt) (ge := ge) I items 0 acc ρ h0 fun i d acc ρ hi hI => by
    rw [Nat.zero_add] at hI ⊢
    exact step i d acc ρ hi hI
  exact ⟨a, b, p, by rw [Nat.zero_add] at q; exact q⟩
theorem chkW_rf (ρ : List T) : chkW w ρ ρ := fun _ _ => rfl
/-- a comprehension that changes nothing -/
theorem compL_map (F : D → Option D) (ρ : List T) : ∀ (items : List D) (acc : List D),
    (∀ d ∈ items, ct1 vs (G d ρ) gt ge = some (F d, ρ)) → compL w ρ vs G gt ge items acc ρ = .ok (acc ++ items.filterMap F) ρ
  | [], acc, _ => by show ER.ok acc ρ = _; simp
  | d :: ds, acc, step => by
    rw [compL_step d ds acc ρ (step d List.mem_cons_self) (chkW_rf ρ), compL_map F ρ ds _ fun d hd => step d (List.mem_cons_of_mem _ hd)]
    cases h : F d <;> simp [h]
theorem fm_congr {α β : Type} {f g : α → Option β} : ∀ {l : List α}, (∀ x ∈ l, f x = g x) → l.filterMap f = l.filterMap g
  | [], _ => rfl
  | x :: l, h => by
    have ih := fm_congr (l := l) fun y hy => h y (List.mem_cons_of_mem _ hy)
    have e := h x List.mem_cons_self
    cases q : g x with
    | none => rw [List.filterMap_cons_none (e.trans q), List.filterMap_cons_none q, ih]
    | some y => rw [List.filterMap_cons_some (e.trans q), List.filterMap_cons_some q, ih]
/-- a comprehension over what stands for src, each told as r -/
theorem compL_each {α : Type} (items : List D) (src : List α) (c r : α → D) (hi : items = src.map c) (acc : List D) (ρ : List T)
    (h : ∀ x ∈ src, ct1 vs (G (c x) ρ) gt ge = some (some (r x), ρ)) : compL w ρ vs G gt ge items acc ρ = .ok (acc ++ src.map r) ρ := by
  subst hi
  induction src generalizing acc with
  | nil => show ER.ok acc ρ = _; simp
  | cons x src ih =>
    rw [List.map_cons, compL_step (c x) _ acc ρ (h x List.mem_cons_self) (chkW_rf ρ), ih _ fun y hy => h y (List.mem_cons_of_mem _ hy)]
    simp
/-- the same, some left out -/
theorem compL_some {α : Type} (items : List D) (src : List α) (c : α → D) (r : α → Option D) (hi : items = src.map c) (acc : List D) (ρ : List T)
    (h : ∀ x ∈ src, ct1 vs (G (c x) ρ) gt ge = some (r x, ρ)) : compL w ρ vs G gt ge items acc ρ = .ok (acc ++ src.filterMap r) ρ := by
  subst hi
  induction src generalizing acc with
  | nil => show ER.ok acc ρ = _; simp
  | cons x src ih =>
    rw [List.map_cons, compL_step (c x) _ acc ρ (h x List.mem_cons_self) (chkW_rf ρ), ih _ fun y hy => h y (List.mem_cons_of_mem _ hy)]
    cases q : r x <;> simp [q]
@[simp] theorem fmap_none {α β : Type} (l : List α) : l.filterMap (fun _ => (none : Option β)) = [] := by induction l with
  | nil => rfl
  | cons x l ih => rw [List.filterMap_cons_none rfl, ih]
/-- how a loop may end -/
def LEnd (N : List T → Prop) (Rt : T → List T → Prop) : SR → Prop
  | .nx ρ => N ρ
  | .rt t ρ => Rt t ρ
  | _ => False
theorem loopS_from (I : Nat → List T → Prop) (J : List T → Prop) (Rt : T → List T → Prop) : ∀ (items : List D) (k : Nat) (ρ : List T), I k ρ →
    (∀ i d ρ, items[i]? = some d → I (k + i) ρ → (∃ ρ2, (optS (G d ρ) body = .nx ρ2 ∨ optS (G d ρ) body = .ct ρ2) ∧ chkW w ρ0 ρ2 ∧ I (k + i + 1) ρ2) ∨ (∃ ρ2, optS (G d ρ) body = .bk ρ2 ∧ J ρ2) ∨ ∃ t ρ2, optS (G d ρ) body = .rt t ρ2 ∧ Rt t ρ2) →
    LEnd (fun ρ' => I (k + items.length) ρ' ∨ J ρ') Rt (loopS w ρ0 G body items ρ)
  | [], k, ρ, h0, _ => .inl h0
  | d :: ds, k, ρ, h0, step => by
    have e2 := step 0 d ρ rfl h0
    have more : ∀ ρ1, I (k + 1) ρ1 → LEnd (fun ρ' => I (k + (d :: ds).length) ρ' ∨ J ρ') Rt (loopS w ρ0 G body ds ρ1) := by
      intro ρ1 h1
      have q := loopS_from I J Rt ds (k + 1) ρ1 h1 fun i d' ρ hi hI => by
        have e : k + 1 + i = k + (i + 1) := by omega
        rw [e] at hI ⊢
        exact step (i + 1) d' ρ hi hI
      have e : k + (d :: ds).length = k + 1 + ds.length := by rw [List.length_cons]; omega
      rw [e]
      exact q
    unfold loopS
    cases e1 : G d ρ with
    | none => rw [e1] at e2; rcases e2 with ⟨ρ2, e2 | e2, c, h⟩ | ⟨ρ2, e2, h⟩ | ⟨t, ρ2, e2, h⟩ <;> cases e2
    | some ρ1 =>
      rw [e1] at e2
      rw [optS_some] at e2 ⊢
      rcases e2 with ⟨ρ2, e2 | e2, c, h⟩ | ⟨ρ2, e2, h⟩ | ⟨t, ρ2, e2, h⟩
      · rw [e2]; show LEnd _ _ (if _ then _ else _); rw [if_pos c]; exact more _ h
      · rw [e2]; show LEnd _ _ (if _ then _ else _); rw [if_pos c]; exact more _ h
      · rw [e2]; exact .inr h
      · rw [e2]; exact h
/-- a loop by an invariant, that runs to its end -/
theorem loopS_inv (I : Nat → List T → Prop) (items : List D) (ρ : List T) (h0 : I 0 ρ)
    (step : ∀ i d ρ, items[i]? = some d → I i ρ → ∃ ρ2, (optS (G d ρ) body = .nx ρ2 ∨ optS (G d ρ) body = .ct ρ2) ∧ chkW w ρ0 ρ2 ∧ I (i + 1) ρ2) :
    ∃ ρ', loopS w ρ0 G body items ρ = .nx ρ' ∧ I items.length ρ' := by
  have q := loopS_from (w := w) (ρ0 := ρ0) (G := G) (body := body) I (fun _ => False) (fun _ _ => False) items 0 ρ h0 fun i d ρ hi hI => by
    rw [Nat.zero_add] at hI ⊢
    exact .inl (step i d ρ hi hI)
  rw [Nat.zero_add] at q
  cases h : loopS w ρ0 G body items ρ with
  | nx ρ' =>
    rw [h] at q
    exact ⟨ρ', rfl, q.resolve_right id⟩
  | _ => rw [h] at q; exact q.elim
end
section
variable {w : List Nat} {ρ0 : List T} {vs : List Nat} {G : D → List T → Option (List T)} {gt : List T → ER Bool} {ge : List T → ER R} {body : List T → SR}
theorem loopS_use {items : List D} {ρ : List T} {X : SR} (hx : loopS w ρ0 G body items ρ = X) (I : Nat → List T → Prop) (h0 : I 0 ρ)
    (step : ∀ i d ρ, items[i]? = some d → I i ρ → ∃ ρ2, (optS (G d ρ) body = .nx ρ2 ∨ optS (G d ρ) body = .ct ρ2) ∧ chkW w ρ0 ρ2 ∧ I (i + 1) ρ2) :
    ∃ ρ', X = .nx ρ' ∧ I items.length ρ' := hx ▸ loopS_inv I items ρ h0 step
theorem compL_use {items acc : List D} {ρ : List T} {X : ER (List D)} (hx : compL w ρ0 vs G gt ge items acc ρ = X) (I : Nat → List D → List T → Prop) (h0 : I 0 acc ρ)
    (step : ∀ i d acc ρ, items[i]? = some d → I i acc ρ → ∃ y ρ', ct1 vs (G d ρ) gt ge = some (y, ρ') ∧ chkW w ρ0 ρ' ∧ I (i + 1) (acc ++ y.toList) ρ') :
    ∃ acc' ρ', X = .ok acc' ρ' ∧ I items.length acc' ρ' := hx ▸ compL_inv I items acc ρ h0 step
end
/-! ### reading data -/
/-- a list, in either state -/
inductive Rds : T → List D → Prop
  | fz {ds : List D} : Rds (.fz (.lst ds)) ds
  | ol {ds : List D} : Rds (.ol ds) ds
def intsD (l : List Int) : List D := l.map .int
def natsD (l : List Nat) : List D := l.map fun i => .int ((i : Nat) : Int)
theorem nats_ints (l : List Nat) : natsD l = intsD (l.map Int.ofNat) := by simp [natsD, intsD]
@[simp] theorem natsD_len (l : List Nat) : (natsD l).length = l.length := by simp [natsD]
@[simp] theorem intsD_len (l : List Int) : (intsD l).length = l.length := by simp [intsD]
theorem rgD0 (n : Nat) : rgD 0 ((n : Nat) : Int) = natsD (List.range n) := by
  unfold rgD natsD
  rw [Int.sub_zero, Int.toNat_natCast]
  refine List.map_congr_left fun i _ => ?_
  rw [Int.zero_add]
theorem nats_inj {a b : List Nat} (h : natsD a = natsD b) : a = b := by
  induction a generalizing b with
  | nil => cases b with
    | nil => rfl
    | cons _ _ => cases h
  | cons x xs ih => cases b with
    | nil => cases h
    | cons y ys =>
      simp only [natsD, List.map_cons] at h
      injection h with h1 h2
      injection h1 with h1
      rw [ih h2, Int.ofNat.inj h1]
theorem ints_inj {a b : List Int} (h : intsD a = intsD b) : a = b := by
  induction a generalizing b with
  | nil => cases b with
    | nil => rfl
    | cons _ _ => cases h
  | cons x xs ih => cases b with
    | nil => cases h
    | cons y ys =>
      simp only [intsD, List.map_cons] at h
      injection h with h1 h2
      injection h1 with h1
      rw [ih h2, h1]

/-! ### equality of plain data -/
/-- data told apart by == alone: whole numbers, texts, None, lists and tuples of such -/
def gdD : Nat → D → Bool
  | _, .int _ => true
  | _, .str x => PyData.strOk x
  | _, .non => true
  | n + 1, .lst ds => ds.all (gdD n)
  | n + 1, .tup ds => ds.all (gdD n)
  | _, _ => false
theorem gd_eqvAll {n m : Nat} (ih : ∀ a b, gdD n a = true → gdD m b = true → (PyData.eqv a.py b.py = true ↔ a = b)) : ∀ (xs ys : List D), xs.all (gdD n) = true → ys.all (gdD m) = true → (PyData.eqvAll (D.pys xs) (D.pys ys) = true ↔ xs = ys)
  | [], [], _, _ => by simp [D.pys, PyData.eqvAll]
  | [], _ :: _, _, _ => by simp [D.pys, PyData.eqvAll]
  | _ :: _, [], _, _ => by simp [D.pys, PyData.eqvAll]
  | x :: xs, y :: ys, h1, h2 => by
    simp only [List.all_cons, Bool.and_eq_true] at h1 h2
    simp only [D.pys, PyData.eqvAll, Bool.and_eq_true, ih x y h1.1 h2.1, gd_eqvAll ih xs ys h1.2 h2.2, List.cons.injEq]
theorem gd_eqv : ∀ (n m : Nat) (a b : D), gdD n a = true → gdD m b = true → (PyData.eqv a.py b.py = true ↔ a = b)
  | n, m, a, b, h1, h2 => by
    cases a <;> cases b <;> first
      | (cases n <;> cases h1; done)
      | (cases m <;> cases h2; done)
      | (simp [D.py, PyData.eqv]; done)
      | (cases n with
        | zero => cases h1
        | succ n => cases m with
          | zero => cases h2
          | succ m => simp only [D.py, PyData.eqv, D.lst.injEq, D.tup.injEq]; exact gd_eqvAll (fun a b => gd_eqv n m a b) _ _ h1 h2)
theorem gd_lays {n : Nat} (ih : ∀ a, gdD n a = true → a.py.canLay0 = true ∧ a.py.depth ≤ n) : ∀ (xs : List D), xs.all (gdD n) = true → PyData.canLayAll0 (D.pys xs) = true ∧ PyData.depthAll (D.pys xs) ≤ n
  | [], _ => ⟨rfl, Nat.zero_le _⟩
  | x :: xs, h1 => by
    simp only [List.all_cons, Bool.and_eq_true] at h1
    obtain ⟨a, b⟩ := ih x h1.1
    obtain ⟨c, d⟩ := gd_lays ih xs h1.2
    refine ⟨by simp [D.pys, PyData.canLayAll0, a, c], ?_⟩
    simp only [D.pys, PyData.depthAll]
    omega
theorem gd_lay : ∀ (n : Nat) (a : D), gdD n a = true → a.py.canLay0 = true ∧ a.py.depth ≤ n
  | n, a, h1 => by
    cases a <;> first
      | (cases n <;> cases h1; done)
      | exact ⟨rfl, Nat.zero_le _⟩
      | (refine ⟨?_, Nat.zero_le _⟩; cases n <;> exact h1)
      | (cases n with
        | zero => cases h1
        | succ n =>
          obtain ⟨p, q⟩ := gd_lays (fun a => gd_lay n a) _ h1
          refine ⟨?_, ?_⟩
          · simp only [D.py, PyData.canLay0]; exact p
          · simp only [D.py, PyData.depth]; omega)
theorem gd_shaped {n : Nat} (hn : n ≤ 64) {a : D} (h : gdD n a = true) : SeqAt.shaped a.py = true := by
  obtain ⟨p, q⟩ := gd_lay n a h
  unfold SeqAt.shaped
  rw [p, decide_eq_true (Nat.le_trans q hn)]
  rfl
open Classical in
noncomputable def dEq (a b : D) : Bool := decide (a = b)
theorem dEq_iff {a b : D} : dEq a b = true ↔ a = b := by simp [dEq]
@[simp] theorem dEq_self (a : D) : dEq a a = true := dEq_iff.mpr rfl
theorem dEq_ne {a b : D} (h : a ≠ b) : dEq a b = false := by simp [dEq, h]
theorem scEq_gd {n : Nat} {a b : D} {k : Bool} (ha : gdD n a = true) (hb : gdD n b = true) (h : scEq a b = some k) : k = dEq a b := by
  have e : k = true ↔ a = b := by
    cases a <;> cases b <;> first
      | (cases h; done)
      | (cases n <;> cases ha; done)
      | (cases n <;> cases hb; done)
      | (simp only [scEq, Option.some.injEq] at h; subst h; simp; done)
  cases k with
  | true => exact (dEq_iff.mpr (e.mp rfl)).symm
  | false => exact (dEq_ne fun z => by cases e.mpr z).symm
theorem eqv_gd {n : Nat} {a b : D} (ha : gdD n a = true) (hb : gdD n b = true) : PyData.eqv a.py b.py = dEq a b := by
  have e := gd_eqv n n a b ha hb
  cases h : PyData.eqv a.py b.py with
  | true => exact (dEq_iff.mpr (e.mp h)).symm
  | false => exact (dEq_ne fun z => by rw [e.mpr z] at h; cases h).symm
theorem pEqS_gd {n : Nat} (hn : n ≤ 64) {a b : D} (ha : gdD n a = true) (hb : gdD n b = true) (neg : Bool) : orP (pEqS neg) (pEqD neg) [a, b] = some (.d (.bl (if neg then !dEq a b else dEq a b))) := by
  unfold orP
  cases h : scEq a b with
  | some k => simp only [pEqS, h, Option.map_some]; rw [scEq_gd ha hb h]
  | none => simp only [pEqS, h, Option.map_none, pEqD]; rw [if_pos (by rw [gd_shaped hn ha, gd_shaped hn hb]; rfl), eqv_gd ha hb]
theorem pEq_gd {n : Nat} (hn : n ≤ 64) {a b : D} (ha : gdD n a = true) (hb : gdD n b = true) : pEq [a, b] = some (.d (.bl (dEq a b))) := pEqS_gd hn ha hb false
theorem pNe_gd {n : Nat} (hn : n ≤ 64) {a b : D} (ha : gdD n a = true) (hb : gdD n b = true) : pNe [a, b] = some (.d (.bl (!dEq a b))) := pEqS_gd hn ha hb true
theorem gd_ints (n : Nat) (l : List Int) : gdD (n + 1) (.lst (intsD l)) = true := by
  show (intsD l).all (gdD n) = true
  unfold intsD
  rw [List.all_map, List.all_eq_true]
  intro x _
  cases n <;> rfl
theorem gd_nats (n : Nat) (l : List Nat) : gdD (n + 1) (.lst (natsD l)) = true := by rw [nats_ints]; exact gd_ints n _
/-- lists of orders -/
def ordsD (ls : List (List Nat)) : List D := ls.map fun l => .lst (natsD l)
theorem gd_ords (n : Nat) (ls : List (List Nat)) : gdD (n + 2) (.lst (ordsD ls)) = true := by
  show (ordsD ls).all (gdD (n + 1)) = true
  unfold ordsD
  rw [List.all_map, List.all_eq_true]
  intro x _
  exact gd_nats n x
theorem ords_inj {a b : List (List Nat)} (h : ordsD a = ordsD b) : a = b := by
  induction a generalizing b with
  | nil => cases b with
    | nil => rfl
    | cons _ _ => cases h
  | cons x xs ih => cases b with
    | nil => cases h
    | cons y ys =>
      simp only [ordsD, List.map_cons] at h
      injection h with h1 h2
      injection h1 with h1
      rw [ih h2, nats_inj h1]
end DL

set_option Elab.async false
set_option linter.all false
set_option maxRecDepth 100000
namespace DL
open PySem PySem.Spec L2
/-! ### sorting -/
theorem sort_rows (ls : List (List Int)) : pSorted [.lst (ls.map fun l => .lst (intsD l))] = some (.nl ((ls.mergeSort fun p q => decide (p ≤ q)).map fun l => .lst (intsD l))) := by
  have py : ∀ l : List Int, (D.lst (intsD l)).py = .list (l.map .int) := fun l => by
    unfold intsD
    rw [D.py, pys_map, List.map_map]
    rfl
  have e : D.pys (ls.map fun l => .lst (intsD l)) = ls.map fun l => PyData.list (l.map .int) := by
    rw [pys_map, List.map_map]
    exact List.map_congr_left fun l _ => py l
  have al : ∀ a b : List Int, PySem.W.alikeAll (a.map .int) (b.map .int) = true := fun a => by
    induction a with
    | nil => intro b; rw [List.map_nil, PySem.W.alikeAll]
    | cons x a ih => intro b; cases b with
      | nil => rfl
      | cons y b => rw [List.map_cons, List.map_cons, PySem.W.alikeAll, ih]; rfl
  have ok : SortOk (ls.map fun l => .lst (intsD l)) := by
    refine ⟨?_, ?_, ?_, ?_⟩
    · rw [e]; exact PySem.W.AllAlike.of fun a b => by rw [PySem.W.alike]; exact al a b
    · rw [e]; exact PySem.W.Sortable.others fun b => ⟨(fun h => by cases h), (fun _ h => by cases h)⟩
    · exact (gd_lays (n := 1) (fun a h => gd_lay 1 a h) _ (by rw [List.all_map, List.all_eq_true]; intro x _; exact gd_ints 0 x)).1
    · rw [e]
      intro d hd
      obtain ⟨l, _, rfl⟩ := List.mem_map.mp hd
      have := (gd_lay 1 _ (gd_ints 0 l)).2
      rw [py] at this
      omega
  unfold pSorted
  dsimp only
  rw [if_pos ok]
  unfold sortD
  rw [List.map_mergeSort (s := PySem.W.dataLe false D.py)]
  intro a _ b _
  have := congrFun (congrFun (PySem.W.dataLe_rows (fun x : List Int => x)) a) b
  rw [← this]
  show _ = PySem.W.dataLe false (fun l : List Int => (D.lst (intsD l)).py) a b
  rw [show (fun l : List Int => (D.lst (intsD l)).py) = fun l => PyData.list (l.map .int) from funext py]
theorem sort_ints (l : List Int) : pSorted [.lst (intsD l)] = some (.nl (intsD (l.mergeSort fun a b => decide (a ≤ b)))) := by
  have e : D.pys (intsD l) = l.map fun i => PyData.int i := by
    unfold intsD
    rw [pys_map, List.map_map]
    rfl
  have ok : SortOk (intsD l) := by
    refine ⟨?_, ?_, ?_, ?_⟩
    · rw [e]; exact PySem.W.AllAlike.of fun a b => by rw [PySem.W.alike]
    · rw [e]; exact PySem.W.Sortable.others fun b => ⟨(fun h => by cases h), (fun _ h => by cases h)⟩
    · exact (gd_lays (n := 0) (fun a h => gd_lay 0 a h) _ (gd_ints 0 l)).1
    · rw [e]
      intro d hd
      obtain ⟨l, _, rfl⟩ := List.mem_map.mp hd
      exact Nat.zero_le _
  unfold pSorted
  dsimp only
  rw [if_pos ok]
  unfold sortD intsD
  rw [List.map_mergeSort (s := PySem.W.dataLe false D.py)]
  intro a _ b _
  have := congrFun (congrFun (PySem.W.dataLe_int (fun x : Int => x)) a) b
  rw [← this]
  rfl
/-! ### orders -/
/-- an order of n things -/
def IsO (n : Nat) (l : List Nat) : Prop := l.Perm (List.range n)
theorem IsO.len {n : Nat} {l : List Nat} (h : IsO n l) : l.length = n := by rw [h.length_eq, List.length_range]
theorem IsO.lt {n : Nat} {l : List Nat} (h : IsO n l) {x : Nat} (hx : x ∈ l) : x < n := List.mem_range.mp (h.mem_iff.mp hx)
theorem IsO.mem {n : Nat} {l : List Nat} (h : IsO n l) {x : Nat} (hx : x < n) : x ∈ l := h.mem_iff.mpr (List.mem_range.mpr hx)
theorem IsO.nodup {n : Nat} {l : List Nat} (h : IsO n l) : l.Nodup := h.nodup_iff.mpr List.nodup_range
theorem sort_IsO {n : Nat} {l : List Nat} (h : IsO n l) : (l.map Int.ofNat).mergeSort (fun a b => decide (a ≤ b)) = (List.range n).map Int.ofNat := by
  have e : (l.mergeSort fun a b => decide (a ≤ b)).map Int.ofNat = (l.map Int.ofNat).mergeSort (fun a b => decide (a ≤ b)) :=
    List.map_mergeSort fun a _ b _ => by simp
  rw [← e]
  congr 1
  refine List.Perm.eq_of_pairwise (le := fun a b => a ≤ b) (fun a b _ _ h1 h2 => Nat.le_antisymm h1 h2) ?_ ?_ ((List.mergeSort_perm _ _).trans h)
  · have := List.pairwise_mergeSort (le := fun a b : Nat => decide (a ≤ b)) (fun a b c h1 h2 => by simp at *; omega) (fun a b => by simp; omega) l
    exact this.imp fun h => of_decide_eq_true h
  · exact List.pairwise_lt_range.imp Nat.le_of_lt
theorem pigeon : ∀ (n : Nat) (l : List Nat), l.Nodup → (∀ x ∈ l, x < n) → l.length ≤ n ∧ (l.length = n → IsO n l)
  | 0, l, _, h => by
    cases l with
    | nil => exact ⟨Nat.le_refl _, fun _ => List.Perm.refl _⟩
    | cons x l => exact absurd (h x List.mem_cons_self) (by omega)
  | n + 1, l, nd, h => by
    by_cases hm : n ∈ l
    · have p := List.perm_cons_erase hm
      have nd2 := p.nodup nd
      rw [List.nodup_cons] at nd2
      obtain ⟨a, b⟩ := pigeon n (l.erase n) nd2.2 fun x hx => by
        have h1 := h x (List.mem_of_mem_erase hx)
        have h2 : x ≠ n := fun e => nd2.1 (e ▸ hx)
        omega
      have e := p.length_eq
      rw [List.length_cons] at e
      refine ⟨by omega, fun hl => ?_⟩
      refine p.trans (((b (by omega)).cons n).trans ?_)
      rw [List.range_succ]
      exact (List.perm_append_comm (l₁ := [n]) (l₂ := List.range n))
    · obtain ⟨a, b⟩ := pigeon n l nd fun x hx => by
        have h1 := h x hx
        have h2 : x ≠ n := fun e => hm (e ▸ hx)
        omega
      exact ⟨by omega, fun hl => by omega⟩
theorem IsO_of {n : Nat} {l : List Nat} (hl : l.length = n) (hlt : ∀ x ∈ l, x < n) (nd : l.Nodup) : IsO n l := (pigeon n l nd hlt).2 hl
end DL

set_option Elab.async false
set_option linter.all false
set_option maxRecDepth 100000
namespace Wk
open PySem PySem.Spec L2 DL
noncomputable def g_Lpool : List T → SR :=
  (sSeq (sSet 2 (eC (.int 0)))
  (sSeq (sIf (tstB (eO pLt (aCons (eVar 1) (aCons (eO pLen (aCons (eVar 0) aNil)) aNil)))) (sSet 2 (eO pIx (aCons (eVar 0) (aCons (eVar 1) aNil)))) sNext)
  (sRet (eCall fLst (aCons (eVar 2) (aCons (eO (p1 intD) (aCons (eO pGe (aCons (eVar 2) (aCons (eO pPow (aCons (eC (.int 10)) (aCons (eC (.int 18)) aNil))) aNil))) aNil)) (aCons (eO pMul (aCons (eC (.int 37)) (aCons (eVar 1) aNil))) aNil)))))))
noncomputable def m_Lpool : Fn := runF 3 2 (kpC [2]) g_Lpool
noncomputable def g_Ldraw : List T → SR :=
  (sSeq (sIf (tstB (eO pEq (aCons (eO pIx (aCons (eVar 0) (aCons (eC (.int 1)) aNil))) (aCons (eC (.int 1)) aNil)))) (sSeq (sSet 2 (eO pMod (aCons (eO pIx (aCons (eVar 0) (aCons (eC (.int 0)) aNil))) (aCons (eVar 1) aNil))))
  (sSeq (sAsg (tgSubL (eVar 0) (eC (.int 0))) (eO pDiv (aCons (eO pIx (aCons (eVar 0) (aCons (eC (.int 0)) aNil))) (aCons (eVar 1) aNil))))
  (sRet (eVar 2)))) sNext)
  (sSeq (sAsg (tgSubL (eVar 0) (eC (.int 2))) (eO pAdd (aCons (eO pIx (aCons (eVar 0) (aCons (eC (.int 2)) aNil))) (aCons (eC (.int 1)) aNil))))
  (sSeq (sSet 3 (eO pMod (aCons (eO pAdd (aCons (eO pMod (aCons (eO pIx (aCons (eVar 0) (aCons (eC (.int 0)) aNil))) (aCons (eC (.int 999999999989)) aNil))) (aCons (eO pMul (aCons (eC (.int 440023)) (aCons (eO pIx (aCons (eVar 0) (aCons (eC (.int 2)) aNil))) aNil))) aNil))) (aCons (eC (.int 999999999989)) aNil))))
  (sSeq (sSet 3 (eO pMod (aCons (eO pMul (aCons (eVar 3) (aCons (eVar 3) aNil))) (aCons (eC (.int 1000000000039)) aNil))))
  (sSeq (sSet 3 (eO pMod (aCons (eO pMul (aCons (eO pAdd (aCons (eVar 3) (aCons (eC (.int 710009)) aNil))) (aCons (eVar 3) aNil))) (aCons (eC (.int 999999999961)) aNil))))
  (sRet (eO pMod (aCons (eO pDiv (aCons (eVar 3) (aCons (eC (.int 7)) aNil))) (aCons (eVar 1) aNil)))))))))
noncomputable def m_Ldraw : Fn := runF 4 2 (kpC [2, 3]) g_Ldraw
noncomputable def g_Lorder2 : List T → SR :=
  (sSeq (sSet 2 (eO (p1N listRg1) (aCons (eVar 1) aNil)))
  (sRet (eComp [3] (iRg1 (eVar 1)) (tgName 3) tstYes (eMeth .list (fMut mPopAt) (eVar 2) (aCons (eFn 2 m_Ldraw (aCons (eVar 0) (aCons (eO pLen (aCons (eVar 2) aNil)) aNil))) aNil)))))
noncomputable def m_Lorder2 : Fn := runF 4 2 (kpC [2]) g_Lorder2
noncomputable def g_Lnear2 : List T → SR :=
  (sSeq (sSet 2 (eO (p1N listD) (aCons (eVar 1) aNil)))
  (sSeq (sFor (kpC [3, 4, 5]) (iRg1 (eO pIx (aCons (eCall fLst (aCons (eC (.int 0)) (aCons (eC (.int 0)) (aCons (eC (.int 1)) (aCons (eC (.int 2)) (aCons (eC (.int 3)) aNil)))))) (aCons (eFn 2 m_Ldraw (aCons (eVar 0) (aCons (eC (.int 5)) aNil))) aNil)))) (tgName 3)
  (sSeq (sSet 4 (eFn 2 m_Ldraw (aCons (eVar 0) (aCons (eO pLen (aCons (eVar 2) aNil)) aNil))))
  (sSeq (sSet 5 (eO pIx (aCons (eCall fLst (aCons (eO pMod (aCons (eO pAdd (aCons (eVar 4) (aCons (eC (.int 1)) aNil))) (aCons (eO pLen (aCons (eVar 2) aNil)) aNil))) (aCons (eFn 2 m_Ldraw (aCons (eVar 0) (aCons (eO pLen (aCons (eVar 2) aNil)) aNil))) aNil))) (aCons (eFn 2 m_Ldraw (aCons (eVar 0) (aCons (eC (.int 2)) aNil))) aNil))))
  (sAsg (tgTup 2 (tgCons (tgSubL (eVar 2) (eVar 4)) (tgCons (tgSubL (eVar 2) (eVar 5)) tgNil))) (eCall fTup (aCons (eO pIx (aCons (eVar 2) (aCons (eVar 5) aNil))) (aCons (eO pIx (aCons (eVar 2) (aCons (eVar 4) aNil))) aNil)))))))
  (sRet (eVar 2))))
noncomputable def m_Lnear2 : Fn := runF 6 2 (kpC [2, 3, 4, 5]) g_Lnear2
noncomputable def g_is_whole : List T → SR :=
  (sRet (eAndV (eO (p1 (pIsa .int)) (aCons (eVar 0) aNil)) (eNotV (eO (p1 (pIsa .bool)) (aCons (eVar 0) aNil)))))
noncomputable def m_is_whole : Fn := runF 1 1 (kpC []) g_is_whole
noncomputable def g_is_order : List T → SR :=
  (sSeq (sIf (tstOr (tstNot (tstB (eO (p1 (pIsa .list)) (aCons (eVar 0) aNil)))) (tstNot (tstB (eChain (fOut pLe) (fOut pLe) (eC (.int 1)) (eO pLen (aCons (eVar 0) aNil)) (eC (.int 12)))))) (sRet (eC (.bl false))) sNext)
  (sSeq (sIf (tstB (eO pNe (aCons (eComp [1] (iLst (eVar 0)) (tgName 1) (tstNot (tstB (eFn 1 m_is_whole (aCons (eVar 1) aNil)))) (eVar 1)) (aCons (eCall fLst aNil) aNil)))) (sRet (eC (.bl false))) sNext)
  (sRet (eO pEq (aCons (eO pSorted (aCons (eVar 0) aNil)) (aCons (eO (p1N listRg1) (aCons (eO pLen (aCons (eVar 0) aNil)) aNil)) aNil))))))
noncomputable def m_is_order : Fn := runF 2 1 (kpC []) g_is_order
noncomputable def g_words_of : List T → SR :=
  (sRet (eMeth .str (fOut pJoin) (eC (.str " ")) (aCons (eComp [1] (iLst (eVar 0)) (tgName 1) tstYes (eO (p1 strD) (aCons (eVar 1) aNil))) aNil)))
noncomputable def m_words_of : Fn := runF 2 1 (kpC []) g_words_of
noncomputable def g_show_order : List T → SR :=
  (sSeq (sIf (tstNot (tstB (eFn 1 m_is_order (aCons (eVar 0) aNil)))) sStuck sNext)
  (sRet (eFn 1 m_words_of (aCons (eVar 0) aNil))))
noncomputable def m_show_order : Fn := runF 1 1 (kpC []) g_show_order
noncomputable def g_need_order : List T → SR :=
  (sIf (tstNot (tstB (eFn 1 m_is_order (aCons (eVar 0) aNil)))) sStuck sNext)
noncomputable def m_need_order : Fn := runF 1 1 (kpC []) g_need_order
noncomputable def g_order_behind : List T → SR :=
  (sSeq (sExpr (eFn 1 m_need_order (aCons (eVar 0) aNil)))
  (sSeq (sExpr (eFn 1 m_need_order (aCons (eVar 1) aNil)))
  (sSeq (sIf (tstB (eO pNe (aCons (eO pLen (aCons (eVar 0) aNil)) (aCons (eO pLen (aCons (eVar 1) aNil)) aNil)))) sStuck sNext)
  (sRet (eComp [2] (iLst (eVar 1)) (tgName 2) tstYes (eO pIx (aCons (eVar 0) (aCons (eVar 2) aNil))))))))
noncomputable def m_order_behind : Fn := runF 3 2 (kpC []) g_order_behind
noncomputable def g_turned_back : List T → SR :=
  (sSeq (sSet 1 (eO pMul (aCons (eCall fLst (aCons (eC (.int 0)) aNil)) (aCons (eO pLen (aCons (eVar 0) aNil)) aNil))))
  (sSeq (sFor (kpC [2, 3]) (iEnumD (eVar 0)) (tgTup 2 (tgCons (tgName 2) (tgCons (tgName 3) tgNil)))
  (sAsg (tgSubL (eVar 1) (eVar 3)) (eVar 2)))
  (sRet (eVar 1))))
noncomputable def m_turned_back : Fn := runF 4 1 (kpC [1, 2, 3]) g_turned_back
noncomputable def g_back_of : List T → SR :=
  (sSeq (sExpr (eFn 1 m_need_order (aCons (eVar 0) aNil)))
  (sRet (eFn 1 m_turned_back (aCons (eVar 0) aNil))))
noncomputable def m_back_of : Fn := runF 1 1 (kpC []) g_back_of
noncomputable def g_is_number : List T → SR :=
  (sSeq (sIf (tstOr (tstNot (tstB (eChain (fOut pLe) (fOut pLe) (eC (.int 1)) (eO pLen (aCons (eVar 0) aNil)) (eC (.int 2))))) (tstB (eO pNe (aCons (eComp [1] (iStrD (eVar 0)) (tgName 1) (tstB (eO pNotIn (aCons (eVar 1) (aCons (eC (.str "0123456789")) aNil)))) (eVar 1)) (aCons (eCall fLst aNil) aNil))))) (sRet (eC (.bl false))) sNext)
  (sRet (eOrV (eO pEq (aCons (eO pLen (aCons (eVar 0) aNil)) (aCons (eC (.int 1)) aNil))) (eO pNe (aCons (eO pIx (aCons (eVar 0) (aCons (eC (.int 0)) aNil))) (aCons (eC (.str "0")) aNil))))))
noncomputable def m_is_number : Fn := runF 2 1 (kpC []) g_is_number
noncomputable def g_read_order : List T → SR :=
  (sSeq (sIf (tstNot (tstB (eO (p1 (pIsa .str)) (aCons (eVar 0) aNil)))) sStuck sNext)
  (sSeq (sSet 1 (eMeth .str (fOut pSplit) (eVar 0) (aCons (eC (.str " ")) aNil)))
  (sSeq (sIf (tstB (eO pNe (aCons (eComp [3] (iLst (eVar 1)) (tgName 3) (tstNot (tstB (eFn 1 m_is_number (aCons (eVar 3) aNil)))) (eVar 3)) (aCons (eCall fLst aNil) aNil)))) sStuck sNext)
  (sSeq (sSet 2 (eComp [3] (iLst (eVar 1)) (tgName 3) tstYes (eO (p1 intD) (aCons (eVar 3) aNil))))
  (sSeq (sIf (tstNot (tstB (eFn 1 m_is_order (aCons (eVar 2) aNil)))) sStuck sNext)
  (sRet (eVar 2)))))))
noncomputable def m_read_order : Fn := runF 4 1 (kpC [1, 2]) g_read_order
noncomputable def g_is_orders : List T → SR :=
  (sSeq (sIf (tstOr (tstNot (tstB (eO (p1 (pIsa .list)) (aCons (eVar 0) aNil)))) (tstB (eO pNe (aCons (eComp [1] (iLst (eVar 0)) (tgName 1) (tstNot (tstB (eFn 1 m_is_order (aCons (eVar 1) aNil)))) (eVar 1)) (aCons (eCall fLst aNil) aNil))))) (sRet (eC (.bl false))) sNext)
  (sRet (eO pEq (aCons (eComp [1] (iLst (eVar 0)) (tgName 1) (tstB (eO pNe (aCons (eO pLen (aCons (eVar 1) aNil)) (aCons (eO pLen (aCons (eO pIx (aCons (eVar 0) (aCons (eC (.int 0)) aNil))) aNil)) aNil)))) (eVar 1)) (aCons (eCall fLst aNil) aNil)))))
noncomputable def m_is_orders : Fn := runF 2 1 (kpC []) g_is_orders
noncomputable def g_show_orders : List T → SR :=
  (sSeq (sIf (tstNot (tstB (eFn 1 m_is_orders (aCons (eVar 0) aNil)))) sStuck sNext)
  (sSeq (sIf (tstB (eO pEq (aCons (eVar 0) (aCons (eCall fLst aNil) aNil)))) (sRet (eC (.str "-"))) sNext)
  (sRet (eMeth .str (fOut pJoin) (eC (.str ", ")) (aCons (eComp [1] (iLst (eVar 0)) (tgName 1) tstYes (eFn 1 m_words_of (aCons (eVar 1) aNil))) aNil)))))
noncomputable def m_show_orders : Fn := runF 2 1 (kpC []) g_show_orders
noncomputable def g_Lotherwise : List T → SR :=
  (sSeq (sSet 2 (eFn 2 m_Ldraw (aCons (eVar 0) (aCons (eO pLen (aCons (eVar 1) aNil)) aNil))))
  (sSeq (sSet 3 (eFn 2 m_Ldraw (aCons (eVar 0) (aCons (eC (.int 6)) aNil))))
  (sSeq (sIf (tstB (eO pEq (aCons (eVar 3) (aCons (eC (.int 0)) aNil)))) (sRet (eO pAdd (aCons (eO pAdd (aCons (eSl (eVar 1) oNone (oSome (eVar 2))) (aCons (eSl (eVar 1) (oSome (eVar 2)) (oSome (eO pAdd (aCons (eVar 2) (aCons (eC (.int 1)) aNil))))) aNil))) (aCons (eSl (eVar 1) (oSome (eVar 2)) oNone) aNil)))) sNext)
  (sSeq (sIf (tstB (eO pEq (aCons (eVar 3) (aCons (eC (.int 1)) aNil)))) (sRet (eO pAdd (aCons (eSl (eVar 1) oNone (oSome (eVar 2))) (aCons (eSl (eVar 1) (oSome (eO pAdd (aCons (eVar 2) (aCons (eC (.int 1)) aNil)))) oNone) aNil)))) sNext)
  (sSeq (sIf (tstB (eO pEq (aCons (eVar 3) (aCons (eC (.int 2)) aNil)))) (sRet (eO pRev (aCons (eVar 1) aNil))) sNext)
  (sSeq (sIf (tstB (eO pEq (aCons (eVar 3) (aCons (eC (.int 3)) aNil)))) (sRet (eComp [4] (iLst (eVar 1)) (tgName 4) tstYes (eO (p1N listD) (aCons (eVar 4) aNil)))) sNext)
  (sSeq (sIf (tstB (eO pEq (aCons (eVar 3) (aCons (eC (.int 4)) aNil)))) (sRet (eO pAdd (aCons (eO pAdd (aCons (eSl (eVar 1) oNone (oSome (eVar 2))) (aCons (eCall fLst (aCons (eFn 2 m_Lnear2 (aCons (eVar 0) (aCons (eO pIx (aCons (eVar 1) (aCons (eVar 2) aNil))) aNil))) aNil)) aNil))) (aCons (eSl (eVar 1) (oSome (eO pAdd (aCons (eVar 2) (aCons (eC (.int 1)) aNil)))) oNone) aNil)))) sNext)
  (sRet (eO pSorted (aCons (eVar 1) aNil))))))))))
noncomputable def m_Lotherwise : Fn := runF 5 2 (kpC [2, 3]) g_Lotherwise
noncomputable def g_read_orders : List T → SR :=
  (sSeq (sIf (tstNot (tstB (eO (p1 (pIsa .str)) (aCons (eVar 0) aNil)))) sStuck sNext)
  (sSeq (sIf (tstB (eO pEq (aCons (eVar 0) (aCons (eC (.str "-")) aNil)))) (sRet (eCall fLst aNil)) sNext)
  (sSeq (sSet 1 (eComp [2] (iLst (eMeth .str (fOut pSplit) (eVar 0) (aCons (eC (.str ", ")) aNil))) (tgName 2) tstYes (eFn 1 m_read_order (aCons (eVar 2) aNil))))
  (sSeq (sIf (tstNot (tstB (eFn 1 m_is_orders (aCons (eVar 1) aNil)))) sStuck sNext)
  (sRet (eVar 1))))))
noncomputable def m_read_orders : Fn := runF 3 1 (kpC [1]) g_read_orders
noncomputable def g_law_k80 : List T → SR :=
  (sSeq (sFor (kpC [1, 2, 3, 4, 5, 6, 7, 8, 9, 10, 11]) (iRg1 (eO pMax2 (aCons (eC (.int 1)) (aCons (eO pMin2 (aCons (eC (.int 10)) (aCons (eO pLen (aCons (eVar 0) aNil)) aNil))) aNil)))) (tgName 1)
  (sSeq (sSet 2 (eFn 2 m_Lpool (aCons (eVar 0) (aCons (eVar 1) aNil))))
  (sSeq (sSet 3 (eO pAdd (aCons (eC (.int 1)) (aCons (eFn 2 m_Ldraw (aCons (eVar 2) (aCons (eC (.int 12)) aNil))) aNil))))
  (sSeq (sSet 4 (eFn 2 m_Lorder2 (aCons (eVar 2) (aCons (eVar 3) aNil))))
  (sSeq (sSet 5 (eFn 2 m_Lnear2 (aCons (eVar 2) (aCons (eVar 4) aNil))))
  (sSeq (sIf (tstB (eO pNe (aCons (eO pEq (aCons (eFn 1 m_show_order (aCons (eVar 4) aNil)) (aCons (eFn 1 m_show_order (aCons (eVar 5) aNil)) aNil))) (aCons (eO pEq (aCons (eVar 4) (aCons (eVar 5) aNil))) aNil)))) (sRet (eC (.bl false))) sNext)
  (sSeq (sFor (kpC [6, 7]) (iLst (eCall fLst (aCons (eVar 4) (aCons (eVar 5) (aCons (eFn 1 m_back_of (aCons (eVar 4) aNil)) (aCons (eFn 2 m_order_behind (aCons (eVar 4) (aCons (eVar 5) aNil))) aNil)))))) (tgName 6)
  (sSeq (sSet 7 (eFn 1 m_show_order (aCons (eVar 6) aNil)))
  (sIf (tstOr (tstB (eO pNe (aCons (eFn 1 m_read_order (aCons (eVar 7) aNil)) (aCons (eVar 6) aNil)))) (tstOr (tstB (eO pNe (aCons (eFn 1 m_show_order (aCons (eFn 1 m_read_order (aCons (eVar 7) aNil)) aNil)) (aCons (eVar 7) aNil)))) (tstB (eO pNe (aCons (eFn 1 m_show_orders (aCons (eCall fLst (aCons (eVar 6) aNil)) aNil)) (aCons (eVar 7) aNil)))))) (sRet (eC (.bl false))) sNext)))
  (sSeq (sSet 8 (eComp [12] (iRg1 (eO pAdd (aCons (eC (.int 1)) (aCons (eFn 2 m_Ldraw (aCons (eVar 2) (aCons (eC (.int 5)) aNil))) aNil)))) (tgName 12) tstYes (eFn 2 m_Lnear2 (aCons (eVar 2) (aCons (eVar 4) aNil)))))
  (sSeq (sSet 9 (eCall fLst (aCons (eVar 8) (aCons (eFn 2 m_Lotherwise (aCons (eVar 2) (aCons (eVar 8) aNil))) aNil))))
  (sSeq (sSet 11 (eComp [10] (iLst (eVar 9)) (tgName 10) tstYes (eFn 1 m_show_orders (aCons (eVar 10) aNil))))
  (sSeq (sIf (tstB (eO pNe (aCons (eO pEq (aCons (eO pIx (aCons (eVar 11) (aCons (eC (.int 0)) aNil))) (aCons (eO pIx (aCons (eVar 11) (aCons (eC (.int 1)) aNil))) aNil))) (aCons (eO pEq (aCons (eO pIx (aCons (eVar 9) (aCons (eC (.int 0)) aNil))) (aCons (eO pIx (aCons (eVar 9) (aCons (eC (.int 1)) aNil))) aNil))) aNil)))) (sRet (eC (.bl false))) sNext)
  (sFor (kpC [7, 10]) (iZipD (eVar 9) (eVar 11)) (tgTup 2 (tgCons (tgName 10) (tgCons (tgName 7) tgNil)))
  (sSeq (sIf (tstOr (tstB (eO pNe (aCons (eFn 1 m_read_orders (aCons (eVar 7) aNil)) (aCons (eVar 10) aNil)))) (tstB (eO pNe (aCons (eFn 1 m_show_orders (aCons (eFn 1 m_read_orders (aCons (eVar 7) aNil)) aNil)) (aCons (eVar 7) aNil))))) (sRet (eC (.bl false))) sNext)
  (sIf (tstAnd (tstB (eO pNe (aCons (eVar 10) (aCons (eCall fLst aNil) aNil)))) (tstB (eO pNe (aCons (eMeth .str (fOut pSplit) (eVar 7) (aCons (eC (.str ", ")) aNil)) (aCons (eComp [6] (iLst (eVar 10)) (tgName 6) tstYes (eFn 1 m_show_order (aCons (eVar 6) aNil))) aNil))))) (sRet (eC (.bl false))) sNext))))))))))))))
  (sRet (eC (.bl true))))
noncomputable def m_law_k80 : Fn := runF 13 1 (kpC [1, 2, 3, 4, 5, 6, 7, 8, 9, 10, 11]) g_law_k80
end Wk

set_option Elab.async false
set_option linter.all false
set_option maxRecDepth 100000
namespace Wk
open PySem PySem.Spec L2 DL

theorem pool_ok (ns : List Int) (k : Nat) : ∃ a b, m_Lpool [.fz (.scr ns), .fz (.int k)] = .ok (.ol [.int a, .int b, .int (37 * k)]) [.fz (.scr ns), .fz (.int k)] := by
  unfold m_Lpool
  rw [ev_run]
  unfold g_Lpool
  by_cases h : k < ns.length
  · simp [h, atI_of ns k h, pPow]
  · simp [h, pPow]
def IsPool (t : T) : Prop := ∃ a b c : Int, t = .ol [.int a, .int b, .int c]
theorem draw_ok {t : T} (hp : IsPool t) (n : Int) (h : 0 < n) (hn : n ≤ 1000000) : ∃ r t', IsPool t' ∧ 0 ≤ r ∧ r < n ∧ m_Ldraw [t, .fz (.int n)] = .ok (.fz (.int r)) [t', .fz (.int n)] := by
  obtain ⟨a, b, c, rfl⟩ := hp
  have h0 : n ≠ 0 := by omega
  have h1 : n.natAbs < 1073741824 := by omega
  unfold m_Ldraw
  rw [ev_run]
  by_cases hb : b = 1
  · unfold g_Ldraw
    refine ⟨a.fmod n, _, ⟨a.fdiv n, b, c, rfl⟩, Int.fmod_nonneg_of_pos _ h, Int.fmod_lt_of_pos _ h, ?_⟩
    simp [hb, h0, h1]
  · have e1 : ∀ x : Int, 0 ≤ x.fmod 999999999989 ∧ x.fmod 999999999989 < 999999999989 := fun x => ⟨Int.fmod_nonneg_of_pos _ (by decide), Int.fmod_lt_of_pos _ (by decide)⟩
    have e2 : ∀ x : Int, 0 ≤ x.fmod 1000000000039 ∧ x.fmod 1000000000039 < 1000000000039 := fun x => ⟨Int.fmod_nonneg_of_pos _ (by decide), Int.fmod_lt_of_pos _ (by decide)⟩
    have f1 : ∀ x : Int, -18446744073709551616 < x.fmod 999999999989 := fun x => by have := e1 x; omega
    have f2 : ∀ x : Int, x.fmod 999999999989 < 18446744073709551616 := fun x => by have := e1 x; omega
    have f3 : ∀ x : Int, -18446744073709551616 < x.fmod 1000000000039 := fun x => by have := e2 x; omega
    have f4 : ∀ x : Int, x.fmod 1000000000039 < 18446744073709551616 := fun x => by have := e2 x; omega
    have e : ∃ x : Int, rn1 (g_Ldraw ([T.ol [D.int a, D.int b, D.int c], T.fz (D.int n)] ++ List.replicate (4 - 2) T.dead)) 2 (kpC [2, 3]) = .ok (.fz (.int (x.fmod n))) [.ol [.int a, .int b, .int (c + 1)], .fz (.int n)] := by
      unfold g_Ldraw
      simp only [List.cons_append, List.nil_append, List.replicate]
      refine ⟨?x, ?_⟩
      rotate_left 1
      · simp [hb, h0, h1, f1, f2, f3, f4]
        rfl
    obtain ⟨x, e⟩ := e
    exact ⟨x.fmod n, _, ⟨a, b, c + 1, rfl⟩, Int.fmod_nonneg_of_pos _ h, Int.fmod_lt_of_pos _ h, e⟩
theorem is_whole_int (i : Int) : m_is_whole [.fz (.int i)] = .ok (.fz (.bl true)) [.fz (.int i)] := by
  unfold m_is_whole
  rw [ev_run]
  unfold g_is_whole
  simp
theorem mem_nats {l : List Nat} {d : D} (h : d ∈ natsD l) : ∃ i ∈ l, d = .int ((i : Nat) : Int) := by
  unfold natsD at h
  obtain ⟨i, hi, e⟩ := List.mem_map.mp h
  exact ⟨i, hi, e.symm⟩
theorem sort_nats {n : Nat} {l : List Nat} (h : IsO n l) : pSorted [.lst (natsD l)] = some (.nl (natsD (List.range n))) := by
  rw [nats_ints, sort_ints, sort_IsO h, ← nats_ints]
theorem is_order_yes {t : T} {l : List Nat} {n : Nat} (ht : Rds t (natsD l)) (h : IsO n l) (h1 : 1 ≤ n) (h2 : n ≤ 12) : m_is_order [t] = .ok (.fz (.bl true)) [t] := by
  have hl := h.len
  subst hl
  have a1 : (1 : Int) ≤ l.length := by omega
  have a2 : (l.length : Int) ≤ 12 := by omega
  have a3 : (-1000000 : Int) ≤ l.length := by omega
  have a4 : (l.length : Int) ≤ 1000000 := by omega
  have a5 : l.length ≤ 100000 := by omega
  cases ht <;>
  · unfold m_is_order
    rw [ev_run]
    unfold g_is_order
    simp [a1, a2, a3, a4, a5]
    rw [compL_map (fun _ => none)]
    · simp [a1, a2, a3, a4, sort_nats h, pNe_gd (n := 1) (by decide) (a := .lst []) (b := .lst []) rfl rfl, rgD0, pEq_gd (n := 1) (by decide) (gd_nats 0 _) (gd_nats 0 _)]
    · intro d hd
      obtain ⟨i, _, rfl⟩ := mem_nats hd
      simp [is_whole_int]
/-! ### writing -/
def numT (i : Nat) : Str := Str.ofString (toString ((i : Nat) : Int))
def wordsT (l : List Nat) : Str := Txt.join " " (l.map numT)
theorem numT_len {i : Nat} (h : i < 12) : (numT i).length ≤ 2 := by
  revert i
  decide
theorem asStrs_map (ys : List Str) : asStrs (ys.map .str) = some ys := by
  induction ys with
  | nil => rfl
  | cons y ys ih => rw [List.map_cons, asStrs, ih]; rfl
theorem sum_le {l : List Nat} {k : Nat} (h : ∀ x ∈ l, x ≤ k) : l.sum ≤ k * l.length := by
  induction l with
  | nil => simp
  | cons x xs ih =>
    have h1 := h x List.mem_cons_self
    have h2 := ih fun y hy => h y (List.mem_cons_of_mem _ hy)
    rw [List.sum_cons, List.length_cons, Nat.mul_succ]
    omega
theorem numT_lens {n : Nat} {l : List Nat} (h : IsO n l) (h2 : n ≤ 12) : ((l.map numT).map (·.length)).sum ≤ 24 := by
  have := sum_le (l := (l.map numT).map (·.length)) (k := 2) fun x hx => by
    obtain ⟨y, hy, rfl⟩ := List.mem_map.mp hx
    obtain ⟨i, hi, rfl⟩ := List.mem_map.mp hy
    exact numT_len (Nat.lt_of_lt_of_le (h.lt hi) h2)
  rw [List.length_map, List.length_map, h.len] at this
  omega
theorem log_small {i : Nat} (h : i < 12) : (i : Nat).log2 < 1920 := by
  revert i
  decide
theorem words_ok {t : T} {l : List Nat} {n : Nat} (ht : Rds t (natsD l)) (h : IsO n l) (h2 : n ≤ 12) : m_words_of [t] = .ok (.fz (.str (wordsT l))) [t] := by
  have hl := h.len
  have a5 : l.length ≤ 100000 := by omega
  have a6 := numT_lens h h2
  have e : (natsD l).filterMap (fun d => match d with | .int i => some (D.str (Str.ofString i.repr)) | d => none) = (l.map numT).map .str := by
    unfold natsD numT
    rw [List.filterMap_map, List.map_map, ← List.filterMap_eq_map]
    rfl
  have j : pJoin [.str " ", .lst ((l.map numT).map .str)] = some (.d (.str (wordsT l))) := by
    unfold pJoin
    dsimp only
    rw [asStrs_map]
    have e1 : (" " : Str).length = 1 := by decide
    show (if _ then _ else _) = _
    rw [if_pos (by rw [e1, List.length_map]; omega)]
    rfl
  cases ht <;>
  · unfold m_words_of
    rw [ev_run]
    unfold g_words_of
    simp [a5]
    rw [compL_map (fun d => match d with | .int i => some (D.str (Str.ofString i.repr)) | d => none)]
    · rw [e]
      simp [-List.map_map, j]
    · intro d hd
      obtain ⟨i, hi, rfl⟩ := mem_nats hd
      simp [log_small (Nat.lt_of_lt_of_le (h.lt hi) h2)]
theorem show_ok {t : T} {l : List Nat} {n : Nat} (ht : Rds t (natsD l)) (h : IsO n l) (h1 : 1 ≤ n) (h2 : n ≤ 12) : m_show_order [t] = .ok (.fz (.str (wordsT l))) [t] := by
  cases ht <;>
  · unfold m_show_order
    rw [ev_run]
    unfold g_show_order
    simp [is_order_yes .fz h h1 h2, words_ok .fz h h2, is_order_yes .ol h h1 h2, words_ok .ol h h2]
theorem need_ok {t : T} {l : List Nat} {n : Nat} (ht : Rds t (natsD l)) (h : IsO n l) (h1 : 1 ≤ n) (h2 : n ≤ 12) : m_need_order [t] = .ok (.fz .non) [t] := by
  cases ht <;>
  · unfold m_need_order
    rw [ev_run]
    unfold g_need_order
    simp [is_order_yes .fz h h1 h2, is_order_yes .ol h h1 h2]
/-! ### behind, back -/
def behindL (a b : List Nat) : List Nat := b.map fun i => a.getD i 0
theorem atI_nats {l : List Nat} {i : Nat} (h : i < l.length) : atI (natsD l) ((i : Nat) : Int) = some (.int ((l.getD i 0 : Nat) : Int)) := by
  rw [atI_of _ i (by simpa using h)]
  simp [natsD, h]
theorem behind_ok {t u : T} {a b : List Nat} {n : Nat} (ht : Rds t (natsD a)) (hu : Rds u (natsD b)) (ha : IsO n a) (hb : IsO n b) (h1 : 1 ≤ n) (h2 : n ≤ 12) :
    m_order_behind [t, u] = .ok (.ol (natsD (behindL a b))) [t, u] := by
  have la := ha.len
  have lb := hb.len
  have a5 : b.length ≤ 100000 := by omega
  have a6 : n ≤ 100000 := by omega
  have e : (natsD b).filterMap (fun d => match d with | .int i => some (D.int ((a.getD i.toNat 0 : Nat) : Int)) | d => none) = natsD (behindL a b) := by
    unfold natsD behindL
    rw [List.filterMap_map, List.map_map, ← List.filterMap_eq_map]
    rfl
  cases ht <;> cases hu <;>
  · unfold m_order_behind
    rw [ev_run]
    unfold g_order_behind
    simp [need_ok .fz ha h1 h2, need_ok .ol ha h1 h2, need_ok .fz hb h1 h2, need_ok .ol hb h1 h2, la, lb, a5]
    rw [compL_map (fun d => match d with | .int i => some (D.int ((a.getD i.toNat 0 : Nat) : Int)) | d => none)]
    · rw [e]
      simp [a6]
    · intro d hd
      obtain ⟨i, hi, rfl⟩ := mem_nats hd
      have hi2 := hb.lt hi
      rw [← la] at hi2
      simp [atI_nats hi2]
def backL (l : List Nat) : List Nat := (List.range l.length).map fun t => l.idxOf t
theorem enum_at {l : List Nat} {i : Nat} {d : D} (h : (enumD (natsD l))[i]? = some d) : ∃ h : i < l.length, d = .tup [.int ((i : Nat) : Int), .int ((l[i] : Nat) : Int)] := by
  unfold enumD at h
  rw [List.getElem?_zipWith] at h
  have hl : i < l.length := by
    rcases Nat.lt_or_ge i l.length with q | q
    · exact q
    · rw [List.getElem?_eq_none (by simpa using q)] at h
      cases h
  refine ⟨hl, ?_⟩
  rw [List.getElem?_eq_getElem (by simpa using hl), List.getElem?_eq_getElem (by simpa using hl)] at h
  simp [natsD] at h
  exact h.symm
theorem ixN_of {n k : Nat} (h : k < n) : ixN n ((k : Nat) : Int) = some k := by
  unfold ixN
  rw [if_pos (by omega), if_pos (by omega)]
  simp
theorem nats_set (f : List Nat) (k v : Nat) : (natsD f).set k (.int ((v : Nat) : Int)) = natsD (f.set k v) := by
  unfold natsD
  rw [List.map_set]
theorem enum_len (ds : List D) : (enumD ds).length = ds.length := by simp [enumD]
theorem turned_ok {t : T} {l : List Nat} {n : Nat} (ht : Rds t (natsD l)) (h : IsO n l) (h2 : n ≤ 1000) : m_turned_back [t] = .ok (.ol (natsD (backL l))) [t] := by
  have hl := h.len
  subst hl
  have a1 : -1000000 ≤ (l.length : Int) := by omega
  have a2 : (l.length : Int) ≤ 1000000 := by omega
  have a3 : l.length ≤ 1000000 := by omega
  have r0 : pRep [.lst [.int 0], .int (l.length : Int)] = some (.nl (natsD (List.replicate l.length 0))) := by
    unfold pRep
    simp [a1, a2, a3, natsD]
  have fin : ∀ f : List Nat, f.length = l.length → (∀ j (hj : j < l.length), f[l[j]]? = some j) → f = backL l := by
    intro f hf hj
    refine List.ext_getElem (by rw [hf]; simp [backL]) fun k hk1 hk2 => ?_
    have hm : k ∈ l := h.mem (by omega)
    have hi := List.idxOf_lt_length_of_mem hm
    have := hj (l.idxOf k) hi
    rw [List.getElem_idxOf, List.getElem?_eq_getElem hk1] at this
    rw [Option.some.inj this]
    simp [backL]
  obtain ⟨T0, hT0⟩ : ∃ T0, T0 = t := ⟨t, rfl⟩
  cases ht <;>
  · unfold m_turned_back
    rw [ev_run]
    unfold g_turned_back
    simp [r0]
    rw [← hT0]
    clear hT0
    generalize hx : loopS _ _ _ _ (enumD (natsD l)) _ = X
    have hX := loopS_use hx (fun i ρ => ∃ f x2 x3, ρ = [T0, .ol (natsD f), x2, x3] ∧ f.length = l.length ∧ ∀ j (hj : j < l.length), j < i → f[l[j]]? = some j) ⟨List.replicate l.length 0, .dead, .dead, rfl, by simp, fun _ _ h => by omega⟩ ?step
    case step =>
      rintro i d ρ hd ⟨f, x2, x3, rfl, hf, hj⟩
      obtain ⟨hi, rfl⟩ := enum_at hd
      have hlt : l[i] < l.length := h.lt (List.getElem_mem hi)
      refine ⟨[_, .ol (natsD (f.set l[i] i)), .fz (.int ((i : Nat) : Int)), .fz (.int ((l[i] : Nat) : Int))], .inl ?_, ?_, f.set l[i] i, _, _, rfl, by simpa using hf, ?_⟩
      rotate_left 2
      · intro j hj1 hj2
        rcases Nat.lt_or_ge j i with q | q
        · rw [List.getElem?_set_ne, hj j hj1 q]
          intro e
          have := (List.getElem_inj h.nodup).mp e
          omega
        · obtain rfl : j = i := by omega
          rw [List.getElem?_set_self (by rw [hf]; exact hlt)]
      all_goals simp [ixN_of (show l[i] < f.length by rw [hf]; exact hlt), nats_set]
    obtain ⟨ρ', rfl, f, x2, x3, rfl, hf, hj⟩ := hX
    rw [enum_len, natsD_len] at hj
    rw [← fin f hf fun j hj1 => hj j hj1 hj1]
    simp
theorem idx_inj {l : List Nat} {a b : Nat} (ha : a ∈ l) (hb : b ∈ l) (e : l.idxOf a = l.idxOf b) : a = b := by
  have h1 : l[l.idxOf a]? = some a := by rw [List.getElem?_eq_getElem (List.idxOf_lt_length_of_mem ha), List.getElem_idxOf]
  have h2 : l[l.idxOf b]? = some b := by rw [List.getElem?_eq_getElem (List.idxOf_lt_length_of_mem hb), List.getElem_idxOf]
  rw [e, h2] at h1
  exact (Option.some.inj h1).symm
theorem back_IsO {l : List Nat} {n : Nat} (h : IsO n l) : IsO n (backL l) := by
  have hl := h.len
  subst hl
  refine IsO_of (by simp [backL]) (fun x hx => ?_) ?_
  · obtain ⟨t, ht, rfl⟩ := List.mem_map.mp hx
    exact List.idxOf_lt_length_of_mem (h.mem (List.mem_range.mp ht))
  · refine List.pairwise_map.mpr (List.Pairwise.imp_of_mem (fun {a b} ha hb hlt e => ?_) List.pairwise_lt_range)
    have := idx_inj (h.mem (List.mem_range.mp ha)) (h.mem (List.mem_range.mp hb)) e
    omega
theorem behind_IsO {a b : List Nat} {n : Nat} (ha : IsO n a) (hb : IsO n b) : IsO n (behindL a b) := by
  have la := ha.len
  have lb := hb.len
  have g : ∀ i, i < n → ∃ h : i < a.length, a.getD i 0 = a[i] := fun i hi => ⟨by omega, by simp [show i < a.length by omega]⟩
  refine IsO_of (by simp [behindL, lb]) (fun x hx => ?_) ?_
  · obtain ⟨t, ht, rfl⟩ := List.mem_map.mp hx
    obtain ⟨h1, h2⟩ := g t (hb.lt ht)
    rw [h2]
    exact ha.lt (List.getElem_mem h1)
  · refine List.pairwise_map.mpr (List.Pairwise.imp_of_mem (fun {x y} hx hy hne e => hne ?_) hb.nodup)
    obtain ⟨h1, h2⟩ := g x (hb.lt hx)
    obtain ⟨h3, h4⟩ := g y (hb.lt hy)
    rw [h2, h4] at e
    exact (List.getElem_inj ha.nodup).mp e
theorem back_ok {t : T} {l : List Nat} {n : Nat} (ht : Rds t (natsD l)) (h : IsO n l) (h1 : 1 ≤ n) (h2 : n ≤ 12) : m_back_of [t] = .ok (.ol (natsD (backL l))) [t] := by
  have h3 : n ≤ 1000 := by omega
  cases ht <;>
  · unfold m_back_of
    rw [ev_run]
    unfold g_back_of
    simp [need_ok .fz h h1 h2, need_ok .ol h h1 h2, turned_ok .fz h h3, turned_ok .ol h h3]
end Wk

set_option Elab.async false
set_option linter.all false
set_option maxRecDepth 100000
namespace Wk
open PySem PySem.Spec L2 DL
open TL in
theorem mem_joinL {S : List Nat} {x : Nat} : ∀ {ps : List (List Nat)}, x ∈ joinL S ps → x ∈ S ∨ ∃ p ∈ ps, x ∈ p
  | [], h => by cases h
  | [p], h => .inr ⟨p, List.mem_singleton.mpr rfl, h⟩
  | p :: q :: r, h => by
    rcases List.mem_append.mp h with h | h
    · exact .inr ⟨p, List.mem_cons_self, h⟩
    · rcases List.mem_append.mp h with h | h
      · exact .inl h
      · rcases mem_joinL h with h | ⟨z, hz, h⟩
        · exact .inl h
        · exact .inr ⟨z, List.mem_cons_of_mem _ hz, h⟩
theorem num_free {i s : Nat} (h : s < 48 ∨ 57 < s) : s ∉ TL.tl (numT i) := by
  unfold numT
  rw [TL.tl_num]
  exact TL.numL_free h
theorem words_free {l : List Nat} {s : Nat} (h1 : s < 48 ∨ 57 < s) (h2 : s ≠ 32) : s ∉ TL.tl (wordsT l) := by
  unfold wordsT
  rw [TL.join_eq, TL.tl_join]
  intro h
  rcases mem_joinL h with h | ⟨p, hp, h⟩
  · have e : TL.tl (" " : Str) = [32] := by decide
    rw [e] at h
    exact h2 (List.mem_singleton.mp h)
  · obtain ⟨z, hz, rfl⟩ := List.mem_map.mp hp
    obtain ⟨i, _, rfl⟩ := List.mem_map.mp hz
    exact num_free h1 h
theorem words_split {l : List Nat} (h : l ≠ []) : Txt.split (wordsT l) " " = l.map numT := by
  unfold wordsT
  refine TL.split_join (s := 32) (S := []) (by decide +kernel) (by decide +kernel) (by simpa using h) fun p hp => ?_
  obtain ⟨i, _, rfl⟩ := List.mem_map.mp hp
  exact num_free (by decide)
def linesT (ls : List (List Nat)) : Str := Txt.join ", " (ls.map wordsT)
theorem lines_split {ls : List (List Nat)} (h : ls ≠ []) : Txt.split (linesT ls) ", " = ls.map wordsT := by
  unfold linesT
  refine TL.split_join (s := 44) (S := [32]) (by decide +kernel) (by decide +kernel) (by simpa using h) fun p hp => ?_
  obtain ⟨i, _, rfl⟩ := List.mem_map.mp hp
  exact words_free (by decide) (by decide)
theorem num_inj {i j : Nat} (h : numT i = numT j) : i = j := by
  have e := congrArg TL.tl h
  unfold numT at e
  rw [TL.tl_num, TL.tl_num] at e
  exact TL.numL_inj e
theorem map_inj {α β : Type} {f : α → β} (hf : ∀ a b, f a = f b → a = b) : ∀ {l m : List α}, l.map f = m.map f → l = m
  | [], [], _ => rfl
  | [], _ :: _, h => by cases h
  | _ :: _, [], h => by cases h
  | a :: l, b :: m, h => by
    rw [List.map_cons, List.map_cons] at h
    injection h with h1 h2
    rw [hf a b h1, map_inj hf h2]
theorem words_inj {l m : List Nat} (hl : l ≠ []) (hm : m ≠ []) (h : wordsT l = wordsT m) : l = m := by
  have e : Txt.split (wordsT l) " " = Txt.split (wordsT m) " " := by rw [h]
  rw [words_split hl, words_split hm] at e
  exact map_inj (fun _ _ => num_inj) e
theorem lines_dash {ls : List (List Nat)} (h : ls ≠ []) : linesT ls ≠ "-" := by
  intro e
  have e1 : Txt.split (linesT ls) ", " = Txt.split "-" ", " := by rw [e]
  have e2 : Txt.split (Txt.join ", " [("-" : Str)]) ", " = [("-" : Str)] := TL.split_join (s := 44) (S := [32]) (by decide +kernel) (by decide +kernel) (by simp) fun p hp => by
    rw [List.mem_singleton.mp hp]
    decide +kernel
  have e3 : Txt.join ", " [("-" : Str)] = "-" := by rw [TL.join_eq]; rfl
  rw [e3] at e2
  rw [lines_split h, e2] at e1
  have hm : (("-" : Str)) ∈ ls.map wordsT := by rw [e1]; exact List.mem_singleton.mpr rfl
  obtain ⟨l, _, hl⟩ := List.mem_map.mp hm
  have hf : 45 ∉ TL.tl (wordsT l) := words_free (by decide) (by decide)
  rw [hl] at hf
  exact hf (by decide +kernel)
def showT (ls : List (List Nat)) : Str := if ls = [] then "-" else linesT ls
theorem show_inj {a b : List (List Nat)} (ha : ∀ l ∈ a, l ≠ []) (hb : ∀ l ∈ b, l ≠ []) (h : showT a = showT b) : a = b := by
  unfold showT at h
  by_cases ea : a = []
  · by_cases eb : b = []
    · rw [ea, eb]
    · rw [if_pos ea, if_neg eb] at h
      exact absurd h.symm (lines_dash eb)
  · by_cases eb : b = []
    · rw [if_neg ea, if_pos eb] at h
      exact absurd h (lines_dash ea)
    · rw [if_neg ea, if_neg eb] at h
      have e : Txt.split (linesT a) ", " = Txt.split (linesT b) ", " := by rw [h]
      rw [lines_split ea, lines_split eb] at e
      clear h ea eb
      induction a generalizing b with
      | nil => cases b with
        | nil => rfl
        | cons _ _ => cases e
      | cons x a ih => cases b with
        | nil => cases e
        | cons y b =>
          rw [List.map_cons, List.map_cons] at e
          injection e with e1 e2
          rw [words_inj (ha x List.mem_cons_self) (hb y List.mem_cons_self) e1, ih (fun l h => ha l (List.mem_cons_of_mem _ h)) (fun l h => hb l (List.mem_cons_of_mem _ h)) e2]
/-! ### reading -/
theorem sign1_one (c : Nat) : sign1 ⟨#[c]⟩ = some c := rfl
theorem notIn_sign (c : Nat) (z : Str) : pNotIn [.str ⟨#[c]⟩, .str z] = some (.d (.bl (!decide (c ∈ z.cps.toList)))) := rfl
theorem numT_facts {i : Nat} (h : i < 12) : (1 ≤ (numT i).length ∧ (numT i).length ≤ 2) ∧ (∀ c ∈ (numT i).cps.toList, c ∈ ("0123456789" : Str).cps.toList) ∧ ((numT i).length = 1 ∨ (numT i).cps.toList[0]? ≠ some 48) ∧ PySem.intText? (numT i) = some (i : Int) := by
  refine ⟨?_, ?_, ?_, ?_⟩
  · revert i; decide +kernel
  · revert i; decide +kernel
  · revert i; decide +kernel
  · exact PySem.W.KIN.num_reads (by omega) (by omega)
theorem is_number_ok {i : Nat} (h : i < 12) : m_is_number [.fz (.str (numT i))] = .ok (.fz (.bl true)) [.fz (.str (numT i))] := by
  obtain ⟨⟨h1, h2⟩, h3, h4, h5⟩ := numT_facts h
  have a1 : (numT i).length ≤ 1000000 := by omega
  have a2 : (1 : Int) ≤ (numT i).length := by omega
  have a3 : ((numT i).length : Int) ≤ 2 := by omega
  have a4 : (signsD (numT i)).length ≤ 100000 := by
    have : (signsD (numT i)).length = (numT i).length := by simp [signsD, Str.length]
    omega
  unfold m_is_number
  rw [ev_run]
  unfold g_is_number
  simp [a1, a2, a3, a4]
  rw [compL_map (fun _ => none)]
  · simp [a1, pNe_gd (n := 1) (by decide) (a := .lst []) (b := .lst []) rfl rfl]
    by_cases q : (numT i).length = 1
    · simp [q]
    · have h4 := h4.resolve_left q
      have hl : 0 < (numT i).cps.toList.length := by
        have : (numT i).cps.toList.length = (numT i).length := rfl
        omega
      have e : atI (numT i).cps.toList 0 = some (numT i).cps.toList[0] := atI_of (numT i).cps.toList 0 hl
      rw [List.getElem?_eq_getElem hl] at h4
      generalize (numT i).cps.toList[0] = c at e h4
      have h6 : c ≠ 48 := fun z => h4 (by rw [z])
      have h7 : ¬ (⟨#[c]⟩ : Str) = "0" := fun z => h6 (by
        have e0 : ("0" : Str) = ⟨#[48]⟩ := by decide +kernel
        rw [e0] at z
        have := congrArg (fun y : Str => y.cps.toList) z
        simpa using this)
      simp [q, a1, e, h7]
  · intro d hd
    obtain ⟨c, hc, rfl⟩ := List.mem_map.mp hd
    have := h3 c hc
    simp [notIn_sign, this]
end Wk

set_option Elab.async false
set_option linter.all false
set_option maxRecDepth 100000
namespace Wk
open PySem PySem.Spec L2 DL
theorem str_len (x : Str) : x.cps.toList.length = x.length := rfl
theorem words_len {n : Nat} {l : List Nat} (h : IsO n l) (h2 : n ≤ 12) : (wordsT l).length ≤ 36 := by
  have h1 := numT_lens h h2
  have h3 := StrLaws.join_length_le (" " : Str) (l.map numT)
  rw [← TL.join_eq] at h3
  have e1 : (" " : Str).length = 1 := by decide
  rw [e1, List.length_map, h.len] at h3
  unfold wordsT
  omega
theorem ne_of_IsO {n : Nat} {l : List Nat} (h : IsO n l) (h1 : 1 ≤ n) : l ≠ [] := fun e => by
  have := h.len
  rw [e] at this
  simp at this
  omega
@[simp] theorem pNe_nil : pNe [.lst [], .lst []] = some (.d (.bl false)) := (pNe_gd (n := 1) (by decide) rfl rfl).trans (by simp)
@[simp] theorem pEq_nil : pEq [.lst [], .lst []] = some (.d (.bl true)) := (pEq_gd (n := 1) (by decide) rfl rfl).trans (by simp)
theorem read_ok {l : List Nat} {n : Nat} (h : IsO n l) (h1 : 1 ≤ n) (h2 : n ≤ 12) : m_read_order [.fz (.str (wordsT l))] = .ok (.ol (natsD l)) [.fz (.str (wordsT l))] := by
  have hl := h.len
  have a1 := words_len h h2
  have a2 : (wordsT l).length ≤ 100000 := by omega
  have a5 : l.length ≤ 100000 := by omega
  have e : pSplit [.str (wordsT l), .str " "] = some (.nl ((l.map numT).map .str)) := by
    unfold pSplit
    have e1 : (" " : Str).length = 1 := by decide
    simp only [e1]
    rw [if_pos (by simp [a2]), words_split (ne_of_IsO h h1)]
  have a6 : ((l.map numT).map D.str).length = l.length := by simp
  have mem : ∀ d, d ∈ (l.map numT).map D.str → ∃ i, i ∈ l ∧ d = .str (numT i) := fun d hd => by
    obtain ⟨y, hy, rfl⟩ := List.mem_map.mp hd
    obtain ⟨i, hi, rfl⟩ := List.mem_map.mp hy
    exact ⟨i, hi, rfl⟩
  unfold m_read_order
  rw [ev_run]
  unfold g_read_order
  generalize hW : (l.map numT).map D.str = W at *
  simp [e, a6, a5]
  rw [compL_map (fun _ => none)]
  · simp [a6, a5]
    rw [compL_each W l (fun i => .str (numT i)) (fun i => .int ((i : Nat) : Int)) (by rw [← hW, List.map_map]; rfl)]
    · rw [show (l.map fun i => D.int ((i : Nat) : Int)) = natsD l from rfl]
      simp [is_order_yes .ol h h1 h2]
    · intro i hi
      obtain ⟨⟨_, p⟩, _, _, q⟩ := numT_facts (Nat.lt_of_lt_of_le (h.lt hi) h2)
      have p2 : (numT i).length ≤ 640 := by omega
      simp [q, p2]
  · intro d hd
    obtain ⟨i, hi, rfl⟩ := mem d hd
    simp [is_number_ok (Nat.lt_of_lt_of_le (h.lt hi) h2)]
/-! ### lists -/
theorem mem_ords {ls : List (List Nat)} {d : D} (h : d ∈ ordsD ls) : ∃ l ∈ ls, d = .lst (natsD l) := by
  unfold ordsD at h
  obtain ⟨i, hi, e⟩ := List.mem_map.mp h
  exact ⟨i, hi, e.symm⟩
@[simp] theorem ords_len (ls : List (List Nat)) : (ordsD ls).length = ls.length := by simp [ordsD]
theorem is_orders_yes {t : T} {ls : List (List Nat)} {n : Nat} (ht : Rds t (ordsD ls)) (h : ∀ l ∈ ls, IsO n l) (h1 : 1 ≤ n) (h2 : n ≤ 12) (hz : ls.length ≤ 100000) : m_is_orders [t] = .ok (.fz (.bl true)) [t] := by
  cases ht <;>
  · unfold m_is_orders
    rw [ev_run]
    unfold g_is_orders
    simp [hz]
    rw [compL_map (fun _ => none)]
    · simp [hz]
      rw [compL_map (fun _ => none)]
      · simp
      · intro d hd
        obtain ⟨l, hl, rfl⟩ := mem_ords hd
        cases ls with
        | nil => cases hl
        | cons x ls =>
          have e : atI (ordsD (x :: ls)) 0 = some (.lst (natsD x)) := atI_of _ 0 (by simp)
          simp [e, (h l hl).len, (h x List.mem_cons_self).len]
    · intro d hd
      obtain ⟨l, hl, rfl⟩ := mem_ords hd
      simp [is_order_yes .fz (h l hl) h1 h2]
theorem show_orders_ok {t : T} {ls : List (List Nat)} {n : Nat} (ht : Rds t (ordsD ls)) (h : ∀ l ∈ ls, IsO n l) (h1 : 1 ≤ n) (h2 : n ≤ 12) (hz : ls.length ≤ 10000) : m_show_orders [t] = .ok (.fz (.str (showT ls))) [t] := by
  have hz2 : ls.length ≤ 100000 := by omega
  have e0 : pEq [.lst (ordsD ls), .lst []] = some (.d (.bl (decide (ls = [])))) := by
    rw [pEq_gd (n := 2) (by decide) (gd_ords 0 ls) rfl]
    by_cases q : ls = []
    · subst q; simp [ordsD]
    · rw [dEq_ne (fun z => q (ords_inj (b := []) (by injection z)))]
      simp [q]
  have j : ls ≠ [] → pJoin [.str ", ", .lst ((ls.map wordsT).map .str)] = some (.d (.str (linesT ls))) := fun hne => by
    unfold pJoin
    dsimp only
    rw [asStrs_map]
    have e1 : (", " : Str).length = 2 := by decide
    have s := sum_le (l := (ls.map wordsT).map (·.length)) (k := 36) fun x hx => by
      obtain ⟨y, hy, rfl⟩ := List.mem_map.mp hx
      obtain ⟨l, hl, rfl⟩ := List.mem_map.mp hy
      exact words_len (h l hl) h2
    rw [List.length_map, List.length_map] at s
    show (if _ then _ else _) = _
    rw [if_pos (by rw [e1, List.length_map]; omega)]
    rfl
  cases ht <;>
  · unfold m_show_orders
    rw [ev_run]
    unfold g_show_orders
    simp [is_orders_yes .fz h h1 h2 hz2, is_orders_yes .ol h h1 h2 hz2, e0, hz2]
    by_cases q : ls = []
    · subst q
      simp [showT]
    · simp [q]
      rw [compL_each (ordsD ls) ls (fun l => .lst (natsD l)) (fun l => .str (wordsT l)) rfl]
      · rw [show (ls.map fun l => D.str (wordsT l)) = (ls.map wordsT).map .str from by rw [List.map_map]; rfl]
        simp [-List.map_map, j q, showT, q, hz2]
      · intro l hl
        simp [words_ok .fz (h l hl) h2]
theorem lines_len {n : Nat} {ls : List (List Nat)} (h : ∀ l ∈ ls, IsO n l) (h2 : n ≤ 12) : (linesT ls).length ≤ 38 * ls.length := by
  have h3 := StrLaws.join_length_le (", " : Str) (ls.map wordsT)
  rw [← TL.join_eq] at h3
  have e1 : (", " : Str).length = 2 := by decide
  have s := sum_le (l := (ls.map wordsT).map (·.length)) (k := 36) fun x hx => by
    obtain ⟨y, hy, rfl⟩ := List.mem_map.mp hx
    obtain ⟨l, hl, rfl⟩ := List.mem_map.mp hy
    exact words_len (h l hl) h2
  rw [List.length_map, List.length_map] at s
  rw [e1, List.length_map] at h3
  unfold linesT
  omega
theorem split_lines {ls : List (List Nat)} {n : Nat} (h : ∀ l ∈ ls, IsO n l) (h2 : n ≤ 12) (hne : ls ≠ []) (hz : ls.length ≤ 1000) : pSplit [.str (linesT ls), .str ", "] = some (.nl ((ls.map wordsT).map .str)) := by
  have := lines_len h h2
  have a : (linesT ls).length ≤ 100000 := by omega
  have e1 : (", " : Str).length = 2 := by decide
  unfold pSplit
  simp only [e1]
  rw [if_pos (by simp [a]), lines_split hne]
theorem read_orders_ok {ls : List (List Nat)} {n : Nat} (h : ∀ l ∈ ls, IsO n l) (h1 : 1 ≤ n) (h2 : n ≤ 12) (hz : ls.length ≤ 1000) : m_read_orders [.fz (.str (showT ls))] = .ok (.ol (ordsD ls)) [.fz (.str (showT ls))] := by
  have hz2 : ls.length ≤ 100000 := by omega
  unfold m_read_orders
  rw [ev_run]
  unfold g_read_orders
  unfold showT
  by_cases q : ls = []
  · subst q
    simp [ordsD]
  · have e := split_lines h h2 q hz
    have a6 : ((ls.map wordsT).map D.str).length = ls.length := by simp
    have mem : ∀ d, d ∈ (ls.map wordsT).map D.str → ∃ i, i ∈ ls ∧ d = .str (wordsT i) := fun d hd => by
      obtain ⟨y, hy, rfl⟩ := List.mem_map.mp hd
      obtain ⟨i, hi, rfl⟩ := List.mem_map.mp hy
      exact ⟨i, hi, rfl⟩
    generalize hW : (ls.map wordsT).map D.str = W at *
    simp [q, lines_dash q, e, a6, hz2]
    rw [compL_each W ls (fun l => .str (wordsT l)) (fun l => .lst (natsD l)) (by rw [← hW, List.map_map]; rfl)]
    · rw [show (ls.map fun l => D.lst (natsD l)) = ordsD ls from rfl]
      simp [is_orders_yes .ol h h1 h2 hz2]
    · intro l hl
      simp [read_ok (h l hl) h1 h2]
end Wk

set_option Elab.async false
set_option linter.all false
set_option maxRecDepth 100000
namespace Wk
open PySem PySem.Spec L2 DL
theorem draw_nat (a b c : Int) (n : Nat) (h : 0 < n) (hn : n ≤ 1000000) : ∃ (r : Nat) (a' b' c' : Int), r < n ∧ m_Ldraw [.ol [.int a, .int b, .int c], .fz (.int n)] = .ok (.fz (.int r)) [.ol [.int a', .int b', .int c'], .fz (.int n)] := by
  obtain ⟨r, t', ⟨a', b', c', rfl⟩, h1, h2, e⟩ := draw_ok (t := .ol [.int a, .int b, .int c]) ⟨a, b, c, rfl⟩ n (by omega) (by omega)
  obtain ⟨k, rfl⟩ := Int.eq_ofNat_of_zero_le h1
  exact ⟨k, a', b', c', by omega, e⟩
theorem nats_erase (f : List Nat) (k : Nat) : (natsD f).eraseIdx k = natsD (f.eraseIdx k) := by
  unfold natsD
  induction f generalizing k with
  | nil => rfl
  | cons x f ih => cases k with
    | zero => rfl
    | succ k => simp only [List.map_cons, List.eraseIdx_cons_succ, ih]
theorem nats_app (f g : List Nat) : natsD f ++ natsD g = natsD (f ++ g) := by simp [natsD]
theorem nats_at {f : List Nat} {k : Nat} (h : k < f.length) : (natsD f)[k]? = some (.int ((f[k] : Nat) : Int)) := by simp [natsD, h]
theorem rgD_len (n : Nat) : (rgD 0 ((n : Nat) : Int)).length = n := by simp [rgD]
theorem popAt_ok {f : List Nat} {r : Nat} (h : r < f.length) (hz : f.length ≤ 1000000) : mPopAt (natsD f) [.int ((r : Nat) : Int)] = some (natsD (f.eraseIdx r), .int ((f[r] : Nat) : Int)) := by
  unfold mPopAt
  simp [hz, ixN_of h, nats_at h, nats_erase]
theorem erase_perm {f : List Nat} {r : Nat} (h : r < f.length) : (f[r] :: f.eraseIdx r).Perm f := by
  induction f generalizing r with
  | nil => cases h
  | cons x f ih => cases r with
    | zero => exact List.Perm.refl _
    | succ r =>
      have := ih (r := r) (by simpa using h)
      simp only [List.getElem_cons_succ, List.eraseIdx_cons_succ]
      exact (List.Perm.swap _ _ _).trans (this.cons x)
theorem order_ok (a b c : Int) (n : Nat) (hn : n ≤ 1000) : ∃ (l : List Nat) (a' b' c' : Int), IsO n l ∧
    m_Lorder2 [.ol [.int a, .int b, .int c], .fz (.int n)] = .ok (.ol (natsD l)) [.ol [.int a', .int b', .int c'], .fz (.int n)] := by
  have b1 : -1000000 ≤ (n : Int) := by omega
  have b2 : (n : Int) ≤ 1000000 := by omega
  have b3 : n ≤ 100000 := by omega
  generalize hm : m_Lorder2 _ = Y
  unfold m_Lorder2 at hm
  rw [ev_run] at hm
  unfold g_Lorder2 at hm
  simp [b1, b2, b3, rgD_len] at hm
  generalize hx : compL _ _ _ _ _ _ (rgD 0 (n : Int)) _ _ = X at hm
  have hX := compL_use hx (fun i acc ρ => ∃ (d left : List Nat) (a b c : Int), acc = natsD d ∧ ρ = [.ol [.int a, .int b, .int c], .fz (.int n), .ol (natsD left), .dead] ∧ left.length + i = n ∧ IsO n (d ++ left))
    ⟨[], List.range n, a, b, c, rfl, by rw [rgD0], by simp, List.Perm.refl _⟩ ?step
  case step =>
    rintro i x acc ρ hi ⟨d, left, a, b, c, rfl, rfl, hl, hp⟩
    have hi2 : i < n := by
      rcases Nat.lt_or_ge i n with q | q
      · exact q
      · rw [List.getElem?_eq_none (by rw [rgD_len]; exact q)] at hi
        cases hi
    obtain ⟨r, a', b', c', hr, e⟩ := draw_nat a b c left.length (by omega) (by omega)
    refine ⟨some (.int ((left[r] : Nat) : Int)), [.ol [.int a', .int b', .int c'], .fz (.int n), .ol (natsD (left.eraseIdx r)), .dead], ?_, by simp, d ++ [left[r]], left.eraseIdx r, a', b', c', ?_, rfl, ?_, ?_⟩
    · simp [e, popAt_ok hr (by omega)]
    · simp [natsD]
    · rw [List.length_eraseIdx_of_lt hr]; omega
    · refine List.Perm.trans ?_ hp
      rw [List.append_assoc]
      exact List.Perm.append_left _ (erase_perm hr)
  obtain ⟨acc, ρ, rfl, d, left, a', b', c', rfl, rfl, hl, hp⟩ := hX
  rw [rgD_len] at hl
  have : left = [] := List.eq_nil_of_length_eq_zero (by omega)
  subst this
  rw [List.append_nil] at hp
  simp at hm
  exact ⟨d, a', b', c', hp, hm.symm⟩
end Wk

set_option Elab.async false
set_option linter.all false
set_option maxRecDepth 100000
namespace Wk
open PySem PySem.Spec L2 DL
theorem fmod_nat (a b : Nat) : ((a : Int)).fmod (b : Int) = ((a % b : Nat) : Int) := by
  rw [Int.fmod_eq_emod_of_nonneg _ (by omega)]
  rfl
theorem nats_atI {f : List Nat} {k : Nat} (h : k < f.length) : atI (natsD f) ((k : Nat) : Int) = some (.int ((f[k] : Nat) : Int)) := by
  rw [atI_of _ k (by simpa using h)]
  simp [natsD]
theorem near_ok {t : T} {l : List Nat} {n : Nat} (a b c : Int) (ht : Rds t (natsD l)) (h : IsO n l) (h1 : 1 ≤ n) (hn : n ≤ 900) : ∃ (l' : List Nat) (a' b' c' : Int), IsO n l' ∧
    m_Lnear2 [.ol [.int a, .int b, .int c], t] = .ok (.ol (natsD l')) [.ol [.int a', .int b', .int c'], t] := by
  generalize hm : m_Lnear2 _ = Y
  unfold m_Lnear2 at hm
  rw [ev_run] at hm
  unfold g_Lnear2 at hm
  obtain ⟨T0, hT0⟩ : ∃ T0, T0 = t := ⟨t, rfl⟩
  obtain ⟨r, a1, b1, c1, hr, e⟩ := draw_nat a b c 5 (by decide) (by decide)
  have e5 : ((5 : Nat) : Int) = 5 := rfl
  rw [e5] at e
  have hk : ∃ k : Nat, k ≤ 3 ∧ atI [D.int 0, D.int 0, D.int 1, D.int 2, D.int 3] ((r : Nat) : Int) = some (.int ((k : Nat) : Int)) := by
    match r, hr with
    | 0, _ => exact ⟨0, by decide, rfl⟩
    | 1, _ => exact ⟨0, by decide, rfl⟩
    | 2, _ => exact ⟨1, by decide, rfl⟩
    | 3, _ => exact ⟨2, by decide, rfl⟩
    | 4, _ => exact ⟨3, by decide, rfl⟩
  obtain ⟨k, hk, ek⟩ := hk
  have b1 : -1000000 ≤ (k : Int) := by omega
  have b2 : (k : Int) ≤ 1000000 := by omega
  have hY : ∃ (f : List Nat) (a' b' c' : Int), IsO n f ∧ Y = .ok (.ol (natsD f)) [.ol [.int a', .int b', .int c'], T0] := by
    cases ht <;>
    · simp [e, ek, b1, b2] at hm
      rw [← hT0] at hm
      generalize hx : loopS _ _ _ _ (rgD 0 (k : Int)) _ = X at hm
      have hX := loopS_use hx (fun i ρ => ∃ (f : List Nat) (a b c : Int) (x2 x3 x4 x5 : T), x2 = .ol (natsD f) ∧ ρ = [.ol [.int a, .int b, .int c], T0, x2, x3, x4, x5] ∧ IsO n f) ⟨l, _, _, _, _, _, _, _, (by first | exact rfl | exact hT0), rfl, h⟩ ?step
      case step =>
        rintro i d ρ hd ⟨f, a, b, c, x2, x3, x4, x5, rfl, rfl, hf⟩
        have hl := hf.len
        subst hl
        obtain ⟨p, a2, b2, c2, hp, e2⟩ := draw_nat a b c f.length (by omega) (by omega)
        obtain ⟨q, a3, b3, c3, hq, e3⟩ := draw_nat a2 b2 c2 f.length (by omega) (by omega)
        obtain ⟨s, a4, b4, c4, hs, e4⟩ := draw_nat a3 b3 c3 2 (by decide) (by decide)
        have e22 : ((2 : Nat) : Int) = 2 := rfl
        rw [e22] at e4
        have n0 : ¬ ((f.length : Int) = 0) := by omega
        have hz : ∃ z : Nat, z < f.length ∧ atI [D.int (((p : Nat) : Int) + 1 |>.fmod (f.length : Int)), D.int ((q : Nat) : Int)] ((s : Nat) : Int) = some (.int ((z : Nat) : Int)) := by
          match s, hs with
          | 0, _ =>
            refine ⟨(p + 1) % f.length, Nat.mod_lt _ (by omega), ?_⟩
            rw [← fmod_nat]
            rfl
          | 1, _ => exact ⟨q, hq, rfl⟩
        obtain ⟨z, hz, ez⟩ := hz
        have g : IsO f.length ((f.set p f[z]).set z f[p]) := (List.set_set_perm (by omega) (by omega)).trans hf
        have hz2 : z < (f.set p f[z]).length := by simpa using hz
        have hne : f ≠ [] := fun z => by rw [z] at h1; simp at h1
        · refine ⟨[.ol [.int a4, .int b4, .int c4], T0, .ol (natsD ((f.set p f[z]).set z f[p])), .fz d, .fz (.int p), .fz (.int z)], .inl ?_, by simp, _, a4, b4, c4, _, _, _, _, rfl, rfl, g⟩
          simp [e2, e3, e4, hne, ez, nats_atI hp, nats_atI hz, ixN_of hp, ixN_of hz, nats_set, List.length_set]
      obtain ⟨ρ, rfl, f, a, b, c, x2, x3, x4, x5, rfl, rfl, hf⟩ := hX
      simp at hm
      exact ⟨f, a, b, c, hf, hm.symm⟩
  obtain ⟨f, a', b', c', hf, rfl⟩ := hY
  subst hT0
  exact ⟨f, a', b', c', hf, rfl⟩
end Wk

set_option Elab.async false
set_option linter.all false
set_option maxRecDepth 100000
namespace Wk
open PySem PySem.Spec L2 DL
def cutG {α : Type} (xs : List α) (lo hi : Option Int) : List α := (xs.drop (HT.sIx xs.length 0 lo)).take (HT.sIx xs.length xs.length hi - HT.sIx xs.length 0 lo)
theorem cut_mem {α : Type} {xs : List α} {lo hi : Option Int} {x : α} (h : x ∈ cutG xs lo hi) : x ∈ xs := List.mem_of_mem_drop (List.mem_of_mem_take h)
theorem cut_len {α : Type} (xs : List α) (lo hi : Option Int) : (cutG xs lo hi).length ≤ xs.length := by
  unfold cutG
  rw [List.length_take, List.length_drop]
  omega
theorem cut_ords (ls : List (List Nat)) (lo hi : Option Int) : cutD (ordsD ls) lo hi = ordsD (cutG ls lo hi) := by
  unfold cutD cutG ordsD
  rw [List.map_take, List.map_drop, List.length_map]
theorem add_ords (a b : List (List Nat)) (h : a.length + b.length ≤ 1000000) : pAdd [.lst (ordsD a), .lst (ordsD b)] = some (.nl (ordsD (a ++ b))) := by
  rw [ev_pAddL, if_pos (by simpa using h)]
  simp [ordsD]
theorem sort_ords (ls : List (List Nat)) : ∃ ls' : List (List Nat), ls'.Perm ls ∧ pSorted [.lst (ordsD ls)] = some (.nl (ordsD ls')) := by
  have e : ∀ ls : List (List Nat), ordsD ls = (ls.map fun l => l.map Int.ofNat).map fun l => .lst (intsD l) := fun ls => by
    unfold ordsD
    rw [List.map_map]
    exact List.map_congr_left fun l _ => by rw [nats_ints]; rfl
  refine ⟨ls.mergeSort fun p q => decide (p.map Int.ofNat ≤ q.map Int.ofNat), List.mergeSort_perm _ _, ?_⟩
  rw [e, sort_rows, e, List.map_mergeSort (r := fun p q : List Nat => decide (p.map Int.ofNat ≤ q.map Int.ofNat)) (s := fun p q : List Int => decide (p ≤ q)) fun _ _ _ _ => rfl]
theorem ords_rev (ls : List (List Nat)) : (ordsD ls).reverse = ordsD ls.reverse := by simp [ordsD]
theorem ords_one (l : List Nat) : [D.lst (natsD l)] = ordsD [l] := rfl
theorem ords_atI {ls : List (List Nat)} {k : Nat} (h : k < ls.length) : atI (ordsD ls) ((k : Nat) : Int) = some (.lst (natsD ls[k])) := by
  rw [atI_of _ k (by simpa using h)]
  simp [ordsD]
theorem otherwise_ok {t : T} {ls : List (List Nat)} {n : Nat} (a b c : Int) (ht : Rds t (ordsD ls)) (h : ∀ l ∈ ls, IsO n l) (h1 : 1 ≤ n) (hn : n ≤ 900) (hz : 1 ≤ ls.length) (hz2 : ls.length ≤ 900) : ∃ (ls' : List (List Nat)) (a' b' c' : Int), (∀ l ∈ ls', IsO n l) ∧ ls'.length ≤ 3 * ls.length ∧
    m_Lotherwise [.ol [.int a, .int b, .int c], t] = .ok (.ol (ordsD ls')) [.ol [.int a', .int b', .int c'], t] := by
  obtain ⟨at_, a1, b1, c1, hat, e1⟩ := draw_nat a b c ls.length (by omega) (by omega)
  obtain ⟨way, a2, b2, c2, hw, e2⟩ := draw_nat a1 b1 c1 6 (by decide) (by decide)
  have e6 : ((6 : Nat) : Int) = 6 := rfl
  rw [e6] at e2
  have hlz : ls.length ≤ 100000 := by omega
  have cl : ∀ lo hi, (cutG ls lo hi).length ≤ ls.length := cut_len ls
  have ad : ∀ lo hi lo' hi', pAdd [.lst (ordsD (cutG ls lo hi)), .lst (ordsD (cutG ls lo' hi'))] = some (.nl (ordsD (cutG ls lo hi ++ cutG ls lo' hi'))) := fun lo hi lo' hi' => add_ords _ _ (by
    have := cl lo hi
    have := cl lo' hi'
    omega)
  match way, hw with
  | 0, _ =>
    refine ⟨cutG ls none (some at_) ++ cutG ls (some at_) (some (at_ + 1)) ++ cutG ls (some at_) none, a2, b2, c2, ?_, ?_, ?_⟩
    · intro l hl
      rcases List.mem_append.mp hl with hl | hl
      · rcases List.mem_append.mp hl with hl | hl <;> exact h l (cut_mem hl)
      · exact h l (cut_mem hl)
    · have x1 := cl none (some at_)
      have x2 := cl (some at_) (some (at_ + 1))
      have x3 := cl (some at_) none
      simp only [List.length_append]
      omega
    · have ad2 : pAdd [.lst (ordsD (cutG ls none (some at_) ++ cutG ls (some at_) (some (at_ + 1)))), .lst (ordsD (cutG ls (some at_) none))] = some (.nl (ordsD (cutG ls none (some at_) ++ cutG ls (some at_) (some (at_ + 1)) ++ cutG ls (some at_) none))) := add_ords _ _ (by
        have x1 := cl none (some at_)
        have x2 := cl (some at_) (some (at_ + 1))
        have x3 := cl (some at_) none
        simp only [List.length_append]
        omega)
      cases ht <;>
      · unfold m_Lotherwise
        rw [ev_run]
        unfold g_Lotherwise
        simp [e1, e2, cut_ords, ad, ad2, -List.append_assoc]
  | 1, _ =>
    refine ⟨cutG ls none (some at_) ++ cutG ls (some (at_ + 1)) none, a2, b2, c2, ?_, ?_, ?_⟩
    · intro l hl
      rcases List.mem_append.mp hl with hl | hl <;> exact h l (cut_mem hl)
    · have x1 := cl none (some at_)
      have x3 := cl (some (at_ + 1)) none
      simp only [List.length_append]
      omega
    · cases ht <;>
      · unfold m_Lotherwise
        rw [ev_run]
        unfold g_Lotherwise
        simp [e1, e2, cut_ords, ad, -List.append_assoc]
  | 2, _ =>
    refine ⟨ls.reverse, a2, b2, c2, fun l hl => h l (List.mem_reverse.mp hl), by rw [List.length_reverse]; omega, ?_⟩
    cases ht <;>
    · unfold m_Lotherwise
      rw [ev_run]
      unfold g_Lotherwise
      simp [e1, e2, ords_rev]
  | 3, _ =>
    refine ⟨ls, a2, b2, c2, h, by omega, ?_⟩
    cases ht <;>
    · unfold m_Lotherwise
      rw [ev_run]
      unfold g_Lotherwise
      simp [e1, e2, hlz]
      rw [compL_each (ordsD ls) ls (fun l => .lst (natsD l)) (fun l => .lst (natsD l)) rfl]
      · rw [show (ls.map fun l => D.lst (natsD l)) = ordsD ls from rfl]
        simp [hlz]
      · intro l hl
        simp
  | 4, _ =>
    obtain ⟨l', a3, b3, c3, hl', e3⟩ := near_ok (t := .fz (.lst (natsD ls[at_]))) a2 b2 c2 .fz (h _ (List.getElem_mem hat)) h1 hn
    have ad1 : pAdd [.lst (ordsD (cutG ls none (some at_))), .lst [.lst (natsD l')]] = some (.nl (ordsD (cutG ls none (some at_) ++ [l']))) := by
      rw [ords_one]
      exact add_ords _ _ (by
        have x1 := cl none (some at_)
        simp only [List.length_singleton]
        omega)
    have ad2 : pAdd [.lst (ordsD (cutG ls none (some at_) ++ [l'])), .lst (ordsD (cutG ls (some (at_ + 1)) none))] = some (.nl (ordsD (cutG ls none (some at_) ++ [l'] ++ cutG ls (some (at_ + 1)) none))) := add_ords _ _ (by
      have x1 := cl none (some at_)
      have x3 := cl (some (at_ + 1)) none
      simp only [List.length_append, List.length_singleton]
      omega)
    refine ⟨cutG ls none (some at_) ++ [l'] ++ cutG ls (some (at_ + 1)) none, a3, b3, c3, ?_, ?_, ?_⟩
    · intro l hl
      rcases List.mem_append.mp hl with hl | hl
      · rcases List.mem_append.mp hl with hl | hl
        · exact h l (cut_mem hl)
        · rw [List.mem_singleton.mp hl]; exact hl'
      · exact h l (cut_mem hl)
    · have x1 := cl none (some at_)
      have x3 := cl (some (at_ + 1)) none
      simp only [List.length_append, List.length_singleton]
      omega
    · cases ht <;>
      · unfold m_Lotherwise
        rw [ev_run]
        unfold g_Lotherwise
        simp [e1, e2, cut_ords, ords_atI hat, e3, ad1, ad2, -List.append_assoc]
  | 5, _ =>
    obtain ⟨ls', hp, e⟩ := sort_ords ls
    refine ⟨ls', a2, b2, c2, fun l hl => h l (hp.mem_iff.mp hl), by rw [hp.length_eq]; omega, ?_⟩
    cases ht <;>
    · unfold m_Lotherwise
      rw [ev_run]
      unfold g_Lotherwise
      simp [e1, e2, e]
end Wk

set_option Elab.async false
set_option linter.all false
set_option maxRecDepth 100000
namespace Wk
open PySem PySem.Spec L2 DL
theorem ev_pMax2 (i j : Int) : pMax2 [.int i, .int j] = some (.d (.int (if j > i then j else i))) := rfl
theorem ev_pMin2 (i j : Int) : pMin2 [.int i, .int j] = some (.d (.int (if j < i then j else i))) := rfl
theorem mem_rg {n k : Nat} {d : D} (h : (rgD 0 ((n : Nat) : Int))[k]? = some d) : k < n ∧ d = .int ((k : Nat) : Int) := by
  rw [rgD0] at h
  have hk : k < n := by
    rcases Nat.lt_or_ge k n with q | q
    · exact q
    · rw [List.getElem?_eq_none (by simpa using q)] at h
      cases h
  refine ⟨hk, ?_⟩
  rw [nats_at (by simpa using hk)] at h
  simpa using h.symm
theorem showT_one (l : List Nat) : showT [l] = wordsT l := by
  unfold showT linesT
  rw [if_neg (by simp), TL.join_eq]
  rfl
theorem dEq_nats {a b : List Nat} : dEq (.lst (natsD a)) (.lst (natsD b)) = decide (a = b) := by
  by_cases h : a = b
  · subst h; simp
  · rw [dEq_ne (fun z => h (nats_inj (by injection z)))]
    simp [h]
theorem dEq_ords {a b : List (List Nat)} : dEq (.lst (ordsD a)) (.lst (ordsD b)) = decide (a = b) := by
  by_cases h : a = b
  · subst h; simp
  · rw [dEq_ne (fun z => h (ords_inj (by injection z)))]
    simp [h]
@[simp] theorem pEq_nats (a b : List Nat) : pEq [.lst (natsD a), .lst (natsD b)] = some (.d (.bl (decide (a = b)))) := by rw [pEq_gd (n := 1) (by decide) (gd_nats 0 a) (gd_nats 0 b), dEq_nats]
@[simp] theorem pNe_nats (a b : List Nat) : pNe [.lst (natsD a), .lst (natsD b)] = some (.d (.bl (!decide (a = b)))) := by rw [pNe_gd (n := 1) (by decide) (gd_nats 0 a) (gd_nats 0 b), dEq_nats]
@[simp] theorem pEq_ords (a b : List (List Nat)) : pEq [.lst (ordsD a), .lst (ordsD b)] = some (.d (.bl (decide (a = b)))) := by rw [pEq_gd (n := 2) (by decide) (gd_ords 0 a) (gd_ords 0 b), dEq_ords]
@[simp] theorem pNe_ords (a b : List (List Nat)) : pNe [.lst (ordsD a), .lst (ordsD b)] = some (.d (.bl (!decide (a = b)))) := by rw [pNe_gd (n := 2) (by decide) (gd_ords 0 a) (gd_ords 0 b), dEq_ords]
theorem words_eq {n : Nat} {a b : List Nat} (ha : IsO n a) (hb : IsO n b) (h1 : 1 ≤ n) : (wordsT a = wordsT b) = (a = b) := by
  refine propext ⟨words_inj (ne_of_IsO ha h1) (ne_of_IsO hb h1), fun e => by rw [e]⟩
theorem show_eq {n : Nat} {a b : List (List Nat)} (ha : ∀ l ∈ a, IsO n l) (hb : ∀ l ∈ b, IsO n l) (h1 : 1 ≤ n) : (showT a = showT b) = (a = b) := by
  refine propext ⟨show_inj (fun l hl => ne_of_IsO (ha l hl) h1) (fun l hl => ne_of_IsO (hb l hl) h1), fun e => by rw [e]⟩
theorem strOk_of {x : Str} (h : ∀ c ∈ TL.tl x, c < 1114112) : PyData.strOk x = true := by
  unfold PyData.strOk
  rw [← Array.all_toList, List.all_eq_true]
  intro c hc
  exact decide_eq_true (h c hc)
theorem words_strOk (l : List Nat) : PyData.strOk (wordsT l) = true := strOk_of fun c hc => by
  unfold wordsT at hc
  rw [TL.join_eq, TL.tl_join] at hc
  rcases mem_joinL hc with h | ⟨p, hp, h⟩
  · have e : TL.tl (" " : Str) = [32] := by decide
    rw [e] at h
    have := List.mem_singleton.mp h
    omega
  · obtain ⟨z, hz, rfl⟩ := List.mem_map.mp hp
    obtain ⟨i, _, rfl⟩ := List.mem_map.mp hz
    unfold numT at h
    rw [TL.tl_num] at h
    have := TL.numL_digits i c h
    omega
theorem pNe_strs (l : List (List Nat)) : pNe [.lst ((l.map wordsT).map D.str), .lst ((l.map wordsT).map D.str)] = some (.d (.bl false)) := by
  have g : gdD 1 (.lst ((l.map wordsT).map D.str)) = true := by
    show ((l.map wordsT).map D.str).all (gdD 0) = true
    rw [List.all_map, List.all_map, List.all_eq_true]
    intro x _
    exact words_strOk x
  rw [pNe_gd (n := 1) (by decide) g g]
  simp
theorem okk80 : ∀ ns : List Int, ns.length ≤ 63 → ∃ ts, m_law_k80 [.fz (.scr ns)] = .ok (.fz (.bl true)) ts := by
  intro ns hns
  generalize hm : m_law_k80 _ = Y
  unfold m_law_k80 at hm
  rw [ev_run] at hm
  unfold g_law_k80 at hm
  obtain ⟨z, ez, hz⟩ : ∃ z : Int, pMin2 [.int 10, .int (ns.length : Int)] = some (.d (.int z)) ∧ z ≤ 63 := ⟨_, ev_pMin2 _ _, by split <;> omega⟩
  obtain ⟨m, em, hm63⟩ : ∃ m : Nat, pMax2 [.int 1, .int z] = some (.d (.int (m : Int))) ∧ m ≤ 63 := ⟨(if z > 1 then z else 1).toNat, by rw [ev_pMax2]; congr 3; split <;> omega, by split <;> omega⟩
  have b1 : -1000000 ≤ (m : Int) := by omega
  have b2 : (m : Int) ≤ 1000000 := by omega
  simp [ez, em, b1, b2] at hm
  generalize hx : loopS _ _ _ _ (rgD 0 (m : Int)) _ = X at hm
  have hX := loopS_use hx (fun i ρ => ∃ x1 x2 x3 x4 x5 x6 x7 x8 x9 x10 x11 x12, ρ = [.fz (.scr ns), x1, x2, x3, x4, x5, x6, x7, x8, x9, x10, x11, x12]) ⟨_, _, _, _, _, _, _, _, _, _, _, _, rfl⟩ ?step
  case step =>
    rintro k d ρ hd ⟨x1, x2, x3, x4, x5, x6, x7, x8, x9, x10, x11, x12, rfl⟩
    obtain ⟨hk, rfl⟩ := mem_rg hd
    clear hd hx hm
    obtain ⟨a, b, e1⟩ := pool_ok ns k
    obtain ⟨r, a2, b2, c2, hr, e2⟩ := draw_nat a b (37 * k) 12 (by decide) (by decide)
    have e12 : ((12 : Nat) : Int) = 12 := rfl
    rw [e12] at e2
    obtain ⟨one, a3, b3, c3, h1, e3⟩ := order_ok a2 b2 c2 (r + 1) (by omega)
    have er : ((r + 1 : Nat) : Int) = 1 + (r : Int) := by omega
    rw [er] at e3
    obtain ⟨other, a4, b4, c4, h2, e4⟩ := near_ok a3 b3 c3 .ol h1 (by omega) (by omega)
    have i1 : 1 ≤ r + 1 := by omega
    have i2 : r + 1 ≤ 12 := by omega
    have s1 := show_ok .ol h1 i1 i2
    have s2 := show_ok .ol h2 i1 i2
    have s3 := back_ok .ol h1 i1 i2
    have s3b := back_ok .fz h1 i1 i2
    have s4 := behind_ok .ol .ol h1 h2 i1 i2
    have s4b := behind_ok .fz .fz h1 h2 i1 i2
    generalize hb : optS _ _ = W
    simp [e1, e2, e3, e4, s1, s2, s3, s4, s3b, s4b, words_eq h1 h2 i1] at hb
    -- the four orders
    generalize hl : loopS _ _ _ _ [D.lst (natsD one), _, _, _] _ = X1 at hb
    have hall : ∀ d ∈ [D.lst (natsD one), D.lst (natsD other), D.lst (natsD (backL one)), D.lst (natsD (behindL one other))], ∃ l, IsO (r + 1) l ∧ d = .lst (natsD l) := by
      intro d hd
      simp only [List.mem_cons, List.not_mem_nil, or_false] at hd
      rcases hd with rfl | rfl | rfl | rfl
      · exact ⟨_, h1, rfl⟩
      · exact ⟨_, h2, rfl⟩
      · exact ⟨_, back_IsO h1, rfl⟩
      · exact ⟨_, behind_IsO h1 h2, rfl⟩
    have hX1 := loopS_use hl (fun i ρ => ∃ y6 y7, ρ = [.fz (.scr ns), .fz (.int k), .ol [.int a4, .int b4, .int c4], .fz (.int (1 + r)), .fz (.lst (natsD one)), .fz (.lst (natsD other)), y6, y7, x8, x9, x10, x11, x12]) ⟨_, _, rfl⟩ ?step1
    case step1 =>
      rintro i d ρ hd ⟨y6, y7, rfl⟩
      obtain ⟨l, hl, rfl⟩ := hall d (List.mem_of_getElem? hd)
      have t1 := show_ok .fz hl i1 i2
      have t2 := show_ok .ol hl i1 i2
      have t3 := read_ok hl i1 i2
      have t4 := show_orders_ok (t := .ol (ordsD [l])) .ol (fun x hx => by rw [List.mem_singleton.mp hx]; exact hl) i1 i2 (by simp)
      rw [showT_one, ← ords_one] at t4
      refine ⟨[.fz (.scr ns), .fz (.int k), .ol [.int a4, .int b4, .int c4], .fz (.int (1 + r)), .fz (.lst (natsD one)), .fz (.lst (natsD other)), .fz (.lst (natsD l)), .fz (.str (wordsT l)), x8, x9, x10, x11, x12], .inl ?_, by simp, _, _, rfl⟩
      simp [t1, t2, t3, t4]
    clear hl
    obtain ⟨ρ1, rfl, y6, y7, rfl⟩ := hX1
    -- the list
    obtain ⟨q, a5, b5, c5, hq, e5⟩ := draw_nat a4 b4 c4 5 (by decide) (by decide)
    have e55 : ((5 : Nat) : Int) = 5 := rfl
    rw [e55] at e5
    have q1 : -1000000 ≤ 1 + (q : Int) := by omega
    have q2 : 1 + (q : Int) ≤ 1000000 := by omega
    have q3 : 1 + (q : Int) = ((q + 1 : Nat) : Int) := by omega
    have q4 : q + 1 ≤ 100000 := by omega
    simp [e5, q1, q2] at hb
    rw [q3] at hb
    simp only [rgD_len, q4] at hb
    generalize hl : compL _ _ _ _ _ _ (rgD 0 ((q + 1 : Nat) : Int)) _ _ = X1 at hb
    have hX1 := compL_use hl (fun i acc ρ => ∃ ls a b c, acc = ordsD ls ∧ (∀ l ∈ ls, IsO (r + 1) l) ∧ ls.length = i ∧ ρ = [.fz (.scr ns), .fz (.int k), .ol [.int a, .int b, .int c], .fz (.int (1 + r)), .fz (.lst (natsD one)), .fz (.lst (natsD other)), y6, y7, x8, x9, x10, x11, .dead]) ⟨[], a5, b5, c5, rfl, (fun _ h => by cases h), rfl, by simp⟩ ?step2
    case step2 =>
      rintro i d acc ρ hd ⟨ls, a, b, c, rfl, hls, hlen, rfl⟩
      obtain ⟨l', a6, b6, c6, hl', e6⟩ := near_ok (t := .fz (.lst (natsD one))) a b c .fz h1 (by omega) (by omega)
      refine ⟨some (.lst (natsD l')), [.fz (.scr ns), .fz (.int k), .ol [.int a6, .int b6, .int c6], .fz (.int (1 + r)), .fz (.lst (natsD one)), .fz (.lst (natsD other)), y6, y7, x8, x9, x10, x11, .dead], ?_, by simp, ls ++ [l'], a6, b6, c6, ?_, ?_, ?_, rfl⟩
      · simp [e6]
      · simp [ordsD]
      · intro l hl
        rcases List.mem_append.mp hl with hl | hl
        · exact hls l hl
        · rw [List.mem_singleton.mp hl]; exact hl'
      · simp [hlen]
    clear hl
    obtain ⟨acc, ρ1, rfl, ls, a6, b6, c6, rfl, hls, hlen, rfl⟩ := hX1
    rw [rgD_len] at hlen
    obtain ⟨ls2, a7, b7, c7, hls2, hlen2, e7⟩ := otherwise_ok (t := .ol (ordsD ls)) a6 b6 c6 .ol hls (by omega) (by omega) (by omega) (by omega)
    have z1 : ls.length ≤ 10000 := by omega
    have z2 : ls2.length ≤ 10000 := by omega
    have u1 := show_orders_ok (t := .fz (.lst (ordsD ls))) .fz hls i1 i2 z1
    have u2 := show_orders_ok (t := .fz (.lst (ordsD ls2))) .fz hls2 i1 i2 z2
    simp [e7] at hb
    rw [compL_each [D.lst (ordsD ls), D.lst (ordsD ls2)] [ls, ls2] (fun l => .lst (ordsD l)) (fun l => .str (showT l)) rfl] at hb
    rotate_left 1
    · intro l hl
      simp only [List.mem_cons, List.not_mem_nil, or_false] at hl
      rcases hl with rfl | rfl
      · simp [u1]
      · simp [u2]
    have at2_0 : ∀ x y : D, atI [x, y] 0 = some x := fun _ _ => rfl
    have at2_1 : ∀ x y : D, atI [x, y] 1 = some y := fun _ _ => rfl
    simp [at2_0, at2_1, show_eq hls hls2 i1, zipD] at hb
    generalize hl : loopS _ _ _ _ [D.tup _, D.tup _] _ = X1 at hb
    have hX1 := loopS_use hl (fun i ρ => ∃ w6 w7 w10 w12, ρ = [.fz (.scr ns), .fz (.int k), .ol [.int a7, .int b7, .int c7], .fz (.int (1 + r)), .fz (.lst (natsD one)), .fz (.lst (natsD other)), w6, w7, .fz (.lst (ordsD ls)), .ol [.lst (ordsD ls), .lst (ordsD ls2)], w10, .ol [.str (showT ls), .str (showT ls2)], w12]) ⟨_, _, _, _, rfl⟩ ?step3
    case step3 =>
      rintro i d ρ hd ⟨w6, w7, w10, w12, rfl⟩
      obtain ⟨L, hL, zL, rfl⟩ : ∃ L : List (List Nat), (∀ l ∈ L, IsO (r + 1) l) ∧ L.length ≤ 1000 ∧ d = .tup [.lst (ordsD L), .str (showT L)] := by
        have := List.mem_of_getElem? hd
        simp only [List.mem_cons, List.not_mem_nil, or_false] at this
        rcases this with rfl | rfl
        · exact ⟨ls, hls, by omega, rfl⟩
        · exact ⟨ls2, hls2, by omega, rfl⟩
      have v1 := read_orders_ok hL i1 i2 zL
      have v2 := show_orders_ok (t := .fz (.lst (ordsD L))) .fz hL i1 i2 (by omega)
      have v3 := show_orders_ok (t := .ol (ordsD L)) .ol hL i1 i2 (by omega)
      have v4 : pNe [.lst (ordsD L), .lst []] = some (.d (.bl (!decide (L = [])))) := pNe_ords L []
      by_cases hE : L = []
      · subst hE
        refine ⟨[.fz (.scr ns), .fz (.int k), .ol [.int a7, .int b7, .int c7], .fz (.int (1 + r)), .fz (.lst (natsD one)), .fz (.lst (natsD other)), w6, .fz (.str (showT [])), .fz (.lst (ordsD ls)), .ol [.lst (ordsD ls), .lst (ordsD ls2)], .fz (.lst (ordsD [])), .ol [.str (showT ls), .str (showT ls2)], w12], .inl ?_, by simp, _, _, _, _, rfl⟩
        simp [v1, v2, v3, v4]
      · have v5 := split_lines hL i2 hE zL
        have v6 : showT L = linesT L := by unfold showT; rw [if_neg hE]
        have v7 : L.length ≤ 100000 := by omega
        refine ⟨[.fz (.scr ns), .fz (.int k), .ol [.int a7, .int b7, .int c7], .fz (.int (1 + r)), .fz (.lst (natsD one)), .fz (.lst (natsD other)), .dead, .fz (.str (showT L)), .fz (.lst (ordsD ls)), .ol [.lst (ordsD ls), .lst (ordsD ls2)], .fz (.lst (ordsD L)), .ol [.str (showT ls), .str (showT ls2)], w12], .inl ?_, by simp, _, _, _, _, rfl⟩
        rw [v6] at v1 v2 v3 ⊢
        simp [v1, v2, v3, v4, hE, v5, v7]
        rw [compL_each (ordsD L) L (fun l => .lst (natsD l)) (fun l => .str (wordsT l)) rfl]
        · rw [show (L.map fun l => D.str (wordsT l)) = (L.map wordsT).map D.str from by rw [List.map_map]; rfl]
          have pn := pNe_strs L
          rw [List.map_map] at pn
          simp [pn]
        · intro l hl
          simp [show_ok .fz (hL l hl) i1 i2]
    clear hl
    obtain ⟨ρ1, rfl, w6, w7, w10, w12, rfl⟩ := hX1
    subst hb
    exact ⟨_, .inl rfl, by simp, _, _, _, _, _, _, _, _, _, _, _, _, rfl⟩
  obtain ⟨ρ, rfl, x1, x2, x3, x4, x5, x6, x7, x8, x9, x10, x11, x12, rfl⟩ := hX
  simp at hm
  exact ⟨_, hm.symm⟩
end Wk

set_option Elab.async false
set_option linter.all false
set_option maxRecDepth 100000
set_option maxHeartbeats 4000000
namespace Wk
open PySem PySem.Spec L2 DL
def topS (i : Nat) : Stmt := PySem.Challenge.pw_ordersapart_k80_whole_one_writing_each.main.body.getD i (.Pass ⟨0, 0, 0, 0⟩)
/-- what the walk asks of the names of the module -/
structure Tx (K : KF) (mg : Str → Option Value) : Prop where
  n_bool : mg "bool" = none
  n_enumerate : mg "enumerate" = none
  n_int : mg "int" = none
  n_isinstance : mg "isinstance" = none
  n_len : mg "len" = none
  n_list : mg "list" = none
  n_max : mg "max" = none
  n_min : mg "min" = none
  n_range : mg "range" = none
  n_sorted : mg "sorted" = none
  n_str : mg "str" = none
  n_zip : mg "zip" = none
  c_FIGURES : ∃ t, mg "FIGURES" = some (.str "0123456789" t)
  c_MOST_THINGS : ∃ t, mg "MOST_THINGS" = some (.int 12 t)
section
variable {P : Program} {w : World} {K : KF} {mg : Str → Option Value} {base : Heap} {cl : Str → Addr}
/-! _law_pool -/
abbrev s_Lpool : Stmt := topS 23
abbrev N_Lpool : List Str := ["script", "k", "cell"]
abbrev P_Lpool : List Str := ["script", "k"]
theorem sc_Lpool : FnScope N_Lpool P_Lpool (defScope s_Lpool) := ⟨rfl, rfl, rfl, by decide +kernel, rfl, by decide +kernel, by decide +kernel⟩
theorem ok_Lpool (T : Tx K mg) {a : Addr} {fd : FuncData} (Fu : Fun K "_law_pool" "_law_pool" s_Lpool a fd)  :
    FnOk P w K mg base (L2.CX P w) 2 a fd P_Lpool (spD K cl P_Lpool.length m_Lpool) := by
  have S := sc_Lpool
  refine fn_okD (k := 1) Fu S (kpC [2]) g_Lpool (fun cdv A outer s H E hr => ?_)
  have tk := tk_def (P := P) (w := w) (K := K) (mg := mg) (base := base) (N := N_Lpool) (qual := "_law_pool") (sc := defScope s_Lpool) (f := a) (cd := cdv) (A := A) (outer := outer) (s := s) (H := H) (E := E)
  have po := po_def (P := P) (w := w) (K := K) (mg := mg) (base := base) (N := N_Lpool) (qual := "_law_pool") (sc := defScope s_Lpool) (f := a) (cd := cdv) (A := A) (outer := outer) (s := s) (H := H) (E := E)
  refine ⟨_, (pss_cons (ps_set (i := 2) S.nd rfl (by first | exact Or.inl rfl | exact Or.inr rfl) pe_int)
  (pss_cons (ps_if (pt_cmpR op_lt (pv 1) (pe_callB (call_lenK K) (by rfl) T.n_len bt_len (pa_cons (pv 0) pa_nil)) (nomark _)) (pss_one (ps_set (i := 2) S.nd rfl (by first | exact Or.inl rfl | exact Or.inr rfl) (pe_ix (ix_seqK K) (pv 0) (pv 1) (fun _ _ => rfl)))) pss_nil)
  (pss_one (ps_ret (pe_lst (pa_cons (pv 2) (pa_cons (pe_callTy call_intA (by rfl) T.n_int bt_int (pa_cons (pe_cmpR op_ge (pv 2) (pe_op op_pow pe_int pe_int) (nomark _)) pa_nil)) (pa_cons (pe_op op_times pe_int (pv 1)) pa_nil)))))))), ?_⟩
  exact (s_seq (s_set rfl (e_int 0))
  (s_seq (s_if (t_test (e_op (out_op o_lt) (e_var 1) (e_call (out_op o_len) (a_cons (e_var 0) a_nil)))) (s_set rfl (e_op (out_op o_ix) (e_var 0) (e_var 1))) s_next)
  (s_ret (e_lst (a_cons (e_var 2) (a_cons (e_call (out_op o_int) (a_cons (e_op (out_op o_ge) (e_var 2) (e_op (out_op o_pow) (e_int 10) (e_int 18))) a_nil)) (a_cons (e_op (out_op o_mul) (e_int 37) (e_var 1)) a_nil)))))))
theorem cal_Lpool (T : Tx K mg) (F : FunAt K mg "_law_pool" s_Lpool)  :
    Cal P w K mg base cl "_law_pool" 2 P_Lpool m_Lpool := by
  obtain ⟨a, fd, Fu, mgf⟩ := F
  exact ⟨a, fd, ok_Lpool T Fu , mgf, Fu.kp, Fu.binds fun _ _ _ _ _ _ us hl => match us, hl with | [_, _], _ => rfl⟩
/-! _law_draw -/
abbrev s_Ldraw : Stmt := topS 24
abbrev N_Ldraw : List Str := ["pool", "many", "found", "x"]
abbrev P_Ldraw : List Str := ["pool", "many"]
theorem sc_Ldraw : FnScope N_Ldraw P_Ldraw (defScope s_Ldraw) := ⟨rfl, rfl, rfl, by decide +kernel, rfl, by decide +kernel, by decide +kernel⟩
theorem ok_Ldraw (T : Tx K mg) {a : Addr} {fd : FuncData} (Fu : Fun K "_law_draw" "_law_draw" s_Ldraw a fd)  :
    FnOk P w K mg base (L2.CX P w) 2 a fd P_Ldraw (spD K cl P_Ldraw.length m_Ldraw) := by
  have S := sc_Ldraw
  refine fn_okD (k := 1) Fu S (kpC [2, 3]) g_Ldraw (fun cdv A outer s H E hr => ?_)
  have tk := tk_def (P := P) (w := w) (K := K) (mg := mg) (base := base) (N := N_Ldraw) (qual := "_law_draw") (sc := defScope s_Ldraw) (f := a) (cd := cdv) (A := A) (outer := outer) (s := s) (H := H) (E := E)
  have po := po_def (P := P) (w := w) (K := K) (mg := mg) (base := base) (N := N_Ldraw) (qual := "_law_draw") (sc := defScope s_Ldraw) (f := a) (cd := cdv) (A := A) (outer := outer) (s := s) (H := H) (E := E)
  refine ⟨_, (pss_cons (ps_if (pt_cmpR (op_eqK K (hu64 hr)) (pe_ix (ix_seqK K) (pv 0) pe_int (fun _ _ => rfl)) pe_int (nomark _)) (pss_cons (ps_set (i := 2) S.nd rfl (by first | exact Or.inl rfl | exact Or.inr rfl) (pe_op op_modN (pe_ix (ix_seqK K) (pv 0) pe_int (fun _ _ => rfl)) (pv 1)))
  (pss_cons (ps_asg (pe_op op_over (pe_ix (ix_seqK K) (pv 0) pe_int (fun _ _ => rfl)) (pv 1)) (pg_sub (pv 0) pe_int set_list))
  (pss_one (ps_ret (pv 2))))) pss_nil)
  (pss_cons (ps_asg (pe_op op_plus (pe_ix (ix_seqK K) (pv 0) pe_int (fun _ _ => rfl)) pe_int) (pg_sub (pv 0) pe_int set_list))
  (pss_cons (ps_set (i := 3) S.nd rfl (by first | exact Or.inl rfl | exact Or.inr rfl) (pe_op op_modN (pe_op op_plus (pe_op op_modN (pe_ix (ix_seqK K) (pv 0) pe_int (fun _ _ => rfl)) pe_int) (pe_op op_times pe_int (pe_ix (ix_seqK K) (pv 0) pe_int (fun _ _ => rfl)))) pe_int))
  (pss_cons (ps_set (i := 3) S.nd rfl (by first | exact Or.inl rfl | exact Or.inr rfl) (pe_op op_modN (pe_op op_times (pv 3) (pv 3)) pe_int))
  (pss_cons (ps_set (i := 3) S.nd rfl (by first | exact Or.inl rfl | exact Or.inr rfl) (pe_op op_modN (pe_op op_times (pe_op op_plus (pv 3) pe_int) (pv 3)) pe_int))
  (pss_one (ps_ret (pe_op op_modN (pe_op op_over (pv 3) pe_int) (pv 1))))))))), ?_⟩
  exact (s_seq (s_if (t_test (e_op (out_op o_eq) (e_op (out_op o_ix) (e_var 0) (e_int 1)) (e_int 1))) (s_seq (s_set rfl (e_op (out_op o_mod) (e_op (out_op o_ix) (e_var 0) (e_int 0)) (e_var 1)))
  (s_seq (s_asg (g_subL (cl := cl) (W := WF) (e_var 0) (e_int 0)) (e_op (out_op o_div) (e_op (out_op o_ix) (e_var 0) (e_int 0)) (e_var 1)))
  (s_ret (e_var 2)))) s_next)
  (s_seq (s_asg (g_subL (cl := cl) (W := WF) (e_var 0) (e_int 2)) (e_op (out_op o_add) (e_op (out_op o_ix) (e_var 0) (e_int 2)) (e_int 1)))
  (s_seq (s_set rfl (e_op (out_op o_mod) (e_op (out_op o_add) (e_op (out_op o_mod) (e_op (out_op o_ix) (e_var 0) (e_int 0)) (e_int 999999999989)) (e_op (out_op o_mul) (e_int 440023) (e_op (out_op o_ix) (e_var 0) (e_int 2)))) (e_int 999999999989)))
  (s_seq (s_set rfl (e_op (out_op o_mod) (e_op (out_op o_mul) (e_var 3) (e_var 3)) (e_int 1000000000039)))
  (s_seq (s_set rfl (e_op (out_op o_mod) (e_op (out_op o_mul) (e_op (out_op o_add) (e_var 3) (e_int 710009)) (e_var 3)) (e_int 999999999961)))
  (s_ret (e_op (out_op o_mod) (e_op (out_op o_div) (e_var 3) (e_int 7)) (e_var 1))))))))
theorem cal_Ldraw (T : Tx K mg) (F : FunAt K mg "_law_draw" s_Ldraw)  :
    Cal P w K mg base cl "_law_draw" 2 P_Ldraw m_Ldraw := by
  obtain ⟨a, fd, Fu, mgf⟩ := F
  exact ⟨a, fd, ok_Ldraw T Fu , mgf, Fu.kp, Fu.binds fun _ _ _ _ _ _ us hl => match us, hl with | [_, _], _ => rfl⟩
/-! _law_order -/
abbrev s_Lorder2 : Stmt := topS 25
abbrev N_Lorder2 : List Str := ["pool", "n", "left", "k"]
abbrev P_Lorder2 : List Str := ["pool", "n"]
theorem sc_Lorder2 : FnScope N_Lorder2 P_Lorder2 (defScope s_Lorder2) := ⟨rfl, rfl, rfl, by decide +kernel, rfl, by decide +kernel, by decide +kernel⟩
theorem ok_Lorder2 (T : Tx K mg) {a : Addr} {fd : FuncData} (Fu : Fun K "_law_order" "_law_order" s_Lorder2 a fd) (c_Ldraw : Cal P w K mg base cl "_law_draw" 2 P_Ldraw m_Ldraw) :
    FnOk P w K mg base (L2.CX P w) 3 a fd P_Lorder2 (spD K cl P_Lorder2.length m_Lorder2) := by
  obtain ⟨a_Ldraw, fd_Ldraw, G_Ldraw, n_Ldraw, k_Ldraw, b_Ldraw⟩ := c_Ldraw
  have S := sc_Lorder2
  refine fn_okD (k := 2) Fu S (kpC [2]) g_Lorder2 (fun cdv A outer s H E hr => ?_)
  have tk := tk_def (P := P) (w := w) (K := K) (mg := mg) (base := base) (N := N_Lorder2) (qual := "_law_order") (sc := defScope s_Lorder2) (f := a) (cd := cdv) (A := A) (outer := outer) (s := s) (H := H) (E := E)
  have po := po_def (P := P) (w := w) (K := K) (mg := mg) (base := base) (N := N_Lorder2) (qual := "_law_order") (sc := defScope s_Lorder2) (f := a) (cd := cdv) (A := A) (outer := outer) (s := s) (H := H) (E := E)
  refine ⟨_, (pss_cons (ps_set (i := 2) S.nd rfl (by first | exact Or.inl rfl | exact Or.inr rfl) (pe_listRg rfl (by rfl) T.n_list (prg_1 (by rfl) T.n_range (pv 1))))
  (pss_one (ps_ret (pe_lc (own := [("k", 3)]) rfl S.nd (pi_range1 (by rfl) T.n_range (pa_cons (pv 1) pa_nil)) (blkOk_by (own := [("k", 3)]) (N := N_Lorder2) (sc := defScope s_Lorder2) (by decide +kernel)) (fun _ _ _ _ _ => (by exact (pg_name (i := 3) S.nd rfl (by first | exact Or.inl rfl | exact Or.inr rfl)))) (fun _ _ _ _ _ => (by exact pts_nil)) (fun _ _ _ _ _ => (by exact (pe_bmK K PySem.F.plainAttrs_list PySem.F.slot_list_pop PySem.F.type_list_pop mt_popAt (pv 2) (pa_cons (pe_callS G_Ldraw (hr.mono (by decide)) (by rfl) n_Ldraw k_Ldraw b_Ldraw hx_blk (pa_cons (pv 0) (pa_cons (pe_callB (call_lenK K) (by rfl) T.n_len bt_len (pa_cons (pv 2) pa_nil)) pa_nil))) pa_nil)))))))), ?_⟩
  exact (s_seq (s_set rfl (e_listRg1 (e_var 1)))
  (s_ret (e_comp (i_range1 (e_var 1)) (g_name rfl) t_yes (e_meth .list (mut_op m_popAt) (e_var 2) (a_cons (e_fn (a_cons (e_var 0) (a_cons (e_call (out_op o_len) (a_cons (e_var 2) a_nil)) a_nil))) a_nil)))))
theorem cal_Lorder2 (T : Tx K mg) (F : FunAt K mg "_law_order" s_Lorder2) (c_Ldraw : Cal P w K mg base cl "_law_draw" 2 P_Ldraw m_Ldraw) :
    Cal P w K mg base cl "_law_order" 3 P_Lorder2 m_Lorder2 := by
  obtain ⟨a, fd, Fu, mgf⟩ := F
  exact ⟨a, fd, ok_Lorder2 T Fu c_Ldraw, mgf, Fu.kp, Fu.binds fun _ _ _ _ _ _ us hl => match us, hl with | [_, _], _ => rfl⟩
/-! _law_near -/
abbrev s_Lnear2 : Stmt := topS 26
abbrev N_Lnear2 : List Str := ["pool", "order", "found", "turn", "p", "q"]
abbrev P_Lnear2 : List Str := ["pool", "order"]
theorem sc_Lnear2 : FnScope N_Lnear2 P_Lnear2 (defScope s_Lnear2) := ⟨rfl, rfl, rfl, by decide +kernel, rfl, by decide +kernel, by decide +kernel⟩
theorem ok_Lnear2 (T : Tx K mg) {a : Addr} {fd : FuncData} (Fu : Fun K "_law_near" "_law_near" s_Lnear2 a fd) (c_Ldraw : Cal P w K mg base cl "_law_draw" 2 P_Ldraw m_Ldraw) :
    FnOk P w K mg base (L2.CX P w) 3 a fd P_Lnear2 (spD K cl P_Lnear2.length m_Lnear2) := by
  obtain ⟨a_Ldraw, fd_Ldraw, G_Ldraw, n_Ldraw, k_Ldraw, b_Ldraw⟩ := c_Ldraw
  have S := sc_Lnear2
  refine fn_okD (k := 2) Fu S (kpC [2, 3, 4, 5]) g_Lnear2 (fun cdv A outer s H E hr => ?_)
  have tk := tk_def (P := P) (w := w) (K := K) (mg := mg) (base := base) (N := N_Lnear2) (qual := "_law_near") (sc := defScope s_Lnear2) (f := a) (cd := cdv) (A := A) (outer := outer) (s := s) (H := H) (E := E)
  have po := po_def (P := P) (w := w) (K := K) (mg := mg) (base := base) (N := N_Lnear2) (qual := "_law_near") (sc := defScope s_Lnear2) (f := a) (cd := cdv) (A := A) (outer := outer) (s := s) (H := H) (E := E)
  refine ⟨_, (pss_cons (ps_set (i := 2) S.nd rfl (by first | exact Or.inl rfl | exact Or.inr rfl) (pe_callTy (call_list_ofK K) (by rfl) T.n_list bt_list (pa_cons (pv 1) pa_nil)))
  (pss_cons (ps_for po rfl (pi_range1 (by rfl) T.n_range (pa_cons (pe_ix (ix_seqK K) (pe_lst (pa_cons pe_int (pa_cons pe_int (pa_cons pe_int (pa_cons pe_int (pa_cons pe_int pa_nil)))))) (pe_callS G_Ldraw (hr.mono (by decide)) (by rfl) n_Ldraw k_Ldraw b_Ldraw (passAt tk) (pa_cons (pv 0) (pa_cons pe_int pa_nil))) (fun _ _ => rfl)) pa_nil)) (pg_name (i := 3) S.nd rfl (by first | exact Or.inl rfl | exact Or.inr rfl))
  (pss_cons (ps_set (i := 4) S.nd rfl (by first | exact Or.inl rfl | exact Or.inr rfl) (pe_callS G_Ldraw (hr.mono (by decide)) (by rfl) n_Ldraw k_Ldraw b_Ldraw (passAt tk) (pa_cons (pv 0) (pa_cons (pe_callB (call_lenK K) (by rfl) T.n_len bt_len (pa_cons (pv 2) pa_nil)) pa_nil))))
  (pss_cons (ps_set (i := 5) S.nd rfl (by first | exact Or.inl rfl | exact Or.inr rfl) (pe_ix (ix_seqK K) (pe_lst (pa_cons (pe_op op_modN (pe_op op_plus (pv 4) pe_int) (pe_callB (call_lenK K) (by rfl) T.n_len bt_len (pa_cons (pv 2) pa_nil))) (pa_cons (pe_callS G_Ldraw (hr.mono (by decide)) (by rfl) n_Ldraw k_Ldraw b_Ldraw (passAt tk) (pa_cons (pv 0) (pa_cons (pe_callB (call_lenK K) (by rfl) T.n_len bt_len (pa_cons (pv 2) pa_nil)) pa_nil))) pa_nil))) (pe_callS G_Ldraw (hr.mono (by decide)) (by rfl) n_Ldraw k_Ldraw b_Ldraw (passAt tk) (pa_cons (pv 0) (pa_cons pe_int pa_nil))) (fun _ _ => rfl)))
  (pss_one (ps_asg (pe_tup (pa_cons (pe_ix (ix_seqK K) (pv 2) (pv 5) (fun _ _ => rfl)) (pa_cons (pe_ix (ix_seqK K) (pv 2) (pv 4) (fun _ _ => rfl)) pa_nil))) (pg_tup rfl (pgs_cons (pg_sub (pv 2) (pv 4) set_list) (pgs_cons (pg_sub (pv 2) (pv 5) set_list) pgs_nil))))))))
  (pss_one (ps_ret (pv 2))))), ?_⟩
  exact (s_seq (s_set rfl (e_call (out_op o_list) (a_cons (e_var 1) a_nil)))
  (s_seq (s_for (kpb := kpC [3, 4, 5]) (kpC_sub rfl) (i_range1 (e_op (out_op o_ix) (e_lst (a_cons (e_int 0) (a_cons (e_int 0) (a_cons (e_int 1) (a_cons (e_int 2) (a_cons (e_int 3) a_nil)))))) (e_fn (a_cons (e_var 0) (a_cons (e_int 5) a_nil))))) (g_name rfl)
  (s_seq (s_set rfl (e_fn (a_cons (e_var 0) (a_cons (e_call (out_op o_len) (a_cons (e_var 2) a_nil)) a_nil))))
  (s_seq (s_set rfl (e_op (out_op o_ix) (e_lst (a_cons (e_op (out_op o_mod) (e_op (out_op o_add) (e_var 4) (e_int 1)) (e_call (out_op o_len) (a_cons (e_var 2) a_nil))) (a_cons (e_fn (a_cons (e_var 0) (a_cons (e_call (out_op o_len) (a_cons (e_var 2) a_nil)) a_nil))) a_nil))) (e_fn (a_cons (e_var 0) (a_cons (e_int 2) a_nil)))))
  (s_asg (g_tup (g_cons (g_subL (cl := cl) (W := WF) (e_var 2) (e_var 4)) (g_cons (g_subL (cl := cl) (W := WF) (e_var 2) (e_var 5)) g_nil))) (e_tup (a_cons (e_op (out_op o_ix) (e_var 2) (e_var 5)) (a_cons (e_op (out_op o_ix) (e_var 2) (e_var 4)) a_nil)))))))
  (s_ret (e_var 2))))
theorem cal_Lnear2 (T : Tx K mg) (F : FunAt K mg "_law_near" s_Lnear2) (c_Ldraw : Cal P w K mg base cl "_law_draw" 2 P_Ldraw m_Ldraw) :
    Cal P w K mg base cl "_law_near" 3 P_Lnear2 m_Lnear2 := by
  obtain ⟨a, fd, Fu, mgf⟩ := F
  exact ⟨a, fd, ok_Lnear2 T Fu c_Ldraw, mgf, Fu.kp, Fu.binds fun _ _ _ _ _ _ us hl => match us, hl with | [_, _], _ => rfl⟩
/-! is_whole -/
abbrev s_is_whole : Stmt := topS 7
abbrev N_is_whole : List Str := ["thing"]
abbrev P_is_whole : List Str := ["thing"]
theorem sc_is_whole : FnScope N_is_whole P_is_whole (defScope s_is_whole) := ⟨rfl, rfl, rfl, by decide +kernel, rfl, by decide +kernel, by decide +kernel⟩
theorem ok_is_whole (T : Tx K mg) {a : Addr} {fd : FuncData} (Fu : Fun K "is_whole" "is_whole" s_is_whole a fd)  :
    FnOk P w K mg base (L2.CX P w) 2 a fd P_is_whole (spD K cl P_is_whole.length m_is_whole) := by
  have S := sc_is_whole
  refine fn_okD (k := 1) Fu S (kpC []) g_is_whole (fun cdv A outer s H E hr => ?_)
  have tk := tk_def (P := P) (w := w) (K := K) (mg := mg) (base := base) (N := N_is_whole) (qual := "is_whole") (sc := defScope s_is_whole) (f := a) (cd := cdv) (A := A) (outer := outer) (s := s) (H := H) (E := E)
  have po := po_def (P := P) (w := w) (K := K) (mg := mg) (base := base) (N := N_is_whole) (qual := "is_whole") (sc := defScope s_is_whole) (f := a) (cd := cdv) (A := A) (outer := outer) (s := s) (H := H) (E := E)
  refine ⟨_, (pss_one (ps_ret (pe_and (pe_callB (call_isi2 K) (by rfl) T.n_isinstance bt_isinstance (pa_cons (pv 0) (pa_cons (pe_bltn (v := .ty "int") (by rfl) T.n_int bt_int rfl) pa_nil))) (pe_one (pe_not (pe_callB (call_isi2 K) (by rfl) T.n_isinstance bt_isinstance (pa_cons (pv 0) (pa_cons (pe_bltn (v := .ty "bool") (by rfl) T.n_bool bt_bool rfl) pa_nil)))))))), ?_⟩
  exact (s_ret (e_andV (e_isa .int (e_var 0)) (e_notV (e_isa .bool (e_var 0)))))
theorem cal_is_whole (T : Tx K mg) (F : FunAt K mg "is_whole" s_is_whole)  :
    Cal P w K mg base cl "is_whole" 2 P_is_whole m_is_whole := by
  obtain ⟨a, fd, Fu, mgf⟩ := F
  exact ⟨a, fd, ok_is_whole T Fu , mgf, Fu.kp, Fu.binds fun _ _ _ _ _ _ us hl => match us, hl with | [_], _ => rfl⟩
/-! is_order -/
abbrev s_is_order : Stmt := topS 8
abbrev N_is_order : List Str := ["thing", "one"]
abbrev P_is_order : List Str := ["thing"]
theorem sc_is_order : FnScope N_is_order P_is_order (defScope s_is_order) := ⟨rfl, rfl, rfl, by decide +kernel, rfl, by decide +kernel, by decide +kernel⟩
theorem ok_is_order (T : Tx K mg) {a : Addr} {fd : FuncData} (Fu : Fun K "is_order" "is_order" s_is_order a fd) (c_is_whole : Cal P w K mg base cl "is_whole" 2 P_is_whole m_is_whole) :
    FnOk P w K mg base (L2.CX P w) 3 a fd P_is_order (spD K cl P_is_order.length m_is_order) := by
  obtain ⟨a_is_whole, fd_is_whole, G_is_whole, n_is_whole, k_is_whole, b_is_whole⟩ := c_is_whole
  obtain ⟨t_MOST_THINGS, h_MOST_THINGS⟩ := T.c_MOST_THINGS
  have S := sc_is_order
  refine fn_okD (k := 2) Fu S (kpC []) g_is_order (fun cdv A outer s H E hr => ?_)
  have tk := tk_def (P := P) (w := w) (K := K) (mg := mg) (base := base) (N := N_is_order) (qual := "is_order") (sc := defScope s_is_order) (f := a) (cd := cdv) (A := A) (outer := outer) (s := s) (H := H) (E := E)
  have po := po_def (P := P) (w := w) (K := K) (mg := mg) (base := base) (N := N_is_order) (qual := "is_order") (sc := defScope s_is_order) (f := a) (cd := cdv) (A := A) (outer := outer) (s := s) (H := H) (E := E)
  refine ⟨_, (pss_cons (ps_if (PW.pt (pw_or (pt_not (pt_val (pe_callB (call_isi2 K) (by rfl) T.n_isinstance bt_isinstance (pa_cons (pv 0) (pa_cons (pe_bltn (v := .ty "list") (by rfl) T.n_list bt_list rfl) pa_nil))))) (pw_or1 (pt_not (pt_chain op_le op_le pe_int (pe_callB (call_lenK K) (by rfl) T.n_len bt_len (pa_cons (pv 0) pa_nil)) (pe_glob (v := .int 12) rfl h_MOST_THINGS ⟨_, rfl⟩)))))) (pss_one (ps_ret pe_bl)) pss_nil)
  (pss_cons (ps_if (pt_cmpR (op_neK K (hu64 hr)) (pe_lc (own := [("one", 1)]) rfl S.nd (pi_listK K (pv 0)) (blkOk_by (own := [("one", 1)]) (N := N_is_order) (sc := defScope s_is_order) (by decide +kernel)) (fun _ _ _ _ _ => (by exact (pg_name (i := 1) S.nd rfl (by first | exact Or.inl rfl | exact Or.inr rfl)))) (fun _ _ _ _ _ => (by exact (pts_one (pt_not (pt_val (pe_callS G_is_whole (hr.mono (by decide)) (by rfl) n_is_whole k_is_whole b_is_whole hx_blk (pa_cons (pv 1) pa_nil))))))) (fun _ _ _ _ _ => (by exact (pv 1)))) (pe_lst pa_nil) (nomark _)) (pss_one (ps_ret pe_bl)) pss_nil)
  (pss_one (ps_ret (pe_cmpR (op_eqK K (hu64 hr)) (pe_callB (cr_sortedK K (hu64 hr)) (by rfl) T.n_sorted bt_sorted (pa_cons (pv 0) pa_nil)) (pe_listRg rfl (by rfl) T.n_list (prg_1 (by rfl) T.n_range (pe_callB (call_lenK K) (by rfl) T.n_len bt_len (pa_cons (pv 0) pa_nil)))) (nomark _)))))), ?_⟩
  exact (s_seq (s_if (t_or (t_not (t_val (e_isa .list (e_var 0)))) (t_not (t_test (e_chain (out_op o_le) (out_op o_le) (e_int 1) (e_call (out_op o_len) (a_cons (e_var 0) a_nil)) (e_int 12))))) (s_ret (e_bl false)) s_next)
  (s_seq (s_if (t_test (e_op (out_op o_ne) (e_comp (i_list (e_var 0)) (g_name rfl) (t_not (t_val (e_fn (a_cons (e_var 1) a_nil)))) (e_var 1)) (e_lst a_nil))) (s_ret (e_bl false)) s_next)
  (s_ret (e_op (out_op o_eq) (e_call (out_op o_sorted) (a_cons (e_var 0) a_nil)) (e_listRg1 (e_call (out_op o_len) (a_cons (e_var 0) a_nil)))))))
theorem cal_is_order (T : Tx K mg) (F : FunAt K mg "is_order" s_is_order) (c_is_whole : Cal P w K mg base cl "is_whole" 2 P_is_whole m_is_whole) :
    Cal P w K mg base cl "is_order" 3 P_is_order m_is_order := by
  obtain ⟨a, fd, Fu, mgf⟩ := F
  exact ⟨a, fd, ok_is_order T Fu c_is_whole, mgf, Fu.kp, Fu.binds fun _ _ _ _ _ _ us hl => match us, hl with | [_], _ => rfl⟩
/-! words_of -/
abbrev s_words_of : Stmt := topS 16
abbrev N_words_of : List Str := ["order", "thing"]
abbrev P_words_of : List Str := ["order"]
theorem sc_words_of : FnScope N_words_of P_words_of (defScope s_words_of) := ⟨rfl, rfl, rfl, by decide +kernel, rfl, by decide +kernel, by decide +kernel⟩
theorem ok_words_of (T : Tx K mg) {a : Addr} {fd : FuncData} (Fu : Fun K "words_of" "words_of" s_words_of a fd)  :
    FnOk P w K mg base (L2.CX P w) 2 a fd P_words_of (spD K cl P_words_of.length m_words_of) := by
  have S := sc_words_of
  refine fn_okD (k := 1) Fu S (kpC []) g_words_of (fun cdv A outer s H E hr => ?_)
  have tk := tk_def (P := P) (w := w) (K := K) (mg := mg) (base := base) (N := N_words_of) (qual := "words_of") (sc := defScope s_words_of) (f := a) (cd := cdv) (A := A) (outer := outer) (s := s) (H := H) (E := E)
  have po := po_def (P := P) (w := w) (K := K) (mg := mg) (base := base) (N := N_words_of) (qual := "words_of") (sc := defScope s_words_of) (f := a) (cd := cdv) (A := A) (outer := outer) (s := s) (H := H) (E := E)
  refine ⟨_, (pss_one (ps_ret (pe_bmK K PySem.F.plainAttrs_str PySem.F.slot_str_join PySem.F.type_str_join (mt_joinK K) pe_str (pa_cons (pe_lc (own := [("thing", 1)]) rfl S.nd (pi_listK K (pv 0)) (blkOk_by (own := [("thing", 1)]) (N := N_words_of) (sc := defScope s_words_of) (by decide +kernel)) (fun _ _ _ _ _ => (by exact (pg_name (i := 1) S.nd rfl (by first | exact Or.inl rfl | exact Or.inr rfl)))) (fun _ _ _ _ _ => (by exact pts_nil)) (fun _ _ _ _ _ => (by exact (pe_callTy call_str_int (by rfl) T.n_str bt_str (pa_cons (pv 1) pa_nil))))) pa_nil)))), ?_⟩
  exact (s_ret (e_meth .str (out_op o_join) (e_str " ") (a_cons (e_comp (i_list (e_var 0)) (g_name rfl) t_yes (e_call (out_op o_str) (a_cons (e_var 1) a_nil))) a_nil)))
theorem cal_words_of (T : Tx K mg) (F : FunAt K mg "words_of" s_words_of)  :
    Cal P w K mg base cl "words_of" 2 P_words_of m_words_of := by
  obtain ⟨a, fd, Fu, mgf⟩ := F
  exact ⟨a, fd, ok_words_of T Fu , mgf, Fu.kp, Fu.binds fun _ _ _ _ _ _ us hl => match us, hl with | [_], _ => rfl⟩
/-! show_order -/
abbrev s_show_order : Stmt := topS 17
abbrev N_show_order : List Str := ["order"]
abbrev P_show_order : List Str := ["order"]
theorem sc_show_order : FnScope N_show_order P_show_order (defScope s_show_order) := ⟨rfl, rfl, rfl, by decide +kernel, rfl, by decide +kernel, by decide +kernel⟩
theorem ok_show_order (T : Tx K mg) {a : Addr} {fd : FuncData} (Fu : Fun K "show_order" "show_order" s_show_order a fd) (c_is_order : Cal P w K mg base cl "is_order" 3 P_is_order m_is_order) (c_words_of : Cal P w K mg base cl "words_of" 2 P_words_of m_words_of) :
    FnOk P w K mg base (L2.CX P w) 4 a fd P_show_order (spD K cl P_show_order.length m_show_order) := by
  obtain ⟨a_is_order, fd_is_order, G_is_order, n_is_order, k_is_order, b_is_order⟩ := c_is_order
  obtain ⟨a_words_of, fd_words_of, G_words_of, n_words_of, k_words_of, b_words_of⟩ := c_words_of
  have S := sc_show_order
  refine fn_okD (k := 3) Fu S (kpC []) g_show_order (fun cdv A outer s H E hr => ?_)
  have tk := tk_def (P := P) (w := w) (K := K) (mg := mg) (base := base) (N := N_show_order) (qual := "show_order") (sc := defScope s_show_order) (f := a) (cd := cdv) (A := A) (outer := outer) (s := s) (H := H) (E := E)
  have po := po_def (P := P) (w := w) (K := K) (mg := mg) (base := base) (N := N_show_order) (qual := "show_order") (sc := defScope s_show_order) (f := a) (cd := cdv) (A := A) (outer := outer) (s := s) (H := H) (E := E)
  refine ⟨_, (pss_cons (ps_if (pt_not (pt_val (pe_callS G_is_order (hr.mono (by decide)) (by rfl) n_is_order k_is_order b_is_order (passAt tk) (pa_cons (pv 0) pa_nil)))) (pss_one ps_never) pss_nil)
  (pss_one (ps_ret (pe_callS G_words_of (hr.mono (by decide)) (by rfl) n_words_of k_words_of b_words_of (passAt tk) (pa_cons (pv 0) pa_nil))))), ?_⟩
  exact (s_seq (s_if (t_not (t_val (e_fn (a_cons (e_var 0) a_nil)))) s_never s_next)
  (s_ret (e_fn (a_cons (e_var 0) a_nil))))
theorem cal_show_order (T : Tx K mg) (F : FunAt K mg "show_order" s_show_order) (c_is_order : Cal P w K mg base cl "is_order" 3 P_is_order m_is_order) (c_words_of : Cal P w K mg base cl "words_of" 2 P_words_of m_words_of) :
    Cal P w K mg base cl "show_order" 4 P_show_order m_show_order := by
  obtain ⟨a, fd, Fu, mgf⟩ := F
  exact ⟨a, fd, ok_show_order T Fu c_is_order c_words_of, mgf, Fu.kp, Fu.binds fun _ _ _ _ _ _ us hl => match us, hl with | [_], _ => rfl⟩
/-! need_order -/
abbrev s_need_order : Stmt := topS 9
abbrev N_need_order : List Str := ["thing"]
abbrev P_need_order : List Str := ["thing"]
theorem sc_need_order : FnScope N_need_order P_need_order (defScope s_need_order) := ⟨rfl, rfl, rfl, by decide +kernel, rfl, by decide +kernel, by decide +kernel⟩
theorem ok_need_order (T : Tx K mg) {a : Addr} {fd : FuncData} (Fu : Fun K "need_order" "need_order" s_need_order a fd) (c_is_order : Cal P w K mg base cl "is_order" 3 P_is_order m_is_order) :
    FnOk P w K mg base (L2.CX P w) 4 a fd P_need_order (spD K cl P_need_order.length m_need_order) := by
  obtain ⟨a_is_order, fd_is_order, G_is_order, n_is_order, k_is_order, b_is_order⟩ := c_is_order
  have S := sc_need_order
  refine fn_okD (k := 3) Fu S (kpC []) g_need_order (fun cdv A outer s H E hr => ?_)
  have tk := tk_def (P := P) (w := w) (K := K) (mg := mg) (base := base) (N := N_need_order) (qual := "need_order") (sc := defScope s_need_order) (f := a) (cd := cdv) (A := A) (outer := outer) (s := s) (H := H) (E := E)
  have po := po_def (P := P) (w := w) (K := K) (mg := mg) (base := base) (N := N_need_order) (qual := "need_order") (sc := defScope s_need_order) (f := a) (cd := cdv) (A := A) (outer := outer) (s := s) (H := H) (E := E)
  refine ⟨_, (pss_one (ps_if (pt_not (pt_val (pe_callS G_is_order (hr.mono (by decide)) (by rfl) n_is_order k_is_order b_is_order (passAt tk) (pa_cons (pv 0) pa_nil)))) (pss_one ps_never) pss_nil)), ?_⟩
  exact (s_if (t_not (t_val (e_fn (a_cons (e_var 0) a_nil)))) s_never s_next)
theorem cal_need_order (T : Tx K mg) (F : FunAt K mg "need_order" s_need_order) (c_is_order : Cal P w K mg base cl "is_order" 3 P_is_order m_is_order) :
    Cal P w K mg base cl "need_order" 4 P_need_order m_need_order := by
  obtain ⟨a, fd, Fu, mgf⟩ := F
  exact ⟨a, fd, ok_need_order T Fu c_is_order, mgf, Fu.kp, Fu.binds fun _ _ _ _ _ _ us hl => match us, hl with | [_], _ => rfl⟩
/-! order_behind -/
abbrev s_order_behind : Stmt := topS 12
abbrev N_order_behind : List Str := ["first", "second", "thing"]
abbrev P_order_behind : List Str := ["first", "second"]
theorem sc_order_behind : FnScope N_order_behind P_order_behind (defScope s_order_behind) := ⟨rfl, rfl, rfl, by decide +kernel, rfl, by decide +kernel, by decide +kernel⟩
theorem ok_order_behind (T : Tx K mg) {a : Addr} {fd : FuncData} (Fu : Fun K "order_behind" "order_behind" s_order_behind a fd) (c_need_order : Cal P w K mg base cl "need_order" 4 P_need_order m_need_order) :
    FnOk P w K mg base (L2.CX P w) 5 a fd P_order_behind (spD K cl P_order_behind.length m_order_behind) := by
  obtain ⟨a_need_order, fd_need_order, G_need_order, n_need_order, k_need_order, b_need_order⟩ := c_need_order
  have S := sc_order_behind
  refine fn_okD (k := 4) Fu S (kpC []) g_order_behind (fun cdv A outer s H E hr => ?_)
  have tk := tk_def (P := P) (w := w) (K := K) (mg := mg) (base := base) (N := N_order_behind) (qual := "order_behind") (sc := defScope s_order_behind) (f := a) (cd := cdv) (A := A) (outer := outer) (s := s) (H := H) (E := E)
  have po := po_def (P := P) (w := w) (K := K) (mg := mg) (base := base) (N := N_order_behind) (qual := "order_behind") (sc := defScope s_order_behind) (f := a) (cd := cdv) (A := A) (outer := outer) (s := s) (H := H) (E := E)
  refine ⟨_, (pss_cons (ps_expr (pe_callS G_need_order (hr.mono (by decide)) (by rfl) n_need_order k_need_order b_need_order (passAt tk) (pa_cons (pv 0) pa_nil)))
  (pss_cons (ps_expr (pe_callS G_need_order (hr.mono (by decide)) (by rfl) n_need_order k_need_order b_need_order (passAt tk) (pa_cons (pv 1) pa_nil)))
  (pss_cons (ps_if (pt_cmpR (op_neK K (hu64 hr)) (pe_callB (call_lenK K) (by rfl) T.n_len bt_len (pa_cons (pv 0) pa_nil)) (pe_callB (call_lenK K) (by rfl) T.n_len bt_len (pa_cons (pv 1) pa_nil)) (nomark _)) (pss_one ps_never) pss_nil)
  (pss_one (ps_ret (pe_lc (own := [("thing", 2)]) rfl S.nd (pi_listK K (pv 1)) (blkOk_by (own := [("thing", 2)]) (N := N_order_behind) (sc := defScope s_order_behind) (by decide +kernel)) (fun _ _ _ _ _ => (by exact (pg_name (i := 2) S.nd rfl (by first | exact Or.inl rfl | exact Or.inr rfl)))) (fun _ _ _ _ _ => (by exact pts_nil)) (fun _ _ _ _ _ => (by exact (pe_ix (ix_seqK K) (pv 0) (pv 2) (fun _ _ => rfl)))))))))), ?_⟩
  exact (s_seq (s_expr (e_fn (a_cons (e_var 0) a_nil)))
  (s_seq (s_expr (e_fn (a_cons (e_var 1) a_nil)))
  (s_seq (s_if (t_test (e_op (out_op o_ne) (e_call (out_op o_len) (a_cons (e_var 0) a_nil)) (e_call (out_op o_len) (a_cons (e_var 1) a_nil)))) s_never s_next)
  (s_ret (e_comp (i_list (e_var 1)) (g_name rfl) t_yes (e_op (out_op o_ix) (e_var 0) (e_var 2)))))))
theorem cal_order_behind (T : Tx K mg) (F : FunAt K mg "order_behind" s_order_behind) (c_need_order : Cal P w K mg base cl "need_order" 4 P_need_order m_need_order) :
    Cal P w K mg base cl "order_behind" 5 P_order_behind m_order_behind := by
  obtain ⟨a, fd, Fu, mgf⟩ := F
  exact ⟨a, fd, ok_order_behind T Fu c_need_order, mgf, Fu.kp, Fu.binds fun _ _ _ _ _ _ us hl => match us, hl with | [_, _], _ => rfl⟩
/-! turned_back -/
abbrev s_turned_back : Stmt := topS 10
abbrev N_turned_back : List Str := ["order", "found", "place", "thing"]
abbrev P_turned_back : List Str := ["order"]
theorem sc_turned_back : FnScope N_turned_back P_turned_back (defScope s_turned_back) := ⟨rfl, rfl, rfl, by decide +kernel, rfl, by decide +kernel, by decide +kernel⟩
theorem ok_turned_back (T : Tx K mg) {a : Addr} {fd : FuncData} (Fu : Fun K "turned_back" "turned_back" s_turned_back a fd)  :
    FnOk P w K mg base (L2.CX P w) 2 a fd P_turned_back (spD K cl P_turned_back.length m_turned_back) := by
  have S := sc_turned_back
  refine fn_okD (k := 1) Fu S (kpC [1, 2, 3]) g_turned_back (fun cdv A outer s H E hr => ?_)
  have tk := tk_def (P := P) (w := w) (K := K) (mg := mg) (base := base) (N := N_turned_back) (qual := "turned_back") (sc := defScope s_turned_back) (f := a) (cd := cdv) (A := A) (outer := outer) (s := s) (H := H) (E := E)
  have po := po_def (P := P) (w := w) (K := K) (mg := mg) (base := base) (N := N_turned_back) (qual := "turned_back") (sc := defScope s_turned_back) (f := a) (cd := cdv) (A := A) (outer := outer) (s := s) (H := H) (E := E)
  refine ⟨_, (pss_cons (ps_set (i := 1) S.nd rfl (by first | exact Or.inl rfl | exact Or.inr rfl) (pe_op op_times (pe_lst (pa_cons pe_int pa_nil)) (pe_callB (call_lenK K) (by rfl) T.n_len bt_len (pa_cons (pv 0) pa_nil))))
  (pss_cons (ps_for po rfl (pi_enumK K (by rfl) T.n_enumerate (pa_cons (pv 0) pa_nil)) (pg_tup rfl (pgs_cons (pg_name (i := 2) S.nd rfl (by first | exact Or.inl rfl | exact Or.inr rfl)) (pgs_cons (pg_name (i := 3) S.nd rfl (by first | exact Or.inl rfl | exact Or.inr rfl)) pgs_nil)))
  (pss_one (ps_asg (pv 2) (pg_sub (pv 1) (pv 3) set_list))))
  (pss_one (ps_ret (pv 1))))), ?_⟩
  exact (s_seq (s_set rfl (e_op (out_op o_mul) (e_lst (a_cons (e_int 0) a_nil)) (e_call (out_op o_len) (a_cons (e_var 0) a_nil))))
  (s_seq (s_for (kpb := kpC [2, 3]) (kpC_sub rfl) (i_enum (e_var 0)) (g_tup (g_cons (g_name rfl) (g_cons (g_name rfl) g_nil)))
  (s_asg (g_subL (cl := cl) (W := WF) (e_var 1) (e_var 3)) (e_var 2)))
  (s_ret (e_var 1))))
theorem cal_turned_back (T : Tx K mg) (F : FunAt K mg "turned_back" s_turned_back)  :
    Cal P w K mg base cl "turned_back" 2 P_turned_back m_turned_back := by
  obtain ⟨a, fd, Fu, mgf⟩ := F
  exact ⟨a, fd, ok_turned_back T Fu , mgf, Fu.kp, Fu.binds fun _ _ _ _ _ _ us hl => match us, hl with | [_], _ => rfl⟩
/-! back_of -/
abbrev s_back_of : Stmt := topS 11
abbrev N_back_of : List Str := ["order"]
abbrev P_back_of : List Str := ["order"]
theorem sc_back_of : FnScope N_back_of P_back_of (defScope s_back_of) := ⟨rfl, rfl, rfl, by decide +kernel, rfl, by decide +kernel, by decide +kernel⟩
theorem ok_back_of (T : Tx K mg) {a : Addr} {fd : FuncData} (Fu : Fun K "back_of" "back_of" s_back_of a fd) (c_need_order : Cal P w K mg base cl "need_order" 4 P_need_order m_need_order) (c_turned_back : Cal P w K mg base cl "turned_back" 2 P_turned_back m_turned_back) :
    FnOk P w K mg base (L2.CX P w) 5 a fd P_back_of (spD K cl P_back_of.length m_back_of) := by
  obtain ⟨a_need_order, fd_need_order, G_need_order, n_need_order, k_need_order, b_need_order⟩ := c_need_order
  obtain ⟨a_turned_back, fd_turned_back, G_turned_back, n_turned_back, k_turned_back, b_turned_back⟩ := c_turned_back
  have S := sc_back_of
  refine fn_okD (k := 4) Fu S (kpC []) g_back_of (fun cdv A outer s H E hr => ?_)
  have tk := tk_def (P := P) (w := w) (K := K) (mg := mg) (base := base) (N := N_back_of) (qual := "back_of") (sc := defScope s_back_of) (f := a) (cd := cdv) (A := A) (outer := outer) (s := s) (H := H) (E := E)
  have po := po_def (P := P) (w := w) (K := K) (mg := mg) (base := base) (N := N_back_of) (qual := "back_of") (sc := defScope s_back_of) (f := a) (cd := cdv) (A := A) (outer := outer) (s := s) (H := H) (E := E)
  refine ⟨_, (pss_cons (ps_expr (pe_callS G_need_order (hr.mono (by decide)) (by rfl) n_need_order k_need_order b_need_order (passAt tk) (pa_cons (pv 0) pa_nil)))
  (pss_one (ps_ret (pe_callS G_turned_back (hr.mono (by decide)) (by rfl) n_turned_back k_turned_back b_turned_back (passAt tk) (pa_cons (pv 0) pa_nil))))), ?_⟩
  exact (s_seq (s_expr (e_fn (a_cons (e_var 0) a_nil)))
  (s_ret (e_fn (a_cons (e_var 0) a_nil))))
theorem cal_back_of (T : Tx K mg) (F : FunAt K mg "back_of" s_back_of) (c_need_order : Cal P w K mg base cl "need_order" 4 P_need_order m_need_order) (c_turned_back : Cal P w K mg base cl "turned_back" 2 P_turned_back m_turned_back) :
    Cal P w K mg base cl "back_of" 5 P_back_of m_back_of := by
  obtain ⟨a, fd, Fu, mgf⟩ := F
  exact ⟨a, fd, ok_back_of T Fu c_need_order c_turned_back, mgf, Fu.kp, Fu.binds fun _ _ _ _ _ _ us hl => match us, hl with | [_], _ => rfl⟩
/-! is_number -/
abbrev s_is_number : Stmt := topS 19
abbrev N_is_number : List Str := ["word", "sign"]
abbrev P_is_number : List Str := ["word"]
theorem sc_is_number : FnScope N_is_number P_is_number (defScope s_is_number) := ⟨rfl, rfl, rfl, by decide +kernel, rfl, by decide +kernel, by decide +kernel⟩
theorem ok_is_number (T : Tx K mg) {a : Addr} {fd : FuncData} (Fu : Fun K "is_number" "is_number" s_is_number a fd)  :
    FnOk P w K mg base (L2.CX P w) 2 a fd P_is_number (spD K cl P_is_number.length m_is_number) := by
  obtain ⟨t_FIGURES, h_FIGURES⟩ := T.c_FIGURES
  have S := sc_is_number
  refine fn_okD (k := 1) Fu S (kpC []) g_is_number (fun cdv A outer s H E hr => ?_)
  have tk := tk_def (P := P) (w := w) (K := K) (mg := mg) (base := base) (N := N_is_number) (qual := "is_number") (sc := defScope s_is_number) (f := a) (cd := cdv) (A := A) (outer := outer) (s := s) (H := H) (E := E)
  have po := po_def (P := P) (w := w) (K := K) (mg := mg) (base := base) (N := N_is_number) (qual := "is_number") (sc := defScope s_is_number) (f := a) (cd := cdv) (A := A) (outer := outer) (s := s) (H := H) (E := E)
  refine ⟨_, (pss_cons (ps_if (PW.pt (pw_or (pt_not (pt_chain op_le op_le pe_int (pe_callB (call_lenK K) (by rfl) T.n_len bt_len (pa_cons (pv 0) pa_nil)) pe_int)) (pw_or1 (pt_cmpR (op_neK K (hu64 hr)) (pe_lc (own := [("sign", 1)]) rfl S.nd (pi_str (pv 0)) (blkOk_by (own := [("sign", 1)]) (N := N_is_number) (sc := defScope s_is_number) (by decide +kernel)) (fun _ _ _ _ _ => (by exact (pg_name (i := 1) S.nd rfl (by first | exact Or.inl rfl | exact Or.inr rfl)))) (fun _ _ _ _ _ => (by exact (pts_one (pt_cmpR (op_notInK K (hu65 hr)) (pv 1) (pe_glob (v := .str "0123456789") rfl h_FIGURES ⟨_, rfl⟩) rfl)))) (fun _ _ _ _ _ => (by exact (pv 1)))) (pe_lst pa_nil) (nomark _))))) (pss_one (ps_ret pe_bl)) pss_nil)
  (pss_one (ps_ret (pe_or (pe_cmpR (op_eqK K (hu64 hr)) (pe_callB (call_lenK K) (by rfl) T.n_len bt_len (pa_cons (pv 0) pa_nil)) pe_int (nomark _)) (pe_one (pe_cmpR (op_neK K (hu64 hr)) (pe_ix (ix_seqK K) (pv 0) pe_int (fun _ _ => rfl)) pe_str (nomark _))))))), ?_⟩
  exact (s_seq (s_if (t_or (t_not (t_test (e_chain (out_op o_le) (out_op o_le) (e_int 1) (e_call (out_op o_len) (a_cons (e_var 0) a_nil)) (e_int 2)))) (t_test (e_op (out_op o_ne) (e_comp (i_str (e_var 0)) (g_name rfl) (t_test (e_op (out_op o_notIn) (e_var 1) (e_str "0123456789"))) (e_var 1)) (e_lst a_nil)))) (s_ret (e_bl false)) s_next)
  (s_ret (e_orV (e_op (out_op o_eq) (e_call (out_op o_len) (a_cons (e_var 0) a_nil)) (e_int 1)) (e_op (out_op o_ne) (e_op (out_op o_ix) (e_var 0) (e_int 0)) (e_str "0")))))
theorem cal_is_number (T : Tx K mg) (F : FunAt K mg "is_number" s_is_number)  :
    Cal P w K mg base cl "is_number" 2 P_is_number m_is_number := by
  obtain ⟨a, fd, Fu, mgf⟩ := F
  exact ⟨a, fd, ok_is_number T Fu , mgf, Fu.kp, Fu.binds fun _ _ _ _ _ _ us hl => match us, hl with | [_], _ => rfl⟩
/-! read_order -/
abbrev s_read_order : Stmt := topS 20
abbrev N_read_order : List Str := ["text", "words", "order", "word"]
abbrev P_read_order : List Str := ["text"]
theorem sc_read_order : FnScope N_read_order P_read_order (defScope s_read_order) := ⟨rfl, rfl, rfl, by decide +kernel, rfl, by decide +kernel, by decide +kernel⟩
theorem ok_read_order (T : Tx K mg) {a : Addr} {fd : FuncData} (Fu : Fun K "read_order" "read_order" s_read_order a fd) (c_is_number : Cal P w K mg base cl "is_number" 2 P_is_number m_is_number) (c_is_order : Cal P w K mg base cl "is_order" 3 P_is_order m_is_order) :
    FnOk P w K mg base (L2.CX P w) 4 a fd P_read_order (spD K cl P_read_order.length m_read_order) := by
  obtain ⟨a_is_number, fd_is_number, G_is_number, n_is_number, k_is_number, b_is_number⟩ := c_is_number
  obtain ⟨a_is_order, fd_is_order, G_is_order, n_is_order, k_is_order, b_is_order⟩ := c_is_order
  have S := sc_read_order
  refine fn_okD (k := 3) Fu S (kpC [1, 2]) g_read_order (fun cdv A outer s H E hr => ?_)
  have tk := tk_def (P := P) (w := w) (K := K) (mg := mg) (base := base) (N := N_read_order) (qual := "read_order") (sc := defScope s_read_order) (f := a) (cd := cdv) (A := A) (outer := outer) (s := s) (H := H) (E := E)
  have po := po_def (P := P) (w := w) (K := K) (mg := mg) (base := base) (N := N_read_order) (qual := "read_order") (sc := defScope s_read_order) (f := a) (cd := cdv) (A := A) (outer := outer) (s := s) (H := H) (E := E)
  refine ⟨_, (pss_cons (ps_if (pt_not (pt_val (pe_callB (call_isi2 K) (by rfl) T.n_isinstance bt_isinstance (pa_cons (pv 0) (pa_cons (pe_bltn (v := .ty "str") (by rfl) T.n_str bt_str rfl) pa_nil))))) (pss_one ps_never) pss_nil)
  (pss_cons (ps_set (i := 1) S.nd rfl (by first | exact Or.inl rfl | exact Or.inr rfl) (pe_bmK K PySem.F.plainAttrs_str PySem.F.slot_str_split PySem.F.type_str_split mt_split (pv 0) (pa_cons pe_str pa_nil)))
  (pss_cons (ps_if (pt_cmpR (op_neK K (hu64 hr)) (pe_lc (own := [("word", 3)]) rfl S.nd (pi_listK K (pv 1)) (blkOk_by (own := [("word", 3)]) (N := N_read_order) (sc := defScope s_read_order) (by decide +kernel)) (fun _ _ _ _ _ => (by exact (pg_name (i := 3) S.nd rfl (by first | exact Or.inl rfl | exact Or.inr rfl)))) (fun _ _ _ _ _ => (by exact (pts_one (pt_not (pt_val (pe_callS G_is_number (hr.mono (by decide)) (by rfl) n_is_number k_is_number b_is_number hx_blk (pa_cons (pv 3) pa_nil))))))) (fun _ _ _ _ _ => (by exact (pv 3)))) (pe_lst pa_nil) (nomark _)) (pss_one ps_never) pss_nil)
  (pss_cons (ps_setLc (i := 2) (own := [("word", 3)]) rfl S.nd rfl rfl (sw_true rfl rfl rfl (by decide +kernel)) (pi_listK K (pv 1)) (blkOk_by (own := [("word", 3)]) (N := N_read_order) (sc := defScope s_read_order) (by decide +kernel)) (fun _ _ _ _ _ => (by exact (pg_name (i := 3) S.nd rfl (by first | exact Or.inl rfl | exact Or.inr rfl)))) (fun _ _ _ _ _ => (by exact pts_nil)) (fun _ _ _ _ _ => (by exact (pe_callTy call_intA (by rfl) T.n_int bt_int (pa_cons (pv 3) pa_nil)))))
  (pss_cons (ps_if (pt_not (pt_val (pe_callS G_is_order (hr.mono (by decide)) (by rfl) n_is_order k_is_order b_is_order (passAt tk) (pa_cons (pv 2) pa_nil)))) (pss_one ps_never) pss_nil)
  (pss_one (ps_ret (pv 2)))))))), ?_⟩
  exact (s_seq (s_if (t_not (t_val (e_isa .str (e_var 0)))) s_never s_next)
  (s_seq (s_set rfl (e_meth .str (out_op o_split) (e_var 0) (a_cons (e_str " ") a_nil)))
  (s_seq (s_if (t_test (e_op (out_op o_ne) (e_comp (i_list (e_var 1)) (g_name rfl) (t_not (t_val (e_fn (a_cons (e_var 3) a_nil)))) (e_var 3)) (e_lst a_nil))) s_never s_next)
  (s_seq (s_set rfl (e_comp (i_list (e_var 1)) (g_name rfl) t_yes (e_call (out_op o_int) (a_cons (e_var 3) a_nil))))
  (s_seq (s_if (t_not (t_val (e_fn (a_cons (e_var 2) a_nil)))) s_never s_next)
  (s_ret (e_var 2)))))))
theorem cal_read_order (T : Tx K mg) (F : FunAt K mg "read_order" s_read_order) (c_is_number : Cal P w K mg base cl "is_number" 2 P_is_number m_is_number) (c_is_order : Cal P w K mg base cl "is_order" 3 P_is_order m_is_order) :
    Cal P w K mg base cl "read_order" 4 P_read_order m_read_order := by
  obtain ⟨a, fd, Fu, mgf⟩ := F
  exact ⟨a, fd, ok_read_order T Fu c_is_number c_is_order, mgf, Fu.kp, Fu.binds fun _ _ _ _ _ _ us hl => match us, hl with | [_], _ => rfl⟩
/-! is_orders -/
abbrev s_is_orders : Stmt := topS 15
abbrev N_is_orders : List Str := ["thing", "order"]
abbrev P_is_orders : List Str := ["thing"]
theorem sc_is_orders : FnScope N_is_orders P_is_orders (defScope s_is_orders) := ⟨rfl, rfl, rfl, by decide +kernel, rfl, by decide +kernel, by decide +kernel⟩
theorem ok_is_orders (T : Tx K mg) {a : Addr} {fd : FuncData} (Fu : Fun K "is_orders" "is_orders" s_is_orders a fd) (c_is_order : Cal P w K mg base cl "is_order" 3 P_is_order m_is_order) :
    FnOk P w K mg base (L2.CX P w) 4 a fd P_is_orders (spD K cl P_is_orders.length m_is_orders) := by
  obtain ⟨a_is_order, fd_is_order, G_is_order, n_is_order, k_is_order, b_is_order⟩ := c_is_order
  have S := sc_is_orders
  refine fn_okD (k := 3) Fu S (kpC []) g_is_orders (fun cdv A outer s H E hr => ?_)
  have tk := tk_def (P := P) (w := w) (K := K) (mg := mg) (base := base) (N := N_is_orders) (qual := "is_orders") (sc := defScope s_is_orders) (f := a) (cd := cdv) (A := A) (outer := outer) (s := s) (H := H) (E := E)
  have po := po_def (P := P) (w := w) (K := K) (mg := mg) (base := base) (N := N_is_orders) (qual := "is_orders") (sc := defScope s_is_orders) (f := a) (cd := cdv) (A := A) (outer := outer) (s := s) (H := H) (E := E)
  refine ⟨_, (pss_cons (ps_if (PW.pt (pw_or (pt_not (pt_val (pe_callB (call_isi2 K) (by rfl) T.n_isinstance bt_isinstance (pa_cons (pv 0) (pa_cons (pe_bltn (v := .ty "list") (by rfl) T.n_list bt_list rfl) pa_nil))))) (pw_or1 (pt_cmpR (op_neK K (hu64 hr)) (pe_lc (own := [("order", 1)]) rfl S.nd (pi_listK K (pv 0)) (blkOk_by (own := [("order", 1)]) (N := N_is_orders) (sc := defScope s_is_orders) (by decide +kernel)) (fun _ _ _ _ _ => (by exact (pg_name (i := 1) S.nd rfl (by first | exact Or.inl rfl | exact Or.inr rfl)))) (fun _ _ _ _ _ => (by exact (pts_one (pt_not (pt_val (pe_callS G_is_order (hr.mono (by decide)) (by rfl) n_is_order k_is_order b_is_order hx_blk (pa_cons (pv 1) pa_nil))))))) (fun _ _ _ _ _ => (by exact (pv 1)))) (pe_lst pa_nil) (nomark _))))) (pss_one (ps_ret pe_bl)) pss_nil)
  (pss_one (ps_ret (pe_cmpR (op_eqK K (hu64 hr)) (pe_lc (own := [("order", 1)]) rfl S.nd (pi_listK K (pv 0)) (blkOk_by (own := [("order", 1)]) (N := N_is_orders) (sc := defScope s_is_orders) (by decide +kernel)) (fun _ _ _ _ _ => (by exact (pg_name (i := 1) S.nd rfl (by first | exact Or.inl rfl | exact Or.inr rfl)))) (fun _ _ _ _ _ => (by exact (pts_one (pt_cmpR (op_neK K (hu64 hr)) (pe_callB (call_lenK K) (by rfl) T.n_len bt_len (pa_cons (pv 1) pa_nil)) (pe_callB (call_lenK K) (by rfl) T.n_len bt_len (pa_cons (pe_ix (ix_seqK K) (pv 0) pe_int (fun _ _ => rfl)) pa_nil)) (nomark _))))) (fun _ _ _ _ _ => (by exact (pv 1)))) (pe_lst pa_nil) (nomark _))))), ?_⟩
  exact (s_seq (s_if (t_or (t_not (t_val (e_isa .list (e_var 0)))) (t_test (e_op (out_op o_ne) (e_comp (i_list (e_var 0)) (g_name rfl) (t_not (t_val (e_fn (a_cons (e_var 1) a_nil)))) (e_var 1)) (e_lst a_nil)))) (s_ret (e_bl false)) s_next)
  (s_ret (e_op (out_op o_eq) (e_comp (i_list (e_var 0)) (g_name rfl) (t_test (e_op (out_op o_ne) (e_call (out_op o_len) (a_cons (e_var 1) a_nil)) (e_call (out_op o_len) (a_cons (e_op (out_op o_ix) (e_var 0) (e_int 0)) a_nil)))) (e_var 1)) (e_lst a_nil))))
theorem cal_is_orders (T : Tx K mg) (F : FunAt K mg "is_orders" s_is_orders) (c_is_order : Cal P w K mg base cl "is_order" 3 P_is_order m_is_order) :
    Cal P w K mg base cl "is_orders" 4 P_is_orders m_is_orders := by
  obtain ⟨a, fd, Fu, mgf⟩ := F
  exact ⟨a, fd, ok_is_orders T Fu c_is_order, mgf, Fu.kp, Fu.binds fun _ _ _ _ _ _ us hl => match us, hl with | [_], _ => rfl⟩
/-! show_orders -/
abbrev s_show_orders : Stmt := topS 18
abbrev N_show_orders : List Str := ["orders", "order"]
abbrev P_show_orders : List Str := ["orders"]
theorem sc_show_orders : FnScope N_show_orders P_show_orders (defScope s_show_orders) := ⟨rfl, rfl, rfl, by decide +kernel, rfl, by decide +kernel, by decide +kernel⟩
theorem ok_show_orders (T : Tx K mg) {a : Addr} {fd : FuncData} (Fu : Fun K "show_orders" "show_orders" s_show_orders a fd) (c_is_orders : Cal P w K mg base cl "is_orders" 4 P_is_orders m_is_orders) (c_words_of : Cal P w K mg base cl "words_of" 2 P_words_of m_words_of) :
    FnOk P w K mg base (L2.CX P w) 5 a fd P_show_orders (spD K cl P_show_orders.length m_show_orders) := by
  obtain ⟨a_is_orders, fd_is_orders, G_is_orders, n_is_orders, k_is_orders, b_is_orders⟩ := c_is_orders
  obtain ⟨a_words_of, fd_words_of, G_words_of, n_words_of, k_words_of, b_words_of⟩ := c_words_of
  have S := sc_show_orders
  refine fn_okD (k := 4) Fu S (kpC []) g_show_orders (fun cdv A outer s H E hr => ?_)
  have tk := tk_def (P := P) (w := w) (K := K) (mg := mg) (base := base) (N := N_show_orders) (qual := "show_orders") (sc := defScope s_show_orders) (f := a) (cd := cdv) (A := A) (outer := outer) (s := s) (H := H) (E := E)
  have po := po_def (P := P) (w := w) (K := K) (mg := mg) (base := base) (N := N_show_orders) (qual := "show_orders") (sc := defScope s_show_orders) (f := a) (cd := cdv) (A := A) (outer := outer) (s := s) (H := H) (E := E)
  refine ⟨_, (pss_cons (ps_if (pt_not (pt_val (pe_callS G_is_orders (hr.mono (by decide)) (by rfl) n_is_orders k_is_orders b_is_orders (passAt tk) (pa_cons (pv 0) pa_nil)))) (pss_one ps_never) pss_nil)
  (pss_cons (ps_if (pt_cmpR (op_eqK K (hu64 hr)) (pv 0) (pe_lst pa_nil) (nomark _)) (pss_one (ps_ret pe_str)) pss_nil)
  (pss_one (ps_ret (pe_bmK K PySem.F.plainAttrs_str PySem.F.slot_str_join PySem.F.type_str_join (mt_joinK K) pe_str (pa_cons (pe_lc (own := [("order", 1)]) rfl S.nd (pi_listK K (pv 0)) (blkOk_by (own := [("order", 1)]) (N := N_show_orders) (sc := defScope s_show_orders) (by decide +kernel)) (fun _ _ _ _ _ => (by exact (pg_name (i := 1) S.nd rfl (by first | exact Or.inl rfl | exact Or.inr rfl)))) (fun _ _ _ _ _ => (by exact pts_nil)) (fun _ _ _ _ _ => (by exact (pe_callS G_words_of (hr.mono (by decide)) (by rfl) n_words_of k_words_of b_words_of hx_blk (pa_cons (pv 1) pa_nil))))) pa_nil)))))), ?_⟩
  exact (s_seq (s_if (t_not (t_val (e_fn (a_cons (e_var 0) a_nil)))) s_never s_next)
  (s_seq (s_if (t_test (e_op (out_op o_eq) (e_var 0) (e_lst a_nil))) (s_ret (e_str "-")) s_next)
  (s_ret (e_meth .str (out_op o_join) (e_str ", ") (a_cons (e_comp (i_list (e_var 0)) (g_name rfl) t_yes (e_fn (a_cons (e_var 1) a_nil))) a_nil)))))
theorem cal_show_orders (T : Tx K mg) (F : FunAt K mg "show_orders" s_show_orders) (c_is_orders : Cal P w K mg base cl "is_orders" 4 P_is_orders m_is_orders) (c_words_of : Cal P w K mg base cl "words_of" 2 P_words_of m_words_of) :
    Cal P w K mg base cl "show_orders" 5 P_show_orders m_show_orders := by
  obtain ⟨a, fd, Fu, mgf⟩ := F
  exact ⟨a, fd, ok_show_orders T Fu c_is_orders c_words_of, mgf, Fu.kp, Fu.binds fun _ _ _ _ _ _ us hl => match us, hl with | [_], _ => rfl⟩
/-! _law_otherwise -/
abbrev s_Lotherwise : Stmt := topS 27
abbrev N_Lotherwise : List Str := ["pool", "orders", "at", "way", "order"]
abbrev P_Lotherwise : List Str := ["pool", "orders"]
theorem sc_Lotherwise : FnScope N_Lotherwise P_Lotherwise (defScope s_Lotherwise) := ⟨rfl, rfl, rfl, by decide +kernel, rfl, by decide +kernel, by decide +kernel⟩
theorem ok_Lotherwise (T : Tx K mg) {a : Addr} {fd : FuncData} (Fu : Fun K "_law_otherwise" "_law_otherwise" s_Lotherwise a fd) (c_Ldraw : Cal P w K mg base cl "_law_draw" 2 P_Ldraw m_Ldraw) (c_Lnear2 : Cal P w K mg base cl "_law_near" 3 P_Lnear2 m_Lnear2) :
    FnOk P w K mg base (L2.CX P w) 4 a fd P_Lotherwise (spD K cl P_Lotherwise.length m_Lotherwise) := by
  obtain ⟨a_Ldraw, fd_Ldraw, G_Ldraw, n_Ldraw, k_Ldraw, b_Ldraw⟩ := c_Ldraw
  obtain ⟨a_Lnear2, fd_Lnear2, G_Lnear2, n_Lnear2, k_Lnear2, b_Lnear2⟩ := c_Lnear2
  have S := sc_Lotherwise
  refine fn_okD (k := 3) Fu S (kpC [2, 3]) g_Lotherwise (fun cdv A outer s H E hr => ?_)
  have tk := tk_def (P := P) (w := w) (K := K) (mg := mg) (base := base) (N := N_Lotherwise) (qual := "_law_otherwise") (sc := defScope s_Lotherwise) (f := a) (cd := cdv) (A := A) (outer := outer) (s := s) (H := H) (E := E)
  have po := po_def (P := P) (w := w) (K := K) (mg := mg) (base := base) (N := N_Lotherwise) (qual := "_law_otherwise") (sc := defScope s_Lotherwise) (f := a) (cd := cdv) (A := A) (outer := outer) (s := s) (H := H) (E := E)
  refine ⟨_, (pss_cons (ps_set (i := 2) S.nd rfl (by first | exact Or.inl rfl | exact Or.inr rfl) (pe_callS G_Ldraw (hr.mono (by decide)) (by rfl) n_Ldraw k_Ldraw b_Ldraw (passAt tk) (pa_cons (pv 0) (pa_cons (pe_callB (call_lenK K) (by rfl) T.n_len bt_len (pa_cons (pv 1) pa_nil)) pa_nil))))
  (pss_cons (ps_set (i := 3) S.nd rfl (by first | exact Or.inl rfl | exact Or.inr rfl) (pe_callS G_Ldraw (hr.mono (by decide)) (by rfl) n_Ldraw k_Ldraw b_Ldraw (passAt tk) (pa_cons (pv 0) (pa_cons pe_int pa_nil))))
  (pss_cons (ps_if (pt_cmpR (op_eqK K (hu64 hr)) (pv 3) pe_int (nomark _)) (pss_one (ps_ret (pe_op op_plus (pe_op op_plus (pe_slice (sl_anyK K) (pv 1) po_none (po_some (pv 2))) (pe_slice (sl_anyK K) (pv 1) (po_some (pv 2)) (po_some (pe_op op_plus (pv 2) pe_int)))) (pe_slice (sl_anyK K) (pv 1) (po_some (pv 2)) po_none)))) pss_nil)
  (pss_cons (ps_if (pt_cmpR (op_eqK K (hu64 hr)) (pv 3) pe_int (nomark _)) (pss_one (ps_ret (pe_op op_plus (pe_slice (sl_anyK K) (pv 1) po_none (po_some (pv 2))) (pe_slice (sl_anyK K) (pv 1) (po_some (pe_op op_plus (pv 2) pe_int)) po_none)))) pss_nil)
  (pss_cons (ps_if (pt_cmpR (op_eqK K (hu64 hr)) (pv 3) pe_int (nomark _)) (pss_one (ps_ret (pe_revLK K (pv 1)))) pss_nil)
  (pss_cons (ps_if (pt_cmpR (op_eqK K (hu64 hr)) (pv 3) pe_int (nomark _)) (pss_one (ps_ret (pe_lc (own := [("order", 4)]) rfl S.nd (pi_listK K (pv 1)) (blkOk_by (own := [("order", 4)]) (N := N_Lotherwise) (sc := defScope s_Lotherwise) (by decide +kernel)) (fun _ _ _ _ _ => (by exact (pg_name (i := 4) S.nd rfl (by first | exact Or.inl rfl | exact Or.inr rfl)))) (fun _ _ _ _ _ => (by exact pts_nil)) (fun _ _ _ _ _ => (by exact (pe_callTy (call_list_ofK K) (by rfl) T.n_list bt_list (pa_cons (pv 4) pa_nil))))))) pss_nil)
  (pss_cons (ps_if (pt_cmpR (op_eqK K (hu64 hr)) (pv 3) pe_int (nomark _)) (pss_one (ps_ret (pe_op op_plus (pe_op op_plus (pe_slice (sl_anyK K) (pv 1) po_none (po_some (pv 2))) (pe_lst (pa_cons (pe_callS G_Lnear2 (hr.mono (by decide)) (by rfl) n_Lnear2 k_Lnear2 b_Lnear2 (passAt tk) (pa_cons (pv 0) (pa_cons (pe_ix (ix_seqK K) (pv 1) (pv 2) (fun _ _ => rfl)) pa_nil))) pa_nil))) (pe_slice (sl_anyK K) (pv 1) (po_some (pe_op op_plus (pv 2) pe_int)) po_none)))) pss_nil)
  (pss_one (ps_ret (pe_callB (cr_sortedK K (hu64 hr)) (by rfl) T.n_sorted bt_sorted (pa_cons (pv 1) pa_nil))))))))))), ?_⟩
  exact (s_seq (s_set rfl (e_fn (a_cons (e_var 0) (a_cons (e_call (out_op o_len) (a_cons (e_var 1) a_nil)) a_nil))))
  (s_seq (s_set rfl (e_fn (a_cons (e_var 0) (a_cons (e_int 6) a_nil))))
  (s_seq (s_if (t_test (e_op (out_op o_eq) (e_var 3) (e_int 0))) (s_ret (e_op (out_op o_add) (e_op (out_op o_add) (e_slice (e_var 1) so_none (so_some (e_var 2))) (e_slice (e_var 1) (so_some (e_var 2)) (so_some (e_op (out_op o_add) (e_var 2) (e_int 1))))) (e_slice (e_var 1) (so_some (e_var 2)) so_none))) s_next)
  (s_seq (s_if (t_test (e_op (out_op o_eq) (e_var 3) (e_int 1))) (s_ret (e_op (out_op o_add) (e_slice (e_var 1) so_none (so_some (e_var 2))) (e_slice (e_var 1) (so_some (e_op (out_op o_add) (e_var 2) (e_int 1))) so_none))) s_next)
  (s_seq (s_if (t_test (e_op (out_op o_eq) (e_var 3) (e_int 2))) (s_ret (e_rev (e_var 1))) s_next)
  (s_seq (s_if (t_test (e_op (out_op o_eq) (e_var 3) (e_int 3))) (s_ret (e_comp (i_list (e_var 1)) (g_name rfl) t_yes (e_call (out_op o_list) (a_cons (e_var 4) a_nil)))) s_next)
  (s_seq (s_if (t_test (e_op (out_op o_eq) (e_var 3) (e_int 4))) (s_ret (e_op (out_op o_add) (e_op (out_op o_add) (e_slice (e_var 1) so_none (so_some (e_var 2))) (e_lst (a_cons (e_fn (a_cons (e_var 0) (a_cons (e_op (out_op o_ix) (e_var 1) (e_var 2)) a_nil))) a_nil))) (e_slice (e_var 1) (so_some (e_op (out_op o_add) (e_var 2) (e_int 1))) so_none))) s_next)
  (s_ret (e_call (out_op o_sorted) (a_cons (e_var 1) a_nil))))))))))
theorem cal_Lotherwise (T : Tx K mg) (F : FunAt K mg "_law_otherwise" s_Lotherwise) (c_Ldraw : Cal P w K mg base cl "_law_draw" 2 P_Ldraw m_Ldraw) (c_Lnear2 : Cal P w K mg base cl "_law_near" 3 P_Lnear2 m_Lnear2) :
    Cal P w K mg base cl "_law_otherwise" 4 P_Lotherwise m_Lotherwise := by
  obtain ⟨a, fd, Fu, mgf⟩ := F
  exact ⟨a, fd, ok_Lotherwise T Fu c_Ldraw c_Lnear2, mgf, Fu.kp, Fu.binds fun _ _ _ _ _ _ us hl => match us, hl with | [_, _], _ => rfl⟩
/-! read_orders -/
abbrev s_read_orders : Stmt := topS 21
abbrev N_read_orders : List Str := ["text", "orders", "part"]
abbrev P_read_orders : List Str := ["text"]
theorem sc_read_orders : FnScope N_read_orders P_read_orders (defScope s_read_orders) := ⟨rfl, rfl, rfl, by decide +kernel, rfl, by decide +kernel, by decide +kernel⟩
theorem ok_read_orders (T : Tx K mg) {a : Addr} {fd : FuncData} (Fu : Fun K "read_orders" "read_orders" s_read_orders a fd) (c_read_order : Cal P w K mg base cl "read_order" 4 P_read_order m_read_order) (c_is_orders : Cal P w K mg base cl "is_orders" 4 P_is_orders m_is_orders) :
    FnOk P w K mg base (L2.CX P w) 5 a fd P_read_orders (spD K cl P_read_orders.length m_read_orders) := by
  obtain ⟨a_read_order, fd_read_order, G_read_order, n_read_order, k_read_order, b_read_order⟩ := c_read_order
  obtain ⟨a_is_orders, fd_is_orders, G_is_orders, n_is_orders, k_is_orders, b_is_orders⟩ := c_is_orders
  have S := sc_read_orders
  refine fn_okD (k := 4) Fu S (kpC [1]) g_read_orders (fun cdv A outer s H E hr => ?_)
  have tk := tk_def (P := P) (w := w) (K := K) (mg := mg) (base := base) (N := N_read_orders) (qual := "read_orders") (sc := defScope s_read_orders) (f := a) (cd := cdv) (A := A) (outer := outer) (s := s) (H := H) (E := E)
  have po := po_def (P := P) (w := w) (K := K) (mg := mg) (base := base) (N := N_read_orders) (qual := "read_orders") (sc := defScope s_read_orders) (f := a) (cd := cdv) (A := A) (outer := outer) (s := s) (H := H) (E := E)
  refine ⟨_, (pss_cons (ps_if (pt_not (pt_val (pe_callB (call_isi2 K) (by rfl) T.n_isinstance bt_isinstance (pa_cons (pv 0) (pa_cons (pe_bltn (v := .ty "str") (by rfl) T.n_str bt_str rfl) pa_nil))))) (pss_one ps_never) pss_nil)
  (pss_cons (ps_if (pt_cmpR (op_eqK K (hu64 hr)) (pv 0) pe_str (nomark _)) (pss_one (ps_ret (pe_lst pa_nil))) pss_nil)
  (pss_cons (ps_setLc (i := 1) (own := [("part", 2)]) rfl S.nd rfl rfl (sw_true rfl rfl rfl (by decide +kernel)) (pi_listK K (pe_bmK K PySem.F.plainAttrs_str PySem.F.slot_str_split PySem.F.type_str_split mt_split (pv 0) (pa_cons pe_str pa_nil))) (blkOk_by (own := [("part", 2)]) (N := N_read_orders) (sc := defScope s_read_orders) (by decide +kernel)) (fun _ _ _ _ _ => (by exact (pg_name (i := 2) S.nd rfl (by first | exact Or.inl rfl | exact Or.inr rfl)))) (fun _ _ _ _ _ => (by exact pts_nil)) (fun _ _ _ _ _ => (by exact (pe_callS G_read_order (hr.mono (by decide)) (by rfl) n_read_order k_read_order b_read_order hx_blk (pa_cons (pv 2) pa_nil)))))
  (pss_cons (ps_if (pt_not (pt_val (pe_callS G_is_orders (hr.mono (by decide)) (by rfl) n_is_orders k_is_orders b_is_orders (passAt tk) (pa_cons (pv 1) pa_nil)))) (pss_one ps_never) pss_nil)
  (pss_one (ps_ret (pv 1))))))), ?_⟩
  exact (s_seq (s_if (t_not (t_val (e_isa .str (e_var 0)))) s_never s_next)
  (s_seq (s_if (t_test (e_op (out_op o_eq) (e_var 0) (e_str "-"))) (s_ret (e_lst a_nil)) s_next)
  (s_seq (s_set rfl (e_comp (i_list (e_meth .str (out_op o_split) (e_var 0) (a_cons (e_str ", ") a_nil))) (g_name rfl) t_yes (e_fn (a_cons (e_var 2) a_nil))))
  (s_seq (s_if (t_not (t_val (e_fn (a_cons (e_var 1) a_nil)))) s_never s_next)
  (s_ret (e_var 1))))))
theorem cal_read_orders (T : Tx K mg) (F : FunAt K mg "read_orders" s_read_orders) (c_read_order : Cal P w K mg base cl "read_order" 4 P_read_order m_read_order) (c_is_orders : Cal P w K mg base cl "is_orders" 4 P_is_orders m_is_orders) :
    Cal P w K mg base cl "read_orders" 5 P_read_orders m_read_orders := by
  obtain ⟨a, fd, Fu, mgf⟩ := F
  exact ⟨a, fd, ok_read_orders T Fu c_read_order c_is_orders, mgf, Fu.kp, Fu.binds fun _ _ _ _ _ _ us hl => match us, hl with | [_], _ => rfl⟩
/-! law -/
abbrev s_law_k80 : Stmt := topS 28
abbrev N_law_k80 : List Str := ["script", "k", "pool", "n", "one", "other", "order", "text", "orders", "pair", "some", "texts", "turn"]
abbrev P_law_k80 : List Str := ["script"]
theorem sc_law_k80 : FnScope N_law_k80 P_law_k80 (defScope s_law_k80) := ⟨rfl, rfl, rfl, by decide +kernel, rfl, by decide +kernel, by decide +kernel⟩
theorem ok_law_k80 (T : Tx K mg) {a : Addr} {fd : FuncData} (Fu : Fun K "law" "law" s_law_k80 a fd) (c_Lpool : Cal P w K mg base cl "_law_pool" 2 P_Lpool m_Lpool) (c_Ldraw : Cal P w K mg base cl "_law_draw" 2 P_Ldraw m_Ldraw) (c_Lorder2 : Cal P w K mg base cl "_law_order" 3 P_Lorder2 m_Lorder2) (c_Lnear2 : Cal P w K mg base cl "_law_near" 3 P_Lnear2 m_Lnear2) (c_show_order : Cal P w K mg base cl "show_order" 4 P_show_order m_show_order) (c_order_behind : Cal P w K mg base cl "order_behind" 5 P_order_behind m_order_behind) (c_back_of : Cal P w K mg base cl "back_of" 5 P_back_of m_back_of) (c_read_order : Cal P w K mg base cl "read_order" 4 P_read_order m_read_order) (c_show_orders : Cal P w K mg base cl "show_orders" 5 P_show_orders m_show_orders) (c_Lotherwise : Cal P w K mg base cl "_law_otherwise" 4 P_Lotherwise m_Lotherwise) (c_read_orders : Cal P w K mg base cl "read_orders" 5 P_read_orders m_read_orders) :
    FnOk P w K mg base (L2.CX P w) 6 a fd P_law_k80 (spD K cl P_law_k80.length m_law_k80) := by
  obtain ⟨a_Lpool, fd_Lpool, G_Lpool, n_Lpool, k_Lpool, b_Lpool⟩ := c_Lpool
  obtain ⟨a_Ldraw, fd_Ldraw, G_Ldraw, n_Ldraw, k_Ldraw, b_Ldraw⟩ := c_Ldraw
  obtain ⟨a_Lorder2, fd_Lorder2, G_Lorder2, n_Lorder2, k_Lorder2, b_Lorder2⟩ := c_Lorder2
  obtain ⟨a_Lnear2, fd_Lnear2, G_Lnear2, n_Lnear2, k_Lnear2, b_Lnear2⟩ := c_Lnear2
  obtain ⟨a_show_order, fd_show_order, G_show_order, n_show_order, k_show_order, b_show_order⟩ := c_show_order
  obtain ⟨a_order_behind, fd_order_behind, G_order_behind, n_order_behind, k_order_behind, b_order_behind⟩ := c_order_behind
  obtain ⟨a_back_of, fd_back_of, G_back_of, n_back_of, k_back_of, b_back_of⟩ := c_back_of
  obtain ⟨a_read_order, fd_read_order, G_read_order, n_read_order, k_read_order, b_read_order⟩ := c_read_order
  obtain ⟨a_show_orders, fd_show_orders, G_show_orders, n_show_orders, k_show_orders, b_show_orders⟩ := c_show_orders
  obtain ⟨a_Lotherwise, fd_Lotherwise, G_Lotherwise, n_Lotherwise, k_Lotherwise, b_Lotherwise⟩ := c_Lotherwise
  obtain ⟨a_read_orders, fd_read_orders, G_read_orders, n_read_orders, k_read_orders, b_read_orders⟩ := c_read_orders
  have S := sc_law_k80
  refine fn_okD (k := 5) Fu S (kpC [1, 2, 3, 4, 5, 6, 7, 8, 9, 10, 11]) g_law_k80 (fun cdv A outer s H E hr => ?_)
  have tk := tk_def (P := P) (w := w) (K := K) (mg := mg) (base := base) (N := N_law_k80) (qual := "law") (sc := defScope s_law_k80) (f := a) (cd := cdv) (A := A) (outer := outer) (s := s) (H := H) (E := E)
  have po := po_def (P := P) (w := w) (K := K) (mg := mg) (base := base) (N := N_law_k80) (qual := "law") (sc := defScope s_law_k80) (f := a) (cd := cdv) (A := A) (outer := outer) (s := s) (H := H) (E := E)
  refine ⟨_, (pss_cons (ps_for po rfl (pi_range1 (by rfl) T.n_range (pa_cons (pe_callB (call_max2 rfl) (by rfl) T.n_max bt_max (pa_cons pe_int (pa_cons (pe_callB (call_min2 rfl) (by rfl) T.n_min bt_min (pa_cons pe_int (pa_cons (pe_callB (call_lenK K) (by rfl) T.n_len bt_len (pa_cons (pv 0) pa_nil)) pa_nil))) pa_nil))) pa_nil)) (pg_name (i := 1) S.nd rfl (by first | exact Or.inl rfl | exact Or.inr rfl))
  (pss_cons (ps_set (i := 2) S.nd rfl (by first | exact Or.inl rfl | exact Or.inr rfl) (pe_callS G_Lpool (hr.mono (by decide)) (by rfl) n_Lpool k_Lpool b_Lpool (passAt tk) (pa_cons (pv 0) (pa_cons (pv 1) pa_nil))))
  (pss_cons (ps_set (i := 3) S.nd rfl (by first | exact Or.inl rfl | exact Or.inr rfl) (pe_op op_plus pe_int (pe_callS G_Ldraw (hr.mono (by decide)) (by rfl) n_Ldraw k_Ldraw b_Ldraw (passAt tk) (pa_cons (pv 2) (pa_cons pe_int pa_nil)))))
  (pss_cons (ps_set (i := 4) S.nd rfl (by first | exact Or.inl rfl | exact Or.inr rfl) (pe_callS G_Lorder2 (hr.mono (by decide)) (by rfl) n_Lorder2 k_Lorder2 b_Lorder2 (passAt tk) (pa_cons (pv 2) (pa_cons (pv 3) pa_nil))))
  (pss_cons (ps_set (i := 5) S.nd rfl (by first | exact Or.inl rfl | exact Or.inr rfl) (pe_callS G_Lnear2 (hr.mono (by decide)) (by rfl) n_Lnear2 k_Lnear2 b_Lnear2 (passAt tk) (pa_cons (pv 2) (pa_cons (pv 4) pa_nil))))
  (pss_cons (ps_if (pt_cmpR (op_neK K (hu64 hr)) (pe_cmpR (op_eqK K (hu64 hr)) (pe_callS G_show_order (hr.mono (by decide)) (by rfl) n_show_order k_show_order b_show_order (passAt tk) (pa_cons (pv 4) pa_nil)) (pe_callS G_show_order (hr.mono (by decide)) (by rfl) n_show_order k_show_order b_show_order (passAt tk) (pa_cons (pv 5) pa_nil)) (nomark _)) (pe_cmpR (op_eqK K (hu64 hr)) (pv 4) (pv 5) (nomark _)) (nomark _)) (pss_one (ps_ret pe_bl)) pss_nil)
  (pss_cons (ps_for po rfl (pi_listK K (pe_lst (pa_cons (pv 4) (pa_cons (pv 5) (pa_cons (pe_callS G_back_of (hr.mono (by decide)) (by rfl) n_back_of k_back_of b_back_of (passAt tk) (pa_cons (pv 4) pa_nil)) (pa_cons (pe_callS G_order_behind (hr.mono (by decide)) (by rfl) n_order_behind k_order_behind b_order_behind (passAt tk) (pa_cons (pv 4) (pa_cons (pv 5) pa_nil))) pa_nil)))))) (pg_name (i := 6) S.nd rfl (by first | exact Or.inl rfl | exact Or.inr rfl))
  (pss_cons (ps_set (i := 7) S.nd rfl (by first | exact Or.inl rfl | exact Or.inr rfl) (pe_callS G_show_order (hr.mono (by decide)) (by rfl) n_show_order k_show_order b_show_order (passAt tk) (pa_cons (pv 6) pa_nil)))
  (pss_one (ps_if (PW.pt (pw_or (pt_cmpR (op_neK K (hu64 hr)) (pe_callS G_read_order (hr.mono (by decide)) (by rfl) n_read_order k_read_order b_read_order (passAt tk) (pa_cons (pv 7) pa_nil)) (pv 6) (nomark _)) (pw_or (pt_cmpR (op_neK K (hu64 hr)) (pe_callS G_show_order (hr.mono (by decide)) (by rfl) n_show_order k_show_order b_show_order (passAt tk) (pa_cons (pe_callS G_read_order (hr.mono (by decide)) (by rfl) n_read_order k_read_order b_read_order (passAt tk) (pa_cons (pv 7) pa_nil)) pa_nil)) (pv 7) (nomark _)) (pw_or1 (pt_cmpR (op_neK K (hu64 hr)) (pe_callS G_show_orders (hr.mono (by decide)) (by rfl) n_show_orders k_show_orders b_show_orders (passAt tk) (pa_cons (pe_lst (pa_cons (pv 6) pa_nil)) pa_nil)) (pv 7) (nomark _)))))) (pss_one (ps_ret pe_bl)) pss_nil))))
  (pss_cons (ps_setLc (i := 8) (own := [("turn", 12)]) rfl S.nd rfl rfl (sw_true rfl rfl rfl (by decide +kernel)) (pi_range1 (by rfl) T.n_range (pa_cons (pe_op op_plus pe_int (pe_callS G_Ldraw (hr.mono (by decide)) (by rfl) n_Ldraw k_Ldraw b_Ldraw (passAt tk) (pa_cons (pv 2) (pa_cons pe_int pa_nil)))) pa_nil)) (blkOk_by (own := [("turn", 12)]) (N := N_law_k80) (sc := defScope s_law_k80) (by decide +kernel)) (fun _ _ _ _ _ => (by exact (pg_name (i := 12) S.nd rfl (by first | exact Or.inl rfl | exact Or.inr rfl)))) (fun _ _ _ _ _ => (by exact pts_nil)) (fun _ _ _ _ _ => (by exact (pe_callS G_Lnear2 (hr.mono (by decide)) (by rfl) n_Lnear2 k_Lnear2 b_Lnear2 hx_blk (pa_cons (pv 2) (pa_cons (pv 4) pa_nil))))))
  (pss_cons (ps_set (i := 9) S.nd rfl (by first | exact Or.inl rfl | exact Or.inr rfl) (pe_lst (pa_cons (pv 8) (pa_cons (pe_callS G_Lotherwise (hr.mono (by decide)) (by rfl) n_Lotherwise k_Lotherwise b_Lotherwise (passAt tk) (pa_cons (pv 2) (pa_cons (pv 8) pa_nil))) pa_nil))))
  (pss_cons (ps_setLc (i := 11) (own := [("some", 10)]) rfl S.nd rfl rfl (sw_true rfl rfl rfl (by decide +kernel)) (pi_listK K (pv 9)) (blkOk_by (own := [("some", 10)]) (N := N_law_k80) (sc := defScope s_law_k80) (by decide +kernel)) (fun _ _ _ _ _ => (by exact (pg_name (i := 10) S.nd rfl (by first | exact Or.inl rfl | exact Or.inr rfl)))) (fun _ _ _ _ _ => (by exact pts_nil)) (fun _ _ _ _ _ => (by exact (pe_callS G_show_orders (hr.mono (by decide)) (by rfl) n_show_orders k_show_orders b_show_orders hx_blk (pa_cons (pv 10) pa_nil)))))
  (pss_cons (ps_if (pt_cmpR (op_neK K (hu64 hr)) (pe_cmpR (op_eqK K (hu64 hr)) (pe_ix (ix_seqK K) (pv 11) pe_int (fun _ _ => rfl)) (pe_ix (ix_seqK K) (pv 11) pe_int (fun _ _ => rfl)) (nomark _)) (pe_cmpR (op_eqK K (hu64 hr)) (pe_ix (ix_seqK K) (pv 9) pe_int (fun _ _ => rfl)) (pe_ix (ix_seqK K) (pv 9) pe_int (fun _ _ => rfl)) (nomark _)) (nomark _)) (pss_one (ps_ret pe_bl)) pss_nil)
  (pss_one (ps_for po rfl (pi_zipK K (by rfl) T.n_zip (pa_cons (pv 9) (pa_cons (pv 11) pa_nil))) (pg_tup rfl (pgs_cons (pg_name (i := 10) S.nd rfl (by first | exact Or.inl rfl | exact Or.inr rfl)) (pgs_cons (pg_name (i := 7) S.nd rfl (by first | exact Or.inl rfl | exact Or.inr rfl)) pgs_nil)))
  (pss_cons (ps_if (PW.pt (pw_or (pt_cmpR (op_neK K (hu64 hr)) (pe_callS G_read_orders (hr.mono (by decide)) (by rfl) n_read_orders k_read_orders b_read_orders (passAt tk) (pa_cons (pv 7) pa_nil)) (pv 10) (nomark _)) (pw_or1 (pt_cmpR (op_neK K (hu64 hr)) (pe_callS G_show_orders (hr.mono (by decide)) (by rfl) n_show_orders k_show_orders b_show_orders (passAt tk) (pa_cons (pe_callS G_read_orders (hr.mono (by decide)) (by rfl) n_read_orders k_read_orders b_read_orders (passAt tk) (pa_cons (pv 7) pa_nil)) pa_nil)) (pv 7) (nomark _))))) (pss_one (ps_ret pe_bl)) pss_nil)
  (pss_one (ps_if (PW.pt (pw_and (pt_cmpR (op_neK K (hu64 hr)) (pv 10) (pe_lst pa_nil) (nomark _)) (pw_and1 (pt_cmpR (op_neK K (hu64 hr)) (pe_bmK K PySem.F.plainAttrs_str PySem.F.slot_str_split PySem.F.type_str_split mt_split (pv 7) (pa_cons pe_str pa_nil)) (pe_lc (own := [("order", 6)]) rfl S.nd (pi_listK K (pv 10)) (blkOk_by (own := [("order", 6)]) (N := N_law_k80) (sc := defScope s_law_k80) (by decide +kernel)) (fun _ _ _ _ _ => (by exact (pg_name (i := 6) S.nd rfl (by first | exact Or.inl rfl | exact Or.inr rfl)))) (fun _ _ _ _ _ => (by exact pts_nil)) (fun _ _ _ _ _ => (by exact (pe_callS G_show_order (hr.mono (by decide)) (by rfl) n_show_order k_show_order b_show_order hx_blk (pa_cons (pv 6) pa_nil))))) (nomark _))))) (pss_one (ps_ret pe_bl)) pss_nil))))))))))))))))
  (pss_one (ps_ret pe_bl))), ?_⟩
  exact (s_seq (s_for (kpb := kpC [1, 2, 3, 4, 5, 6, 7, 8, 9, 10, 11]) (kpC_sub rfl) (i_range1 (e_call (out_op o_max2) (a_cons (e_int 1) (a_cons (e_call (out_op o_min2) (a_cons (e_int 10) (a_cons (e_call (out_op o_len) (a_cons (e_var 0) a_nil)) a_nil))) a_nil)))) (g_name rfl)
  (s_seq (s_set rfl (e_fn (a_cons (e_var 0) (a_cons (e_var 1) a_nil))))
  (s_seq (s_set rfl (e_op (out_op o_add) (e_int 1) (e_fn (a_cons (e_var 2) (a_cons (e_int 12) a_nil)))))
  (s_seq (s_set rfl (e_fn (a_cons (e_var 2) (a_cons (e_var 3) a_nil))))
  (s_seq (s_set rfl (e_fn (a_cons (e_var 2) (a_cons (e_var 4) a_nil))))
  (s_seq (s_if (t_test (e_op (out_op o_ne) (e_op (out_op o_eq) (e_fn (a_cons (e_var 4) a_nil)) (e_fn (a_cons (e_var 5) a_nil))) (e_op (out_op o_eq) (e_var 4) (e_var 5)))) (s_ret (e_bl false)) s_next)
  (s_seq (s_for (kpb := kpC [6, 7]) (kpC_sub rfl) (i_list (e_lst (a_cons (e_var 4) (a_cons (e_var 5) (a_cons (e_fn (a_cons (e_var 4) a_nil)) (a_cons (e_fn (a_cons (e_var 4) (a_cons (e_var 5) a_nil))) a_nil)))))) (g_name rfl)
  (s_seq (s_set rfl (e_fn (a_cons (e_var 6) a_nil)))
  (s_if (t_or (t_test (e_op (out_op o_ne) (e_fn (a_cons (e_var 7) a_nil)) (e_var 6))) (t_or (t_test (e_op (out_op o_ne) (e_fn (a_cons (e_fn (a_cons (e_var 7) a_nil)) a_nil)) (e_var 7))) (t_test (e_op (out_op o_ne) (e_fn (a_cons (e_lst (a_cons (e_var 6) a_nil)) a_nil)) (e_var 7))))) (s_ret (e_bl false)) s_next)))
  (s_seq (s_set rfl (e_comp (i_range1 (e_op (out_op o_add) (e_int 1) (e_fn (a_cons (e_var 2) (a_cons (e_int 5) a_nil))))) (g_name rfl) t_yes (e_fn (a_cons (e_var 2) (a_cons (e_var 4) a_nil)))))
  (s_seq (s_set rfl (e_lst (a_cons (e_var 8) (a_cons (e_fn (a_cons (e_var 2) (a_cons (e_var 8) a_nil))) a_nil))))
  (s_seq (s_set rfl (e_comp (i_list (e_var 9)) (g_name rfl) t_yes (e_fn (a_cons (e_var 10) a_nil))))
  (s_seq (s_if (t_test (e_op (out_op o_ne) (e_op (out_op o_eq) (e_op (out_op o_ix) (e_var 11) (e_int 0)) (e_op (out_op o_ix) (e_var 11) (e_int 1))) (e_op (out_op o_eq) (e_op (out_op o_ix) (e_var 9) (e_int 0)) (e_op (out_op o_ix) (e_var 9) (e_int 1))))) (s_ret (e_bl false)) s_next)
  (s_for (kpb := kpC [7, 10]) (kpC_sub rfl) (i_zip (e_var 9) (e_var 11)) (g_tup (g_cons (g_name rfl) (g_cons (g_name rfl) g_nil)))
  (s_seq (s_if (t_or (t_test (e_op (out_op o_ne) (e_fn (a_cons (e_var 7) a_nil)) (e_var 10))) (t_test (e_op (out_op o_ne) (e_fn (a_cons (e_fn (a_cons (e_var 7) a_nil)) a_nil)) (e_var 7)))) (s_ret (e_bl false)) s_next)
  (s_if (t_and (t_test (e_op (out_op o_ne) (e_var 10) (e_lst a_nil))) (t_test (e_op (out_op o_ne) (e_meth .str (out_op o_split) (e_var 7) (a_cons (e_str ", ") a_nil)) (e_comp (i_list (e_var 10)) (g_name rfl) t_yes (e_fn (a_cons (e_var 6) a_nil)))))) (s_ret (e_bl false)) s_next))))))))))))))
  (s_ret (e_bl true)))
theorem cal_law_k80 (T : Tx K mg) (F : FunAt K mg "law" s_law_k80) (c_Lpool : Cal P w K mg base cl "_law_pool" 2 P_Lpool m_Lpool) (c_Ldraw : Cal P w K mg base cl "_law_draw" 2 P_Ldraw m_Ldraw) (c_Lorder2 : Cal P w K mg base cl "_law_order" 3 P_Lorder2 m_Lorder2) (c_Lnear2 : Cal P w K mg base cl "_law_near" 3 P_Lnear2 m_Lnear2) (c_show_order : Cal P w K mg base cl "show_order" 4 P_show_order m_show_order) (c_order_behind : Cal P w K mg base cl "order_behind" 5 P_order_behind m_order_behind) (c_back_of : Cal P w K mg base cl "back_of" 5 P_back_of m_back_of) (c_read_order : Cal P w K mg base cl "read_order" 4 P_read_order m_read_order) (c_show_orders : Cal P w K mg base cl "show_orders" 5 P_show_orders m_show_orders) (c_Lotherwise : Cal P w K mg base cl "_law_otherwise" 4 P_Lotherwise m_Lotherwise) (c_read_orders : Cal P w K mg base cl "read_orders" 5 P_read_orders m_read_orders) :
    Cal P w K mg base cl "law" 6 P_law_k80 m_law_k80 := by
  obtain ⟨a, fd, Fu, mgf⟩ := F
  exact ⟨a, fd, ok_law_k80 T Fu c_Lpool c_Ldraw c_Lorder2 c_Lnear2 c_show_order c_order_behind c_back_of c_read_order c_show_orders c_Lotherwise c_read_orders, mgf, Fu.kp, Fu.binds fun _ _ _ _ _ _ us hl => match us, hl with | [_], _ => rfl⟩
end
end Wk

set_option Elab.async false
set_option linter.all false
set_option maxRecDepth 100000
namespace Wk
open PySem PySem.Spec L2 DL
theorem all_mk {l : PySem.W.OpenLaw} {w : World} {K : PySem.W.Frag} {h : Heap} {mg : Str → Option Value} {fa : Addr} (X : K.In h) (G : h.Ns mainGlobals mg) (hfa : mg "law" = some (.ref fa)) {cl : Str → Addr}
    {f0 f1 f2 f3 f4 f5 f6 f7 f8 f9 f10 f11 f12 f13 f14 f15 f16 f17 f18 : Addr} {od0 od1 od2 od3 od4 od5 od6 od7 od8 od9 od10 od11 od12 od13 od14 od15 od16 od17 od18 : Option Addr} {an0 an1 an2 an3 an4 an5 an6 an7 an8 an9 an10 an11 an12 an13 an14 an15 an16 an17 an18 : Option Addr} {sl0 sl1 sl2 sl3 sl4 sl5 sl6 sl7 sl8 sl9 sl10 sl11 sl12 sl13 sl14 sl15 sl16 sl17 sl18 : Array (Option Value)}
    {oc0 kV0 dc0 pm0 cd0 ct0 oc1 kV1 dc1 pm1 cd1 ct1 oc2 kV2 dc2 pm2 cd2 ct2 oc3 kV3 dc3 pm3 cd3 ct3 oc4 kV4 dc4 pm4 cd4 ct4 oc5 kV5 dc5 pm5 cd5 ct5 oc6 kV6 dc6 pm6 cd6 ct6 oc7 kV7 dc7 pm7 cd7 ct7 oc8 kV8 dc8 pm8 cd8 ct8 oc9 kV9 dc9 pm9 cd9 ct9 oc10 kV10 dc10 pm10 cd10 ct10 oc11 kV11 dc11 pm11 cd11 ct11 oc12 kV12 dc12 pm12 cd12 ct12 oc13 kV13 dc13 pm13 cd13 ct13 oc14 kV14 dc14 pm14 cd14 ct14 oc15 kV15 dc15 pm15 cd15 ct15 oc16 kV16 dc16 pm16 cd16 ct16 oc17 kV17 dc17 pm17 cd17 ct17 oc18 kV18 dc18 pm18 cd18 ct18 : Value}
    (a0 : PySem.W.nsIn K mainGlobals "_law_pool" = some (some (.ref f0))) (l0 : K.lookup f0 = some ⟨oc0, od0, .func (PySem.W.fnOf "_law_pool" "_law_pool" (defArgs s_Lpool) (defBody s_Lpool) (defScope s_Lpool) .none kV0 dc0 pm0 an0 cd0 ct0), sl0⟩) (c0 : PySem.W.codeIn K cd0 "_law_pool" = true) (k0 : PySem.W.keepIn K (.ref f0) = true)
    (a1 : PySem.W.nsIn K mainGlobals "_law_draw" = some (some (.ref f1))) (l1 : K.lookup f1 = some ⟨oc1, od1, .func (PySem.W.fnOf "_law_draw" "_law_draw" (defArgs s_Ldraw) (defBody s_Ldraw) (defScope s_Ldraw) .none kV1 dc1 pm1 an1 cd1 ct1), sl1⟩) (c1 : PySem.W.codeIn K cd1 "_law_draw" = true) (k1 : PySem.W.keepIn K (.ref f1) = true)
    (a2 : PySem.W.nsIn K mainGlobals "_law_order" = some (some (.ref f2))) (l2 : K.lookup f2 = some ⟨oc2, od2, .func (PySem.W.fnOf "_law_order" "_law_order" (defArgs s_Lorder2) (defBody s_Lorder2) (defScope s_Lorder2) .none kV2 dc2 pm2 an2 cd2 ct2), sl2⟩) (c2 : PySem.W.codeIn K cd2 "_law_order" = true) (k2 : PySem.W.keepIn K (.ref f2) = true)
    (a3 : PySem.W.nsIn K mainGlobals "_law_near" = some (some (.ref f3))) (l3 : K.lookup f3 = some ⟨oc3, od3, .func (PySem.W.fnOf "_law_near" "_law_near" (defArgs s_Lnear2) (defBody s_Lnear2) (defScope s_Lnear2) .none kV3 dc3 pm3 an3 cd3 ct3), sl3⟩) (c3 : PySem.W.codeIn K cd3 "_law_near" = true) (k3 : PySem.W.keepIn K (.ref f3) = true)
    (a4 : PySem.W.nsIn K mainGlobals "is_whole" = some (some (.ref f4))) (l4 : K.lookup f4 = some ⟨oc4, od4, .func (PySem.W.fnOf "is_whole" "is_whole" (defArgs s_is_whole) (defBody s_is_whole) (defScope s_is_whole) .none kV4 dc4 pm4 an4 cd4 ct4), sl4⟩) (c4 : PySem.W.codeIn K cd4 "is_whole" = true) (k4 : PySem.W.keepIn K (.ref f4) = true)
    (a5 : PySem.W.nsIn K mainGlobals "is_order" = some (some (.ref f5))) (l5 : K.lookup f5 = some ⟨oc5, od5, .func (PySem.W.fnOf "is_order" "is_order" (defArgs s_is_order) (defBody s_is_order) (defScope s_is_order) .none kV5 dc5 pm5 an5 cd5 ct5), sl5⟩) (c5 : PySem.W.codeIn K cd5 "is_order" = true) (k5 : PySem.W.keepIn K (.ref f5) = true)
    (a6 : PySem.W.nsIn K mainGlobals "words_of" = some (some (.ref f6))) (l6 : K.lookup f6 = some ⟨oc6, od6, .func (PySem.W.fnOf "words_of" "words_of" (defArgs s_words_of) (defBody s_words_of) (defScope s_words_of) .none kV6 dc6 pm6 an6 cd6 ct6), sl6⟩) (c6 : PySem.W.codeIn K cd6 "words_of" = true) (k6 : PySem.W.keepIn K (.ref f6) = true)
    (a7 : PySem.W.nsIn K mainGlobals "show_order" = some (some (.ref f7))) (l7 : K.lookup f7 = some ⟨oc7, od7, .func (PySem.W.fnOf "show_order" "show_order" (defArgs s_show_order) (defBody s_show_order) (defScope s_show_order) .none kV7 dc7 pm7 an7 cd7 ct7), sl7⟩) (c7 : PySem.W.codeIn K cd7 "show_order" = true) (k7 : PySem.W.keepIn K (.ref f7) = true)
    (a8 : PySem.W.nsIn K mainGlobals "need_order" = some (some (.ref f8))) (l8 : K.lookup f8 = some ⟨oc8, od8, .func (PySem.W.fnOf "need_order" "need_order" (defArgs s_need_order) (defBody s_need_order) (defScope s_need_order) .none kV8 dc8 pm8 an8 cd8 ct8), sl8⟩) (c8 : PySem.W.codeIn K cd8 "need_order" = true) (k8 : PySem.W.keepIn K (.ref f8) = true)
    (a9 : PySem.W.nsIn K mainGlobals "order_behind" = some (some (.ref f9))) (l9 : K.lookup f9 = some ⟨oc9, od9, .func (PySem.W.fnOf "order_behind" "order_behind" (defArgs s_order_behind) (defBody s_order_behind) (defScope s_order_behind) .none kV9 dc9 pm9 an9 cd9 ct9), sl9⟩) (c9 : PySem.W.codeIn K cd9 "order_behind" = true) (k9 : PySem.W.keepIn K (.ref f9) = true)
    (a10 : PySem.W.nsIn K mainGlobals "turned_back" = some (some (.ref f10))) (l10 : K.lookup f10 = some ⟨oc10, od10, .func (PySem.W.fnOf "turned_back" "turned_back" (defArgs s_turned_back) (defBody s_turned_back) (defScope s_turned_back) .none kV10 dc10 pm10 an10 cd10 ct10), sl10⟩) (c10 : PySem.W.codeIn K cd10 "turned_back" = true) (k10 : PySem.W.keepIn K (.ref f10) = true)
    (a11 : PySem.W.nsIn K mainGlobals "back_of" = some (some (.ref f11))) (l11 : K.lookup f11 = some ⟨oc11, od11, .func (PySem.W.fnOf "back_of" "back_of" (defArgs s_back_of) (defBody s_back_of) (defScope s_back_of) .none kV11 dc11 pm11 an11 cd11 ct11), sl11⟩) (c11 : PySem.W.codeIn K cd11 "back_of" = true) (k11 : PySem.W.keepIn K (.ref f11) = true)
    (a12 : PySem.W.nsIn K mainGlobals "is_number" = some (some (.ref f12))) (l12 : K.lookup f12 = some ⟨oc12, od12, .func (PySem.W.fnOf "is_number" "is_number" (defArgs s_is_number) (defBody s_is_number) (defScope s_is_number) .none kV12 dc12 pm12 an12 cd12 ct12), sl12⟩) (c12 : PySem.W.codeIn K cd12 "is_number" = true) (k12 : PySem.W.keepIn K (.ref f12) = true)
    (a13 : PySem.W.nsIn K mainGlobals "read_order" = some (some (.ref f13))) (l13 : K.lookup f13 = some ⟨oc13, od13, .func (PySem.W.fnOf "read_order" "read_order" (defArgs s_read_order) (defBody s_read_order) (defScope s_read_order) .none kV13 dc13 pm13 an13 cd13 ct13), sl13⟩) (c13 : PySem.W.codeIn K cd13 "read_order" = true) (k13 : PySem.W.keepIn K (.ref f13) = true)
    (a14 : PySem.W.nsIn K mainGlobals "is_orders" = some (some (.ref f14))) (l14 : K.lookup f14 = some ⟨oc14, od14, .func (PySem.W.fnOf "is_orders" "is_orders" (defArgs s_is_orders) (defBody s_is_orders) (defScope s_is_orders) .none kV14 dc14 pm14 an14 cd14 ct14), sl14⟩) (c14 : PySem.W.codeIn K cd14 "is_orders" = true) (k14 : PySem.W.keepIn K (.ref f14) = true)
    (a15 : PySem.W.nsIn K mainGlobals "show_orders" = some (some (.ref f15))) (l15 : K.lookup f15 = some ⟨oc15, od15, .func (PySem.W.fnOf "show_orders" "show_orders" (defArgs s_show_orders) (defBody s_show_orders) (defScope s_show_orders) .none kV15 dc15 pm15 an15 cd15 ct15), sl15⟩) (c15 : PySem.W.codeIn K cd15 "show_orders" = true) (k15 : PySem.W.keepIn K (.ref f15) = true)
    (a16 : PySem.W.nsIn K mainGlobals "_law_otherwise" = some (some (.ref f16))) (l16 : K.lookup f16 = some ⟨oc16, od16, .func (PySem.W.fnOf "_law_otherwise" "_law_otherwise" (defArgs s_Lotherwise) (defBody s_Lotherwise) (defScope s_Lotherwise) .none kV16 dc16 pm16 an16 cd16 ct16), sl16⟩) (c16 : PySem.W.codeIn K cd16 "_law_otherwise" = true) (k16 : PySem.W.keepIn K (.ref f16) = true)
    (a17 : PySem.W.nsIn K mainGlobals "read_orders" = some (some (.ref f17))) (l17 : K.lookup f17 = some ⟨oc17, od17, .func (PySem.W.fnOf "read_orders" "read_orders" (defArgs s_read_orders) (defBody s_read_orders) (defScope s_read_orders) .none kV17 dc17 pm17 an17 cd17 ct17), sl17⟩) (c17 : PySem.W.codeIn K cd17 "read_orders" = true) (k17 : PySem.W.keepIn K (.ref f17) = true)
    (a18 : PySem.W.nsIn K mainGlobals "law" = some (some (.ref f18))) (l18 : K.lookup f18 = some ⟨oc18, od18, .func (PySem.W.fnOf "law" "law" (defArgs s_law_k80) (defBody s_law_k80) (defScope s_law_k80) .none kV18 dc18 pm18 an18 cd18 ct18), sl18⟩) (c18 : PySem.W.codeIn K cd18 "law" = true) (k18 : PySem.W.keepIn K (.ref f18) = true)
    (z_bool : PySem.W.nsIn K mainGlobals "bool" = some none)
    (z_enumerate : PySem.W.nsIn K mainGlobals "enumerate" = some none)
    (z_int : PySem.W.nsIn K mainGlobals "int" = some none)
    (z_isinstance : PySem.W.nsIn K mainGlobals "isinstance" = some none)
    (z_len : PySem.W.nsIn K mainGlobals "len" = some none)
    (z_list : PySem.W.nsIn K mainGlobals "list" = some none)
    (z_max : PySem.W.nsIn K mainGlobals "max" = some none)
    (z_min : PySem.W.nsIn K mainGlobals "min" = some none)
    (z_range : PySem.W.nsIn K mainGlobals "range" = some none)
    (z_sorted : PySem.W.nsIn K mainGlobals "sorted" = some none)
    (z_str : PySem.W.nsIn K mainGlobals "str" = some none)
    (z_zip : PySem.W.nsIn K mainGlobals "zip" = some none)
    {t_FIGURES : Tok} (y_FIGURES : PySem.W.nsIn K mainGlobals "FIGURES" = some (some (.str "0123456789" t_FIGURES)))
    {t_MOST_THINGS : Tok} (y_MOST_THINGS : PySem.W.nsIn K mainGlobals "MOST_THINGS" = some (some (.int 12 t_MOST_THINGS)))
    : ∃ fd : FuncData, (∀ (s : Shared) (v : Value), BindsTo s fd ⟨[v], []⟩ [("script", v)]) ∧ ∀ base : Heap, K.In base → base.Ns mainGlobals mg → FnOk l.prog w K mg base (L2.CX l.prog w) 6 fa fd ["script"] (spD K cl 1 m_law_k80) := by
  have e := hfa.symm.trans (PySem.W.mg_of X G a18)
  cases e
  have T : Tx K mg := ⟨PySem.W.mg_none_of X G z_bool, PySem.W.mg_none_of X G z_enumerate, PySem.W.mg_none_of X G z_int, PySem.W.mg_none_of X G z_isinstance, PySem.W.mg_none_of X G z_len, PySem.W.mg_none_of X G z_list, PySem.W.mg_none_of X G z_max, PySem.W.mg_none_of X G z_min, PySem.W.mg_none_of X G z_range, PySem.W.mg_none_of X G z_sorted, PySem.W.mg_none_of X G z_str, PySem.W.mg_none_of X G z_zip, ⟨_, PySem.W.mg_of X G y_FIGURES⟩, ⟨_, PySem.W.mg_of X G y_MOST_THINGS⟩⟩
  have F0 : FunAt K mg "_law_pool" s_Lpool := ⟨_, _, fun_mk (st := s_Lpool) l0 c0 k0, PySem.W.mg_of X G a0⟩
  have F1 : FunAt K mg "_law_draw" s_Ldraw := ⟨_, _, fun_mk (st := s_Ldraw) l1 c1 k1, PySem.W.mg_of X G a1⟩
  have F2 : FunAt K mg "_law_order" s_Lorder2 := ⟨_, _, fun_mk (st := s_Lorder2) l2 c2 k2, PySem.W.mg_of X G a2⟩
  have F3 : FunAt K mg "_law_near" s_Lnear2 := ⟨_, _, fun_mk (st := s_Lnear2) l3 c3 k3, PySem.W.mg_of X G a3⟩
  have F4 : FunAt K mg "is_whole" s_is_whole := ⟨_, _, fun_mk (st := s_is_whole) l4 c4 k4, PySem.W.mg_of X G a4⟩
  have F5 : FunAt K mg "is_order" s_is_order := ⟨_, _, fun_mk (st := s_is_order) l5 c5 k5, PySem.W.mg_of X G a5⟩
  have F6 : FunAt K mg "words_of" s_words_of := ⟨_, _, fun_mk (st := s_words_of) l6 c6 k6, PySem.W.mg_of X G a6⟩
  have F7 : FunAt K mg "show_order" s_show_order := ⟨_, _, fun_mk (st := s_show_order) l7 c7 k7, PySem.W.mg_of X G a7⟩
  have F8 : FunAt K mg "need_order" s_need_order := ⟨_, _, fun_mk (st := s_need_order) l8 c8 k8, PySem.W.mg_of X G a8⟩
  have F9 : FunAt K mg "order_behind" s_order_behind := ⟨_, _, fun_mk (st := s_order_behind) l9 c9 k9, PySem.W.mg_of X G a9⟩
  have F10 : FunAt K mg "turned_back" s_turned_back := ⟨_, _, fun_mk (st := s_turned_back) l10 c10 k10, PySem.W.mg_of X G a10⟩
  have F11 : FunAt K mg "back_of" s_back_of := ⟨_, _, fun_mk (st := s_back_of) l11 c11 k11, PySem.W.mg_of X G a11⟩
  have F12 : FunAt K mg "is_number" s_is_number := ⟨_, _, fun_mk (st := s_is_number) l12 c12 k12, PySem.W.mg_of X G a12⟩
  have F13 : FunAt K mg "read_order" s_read_order := ⟨_, _, fun_mk (st := s_read_order) l13 c13 k13, PySem.W.mg_of X G a13⟩
  have F14 : FunAt K mg "is_orders" s_is_orders := ⟨_, _, fun_mk (st := s_is_orders) l14 c14 k14, PySem.W.mg_of X G a14⟩
  have F15 : FunAt K mg "show_orders" s_show_orders := ⟨_, _, fun_mk (st := s_show_orders) l15 c15 k15, PySem.W.mg_of X G a15⟩
  have F16 : FunAt K mg "_law_otherwise" s_Lotherwise := ⟨_, _, fun_mk (st := s_Lotherwise) l16 c16 k16, PySem.W.mg_of X G a16⟩
  have F17 : FunAt K mg "read_orders" s_read_orders := ⟨_, _, fun_mk (st := s_read_orders) l17 c17 k17, PySem.W.mg_of X G a17⟩
  have F18 : FunAt K mg "law" s_law_k80 := ⟨_, _, fun_mk (st := s_law_k80) l18 c18 k18, PySem.W.mg_of X G a18⟩
  refine ⟨PySem.W.fnOf "law" "law" (defArgs s_law_k80) (defBody s_law_k80) (defScope s_law_k80) .none kV18 dc18 pm18 an18 cd18 ct18, fun s v => .of_eq rfl, fun base _ _ => ?_⟩
  have C0 := cal_Lpool (P := l.prog) (w := w) (base := base) (cl := cl) T F0 
  have C1 := cal_Ldraw (P := l.prog) (w := w) (base := base) (cl := cl) T F1 
  have C2 := cal_Lorder2 (P := l.prog) (w := w) (base := base) (cl := cl) T F2 C1
  have C3 := cal_Lnear2 (P := l.prog) (w := w) (base := base) (cl := cl) T F3 C1
  have C4 := cal_is_whole (P := l.prog) (w := w) (base := base) (cl := cl) T F4 
  have C5 := cal_is_order (P := l.prog) (w := w) (base := base) (cl := cl) T F5 C4
  have C6 := cal_words_of (P := l.prog) (w := w) (base := base) (cl := cl) T F6 
  have C7 := cal_show_order (P := l.prog) (w := w) (base := base) (cl := cl) T F7 C5 C6
  have C8 := cal_need_order (P := l.prog) (w := w) (base := base) (cl := cl) T F8 C5
  have C9 := cal_order_behind (P := l.prog) (w := w) (base := base) (cl := cl) T F9 C8
  have C10 := cal_turned_back (P := l.prog) (w := w) (base := base) (cl := cl) T F10 
  have C11 := cal_back_of (P := l.prog) (w := w) (base := base) (cl := cl) T F11 C8 C10
  have C12 := cal_is_number (P := l.prog) (w := w) (base := base) (cl := cl) T F12 
  have C13 := cal_read_order (P := l.prog) (w := w) (base := base) (cl := cl) T F13 C12 C5
  have C14 := cal_is_orders (P := l.prog) (w := w) (base := base) (cl := cl) T F14 C5
  have C15 := cal_show_orders (P := l.prog) (w := w) (base := base) (cl := cl) T F15 C14 C6
  have C16 := cal_Lotherwise (P := l.prog) (w := w) (base := base) (cl := cl) T F16 C1 C3
  have C17 := cal_read_orders (P := l.prog) (w := w) (base := base) (cl := cl) T F17 C13 C14
  exact ok_law_k80 T (fun_mk (st := s_law_k80) l18 c18 k18) C0 C1 C2 C3 C7 C9 C11 C13 C15 C16 C17
theorem walk {l : PySem.W.OpenLaw} {q : Program} {loose : List Str} {XP : (Str → Option Value) → Heap → Prop} {YP : World → Heap → Prop} {d : DefRec} {K : Params → PySem.W.Frag} (hn : l.most = some 63) (hdf : d.params.defaults = [])
    (hY : ∀ (w : World) (h : Heap), YP w h → (K w.params).In h) {cl : Str → Addr} (L : ∀ ns : List Int, ns.length ≤ 63 → ∃ ts, m_law_k80 [.fz (.scr ns)] = .ok (.fz (.bl true)) ts)
    (F : ∀ (w : World) (mg : Str → Option Value) (fa : Addr) (h : Heap), (K w.params).In h → h.Ns mainGlobals mg → mg d.name = some (.ref fa) →
      ∃ fd : FuncData, (∀ (s : Shared) (u : Value), BindsTo s fd ⟨[u], []⟩ [("script", u)]) ∧ ∀ base : Heap, (K w.params).In base → base.Ns mainGlobals mg → FnOk l.prog w (K w.params) mg base (L2.CX l.prog w) 6 fa fd ["script"] (spD (K w.params) cl 1 m_law_k80)) :
    PySem.W.WalkO q loose XP YP l.row.toRowW d [] (fun f vs => PySem.call f vs) :=
  L2.walk_of (n := 63) (k := 6) (x := "script") (CX := fun w => L2.CX l.prog w) (sp := fun w => spD (K w.params) cl 1 m_law_k80) hn (by decide) hdf ⟨rfl, by decide, by decide⟩ hY F (fun w H a ns hl _ hS => law_sp L (K w.params) H a ns hl hS) fun w H s e s2 z => cx_no z
end Wk
open PySem PySem.W PyProof.Rows
set_option maxRecDepth 100000 in
set_option maxHeartbeats 0 in
theorem PySem.Challenge.cw_ordersapart_k80_whole_one_writing_each_holds : PySem.Challenge.rw_ordersapart_k80_whole_one_writing_each.Holds := by
  w_on; o_law; k_head; (case hw => w_witness2)
  k_fill
  refine Wk.walk (l := PySem.Challenge.rw_ordersapart_k80_whole_one_writing_each) (cl := fun _ => default) rfl rfl (fun w h Y => PySem.W.kIn_of Y) Wk.okk80 ?F
  case F =>
    intro w mg fa h KX G hmg
    refine' Wk.all_mk KX G hmg ?a0 ?l0 ?c0 ?k0 ?a1 ?l1 ?c1 ?k1 ?a2 ?l2 ?c2 ?k2 ?a3 ?l3 ?c3 ?k3 ?a4 ?l4 ?c4 ?k4 ?a5 ?l5 ?c5 ?k5 ?a6 ?l6 ?c6 ?k6 ?a7 ?l7 ?c7 ?k7 ?a8 ?l8 ?c8 ?k8 ?a9 ?l9 ?c9 ?k9 ?a10 ?l10 ?c10 ?k10 ?a11 ?l11 ?c11 ?k11 ?a12 ?l12 ?c12 ?k12 ?a13 ?l13 ?c13 ?k13 ?a14 ?l14 ?c14 ?k14 ?a15 ?l15 ?c15 ?k15 ?a16 ?l16 ?c16 ?k16 ?a17 ?l17 ?c17 ?k17 ?a18 ?l18 ?c18 ?k18 ?z_bool ?z_enumerate ?z_int ?z_isinstance ?z_len ?z_list ?z_max ?z_min ?z_range ?z_sorted ?z_str ?z_zip ?y_FIGURES ?y_MOST_THINGS
    (case a0 => k_is)
    (case l0 => k_is)
    (case c0 => k_is)
    (case k0 => k_is)
    (case a1 => k_is)
    (case l1 => k_is)
    (case c1 => k_is)
    (case k1 => k_is)
    (case a2 => k_is)
    (case l2 => k_is)
    (case c2 => k_is)
    (case k2 => k_is)
    (case a3 => k_is)
    (case l3 => k_is)
    (case c3 => k_is)
    (case k3 => k_is)
    (case a4 => k_is)
    (case l4 => k_is)
    (case c4 => k_is)
    (case k4 => k_is)
    (case a5 => k_is)
    (case l5 => k_is)
    (case c5 => k_is)
    (case k5 => k_is)
    (case a6 => k_is)
    (case l6 => k_is)
    (case c6 => k_is)
    (case k6 => k_is)
    (case a7 => k_is)
    (case l7 => k_is)
    (case c7 => k_is)
    (case k7 => k_is)
    (case a8 => k_is)
    (case l8 => k_is)
    (case c8 => k_is)
    (case k8 => k_is)
    (case a9 => k_is)
    (case l9 => k_is)
    (case c9 => k_is)
    (case k9 => k_is)
    (case a10 => k_is)
    (case l10 => k_is)
    (case c10 => k_is)
    (case k10 => k_is)
    (case a11 => k_is)
    (case l11 => k_is)
    (case c11 => k_is)
    (case k11 => k_is)
    (case a12 => k_is)
    (case l12 => k_is)
    (case c12 => k_is)
    (case k12 => k_is)
    (case a13 => k_is)
    (case l13 => k_is)
    (case c13 => k_is)
    (case k13 => k_is)
    (case a14 => k_is)
    (case l14 => k_is)
    (case c14 => k_is)
    (case k14 => k_is)
    (case a15 => k_is)
    (case l15 => k_is)
    (case c15 => k_is)
    (case k15 => k_is)
    (case a16 => k_is)
    (case l16 => k_is)
    (case c16 => k_is)
    (case k16 => k_is)
    (case a17 => k_is)
    (case l17 => k_is)
    (case c17 => k_is)
    (case k17 => k_is)
    (case a18 => k_is)
    (case l18 => k_is)
    (case c18 => k_is)
    (case k18 => k_is)
    (case z_bool => k_is)
    (case z_enumerate => k_is)
    (case z_int => k_is)
    (case z_isinstance => k_is)
    (case z_len => k_is)
    (case z_list => k_is)
    (case z_max => k_is)
    (case z_min => k_is)
    (case z_range => k_is)
    (case z_sorted => k_is)
    (case z_str => k_is)
    (case z_zip => k_is)
    (case y_FIGURES => k_is)
    (case y_MOST_THINGS => k_is)

